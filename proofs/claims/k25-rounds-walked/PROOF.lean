import PyProof.Rows.All
import Wide.All
import OpenK.AllK
import Wide.FinOn
import HandS.ForMost
import HandS.ForExc
import KE.DataEq
import KE.KeyNested
import HandS.Wide
import HandS.WideBits
import HandS.TupAny
import HandS.TupMul
import HandS.IsInst
import HandS.Sort
import HandS.SortInts
import HandS.ExcCtx
import HandS.HotCalls
import HandS.CallSlots
import HandS.Zip
import KE.GoesEnum
import HandS.SetFor
import HandS.Deep
import HandS.Text
import HandS.Dict
import HandS.Strs
import KE.KTupSum
import KE.DataMinMax
import HandS.ExcInit
import HandS.ExcField
import HandS.ExcIs
import KE.KExcIs
import KE.DataFind
import HandS.Conv
import KE.KRevSl
import KE.GoesMore
import KE.GoesZip
import PyProof.NeKinds
import PyProof.EqKinds
import HandS.DictEq
import HandS.Iter
import HandS.Style
import KE.KDictKeyed
import PyProof.Rows.TupTab
import PySem.Challenge.RW_turnarrows_k25_rounds_walked
set_option Elab.async false
set_option linter.all false
set_option maxRecDepth 100000
set_option maxHeartbeats 0
/-! A layer over the hand layer: what a def does, as a plain function of data (Nb). -/
namespace Nb
open L2 PySem PySem.Spec PyProof.Rows

abbrev D := PyData
abbrev Fb := Addr → Prop

/-! ### data as values -/
/-- a list that nobody changes any more -/
def FzL (K : PySem.W.Frag) (F : Fb) (H : Hp) (a : Addr) (xs : List V) : Prop :=
  (H a = some (.lst xs) ∧ ¬ F a) ∨ (∃ o, H a = some (.frz o (.lst xs))) ∨
    ∃ (o : Obj) (its : Array Value) (n : Nat), K.lookup a = some o ∧ o.cls = .type "list" ∧ o.dict = none ∧ o.data = .seq its n ∧ its.size ≤ sizeLine ∧ Vals xs its.toList
theorem FzL.sq {K : PySem.W.Frag} {F : Fb} {H : Hp} {a : Addr} {xs : List V} (h : FzL K F H a xs) : SqL K H a xs := by
  rcases h with ⟨h, _⟩ | ⟨o, h⟩ | h
  · exact .inl (.inl h)
  · exact .inl (.inr ⟨o, h⟩)
  · exact .inr h
/-- a tuple without a dict of its own -/
def TupD (K : PySem.W.Frag) (H : Hp) (a : Addr) : Prop := (∃ o u, H a = some (.frz o u) ∧ o.cls = .type "tuple" ∧ o.dict = none) ∨ ∃ o, K.lookup a = some o ∧ o.cls = .type "tuple" ∧ o.dict = none
/-- the object of a new tuple -/
abbrev tobj (us : List Value) : Obj := { cls := .type "tuple", data := .seq us.toArray }
def keyD : Key → D
  | .inl i => .int i
  | .inr x => .str x
mutual
inductive Rel (K : PySem.W.Frag) (F : Fb) (H : Hp) : D → V → Prop
  | non : Rel K F H .none .non
  | bl (b : Bool) : Rel K F H (.bool b) (.bl b)
  | int (i : Int) : Rel K F H (.int i) (.int i)
  | str (x : Str) : Rel K F H (.str x) (.str x)
  | lst {a : Addr} {xs : List V} {ds : List D} : FzL K F H a xs → RelL K F H ds xs → Rel K F H (.list ds) (.ref a)
  | tup {a : Addr} {xs : List V} {ds : List D} : SqT K H a xs → TupD K H a → RelL K F H ds xs → Rel K F H (.tuple ds) (.ref a)
  | dct {a : Addr} {ks : List Key} {xs : List V} {ds : List D} : H a = some (.dK (ks.zip xs)) → ks.length = xs.length → ¬ F a → RelL K F H ds xs → Rel K F H (.dict ((ks.map keyD).zip ds)) (.ref a)
inductive RelL (K : PySem.W.Frag) (F : Fb) (H : Hp) : List D → List V → Prop
  | nil : RelL K F H [] []
  | cons {d : D} {v : V} {ds : List D} {vs : List V} : Rel K F H d v → RelL K F H ds vs → RelL K F H (d :: ds) (v :: vs)
end

/-- what is kept from one heap to a later one: all that nobody may change -/
structure Kp (F F' : Fb) (H H' : Hp) : Prop where
  tup : ∀ a xs, H a = some (.tup xs) → H' a = some (.tup xs)
  frz : ∀ a o u, H a = some (.frz o u) → H' a = some (.frz o u)
  obj : ∀ a o, H a = some o → ¬ F a → H' a = some o ∧ ¬ F' a
theorem Kp.refl (F : Fb) (H : Hp) : Kp F F H H := ⟨fun _ _ h => h, fun _ _ _ h => h, fun _ _ h n => ⟨h, n⟩⟩
theorem Kp.trans {F1 F2 F3 : Fb} {H1 H2 H3 : Hp} (a : Kp F1 F2 H1 H2) (b : Kp F2 F3 H2 H3) : Kp F1 F3 H1 H3 :=
  ⟨fun c xs h => b.tup c xs (a.tup c xs h), fun c o u h => b.frz c o u (a.frz c o u h), fun c o h n => let ⟨h1, n1⟩ := a.obj c o h n; b.obj c o h1 n1⟩
theorem Kp.same {F : Fb} {H H' : Hp} (s : Same H H') : Kp F F H H' := ⟨fun _ _ h => s _ _ h, fun _ _ _ h => s _ _ h, fun _ _ h n => ⟨s _ _ h, n⟩⟩
theorem Kp.weak {F F' : Fb} {H : Hp} (h : ∀ a, F' a → F a) : Kp F F' H H := ⟨fun _ _ h => h, fun _ _ _ h => h, fun a _ e n => ⟨e, fun z => n (h a z)⟩⟩
/-- a new address is laid; it may be one that changes -/
theorem Kp.laid {F F' : Fb} {H : Hp} {p : Addr} {o : HO} (n : H p = none) (h : ∀ a, F' a → F a ∨ a = p) : Kp F F' H (upd H p o) :=
  ⟨fun a xs e => by rw [upd_ne (ne_of_none e n)]; exact e, fun a u v e => by rw [upd_ne (ne_of_none e n)]; exact e,
   fun a u e nf => by
    have ne := ne_of_none e n
    refine ⟨by rw [upd_ne ne]; exact e, fun z => ?_⟩
    rcases h a z with z | z
    · exact nf z
    · exact ne z⟩
/-- an address that may change is written -/
theorem Kp.write {F : Fb} {H : Hp} {p : Addr} {o o' : HO} (e : H p = some o) (m : (∃ xs, o = .lst xs) ∨ (∃ xs, o = .dK xs) ∨ (∃ xs, o = .dT xs) ∨ ∃ f, o = .ext f) (f : F p) : Kp F F H (upd H p o') := by
  have nt : ∀ a u, H a = some u → (∀ xs, u ≠ .lst xs) → (∀ xs, u ≠ .dK xs) → (∀ xs, u ≠ .dT xs) → (∀ f, u ≠ .ext f) → a ≠ p := fun a u h n1 n2 n3 n4 z => by
    subst z; rw [e] at h; cases h
    rcases m with ⟨xs, rfl⟩ | ⟨xs, rfl⟩ | ⟨xs, rfl⟩ | ⟨xs, rfl⟩
    · exact n1 _ rfl
    · exact n2 _ rfl
    · exact n3 _ rfl
    · exact n4 _ rfl
  refine ⟨fun a xs h => ?_, fun a u v h => ?_, fun a u h n => ⟨?_, n⟩⟩
  · rw [upd_ne (nt a _ h (by intro _ q; cases q) (by intro _ q; cases q) (by intro _ q; cases q) (by intro _ q; cases q))]; exact h
  · rw [upd_ne (nt a _ h (by intro _ q; cases q) (by intro _ q; cases q) (by intro _ q; cases q) (by intro _ q; cases q))]; exact h
  · rw [upd_ne (fun z => n (by rw [z]; exact f))]; exact h

theorem FzL.keep {K : PySem.W.Frag} {F F' : Fb} {H H' : Hp} {a : Addr} {xs : List V} (k : Kp F F' H H') (h : FzL K F H a xs) : FzL K F' H' a xs := by
  rcases h with ⟨h, n⟩ | ⟨o, h⟩ | h
  · exact .inl (k.obj _ _ h n)
  · exact .inr (.inl ⟨o, k.frz _ _ _ h⟩)
  · exact .inr (.inr h)
theorem sqT_keep {K : PySem.W.Frag} {F F' : Fb} {H H' : Hp} {a : Addr} {xs : List V} (k : Kp F F' H H') (h : SqT K H a xs) : SqT K H' a xs := by
  rcases h with (h | ⟨o, h⟩) | h
  · exact .inl (.inl (k.tup _ _ h))
  · exact .inl (.inr ⟨o, k.frz _ _ _ h⟩)
  · exact .inr h
theorem TupD.keep {K : PySem.W.Frag} {F F' : Fb} {H H' : Hp} {a : Addr} (k : Kp F F' H H') (h : TupD K H a) : TupD K H' a := by
  rcases h with ⟨o, u, h, c⟩ | h
  · exact .inl ⟨o, u, k.frz _ _ _ h, c⟩
  · exact .inr h
section
variable {K : PySem.W.Frag} {F F' : Fb} {H H' : Hp}
mutual
theorem Rel.keep (k : Kp F F' H H') : ∀ {d : D} {v : V}, Rel K F H d v → Rel K F' H' d v
  | _, _, .non => .non
  | _, _, .bl b => .bl b
  | _, _, .int i => .int i
  | _, _, .str x => .str x
  | _, _, .lst h r => .lst (h.keep k) (RelL.keep k r)
  | _, _, .tup h t r => .tup (sqT_keep k h) (t.keep k) (RelL.keep k r)
  | _, _, .dct h l n r => let ⟨h1, n1⟩ := k.obj _ _ h n; .dct h1 l n1 (RelL.keep k r)
theorem RelL.keep (k : Kp F F' H H') : ∀ {ds : List D} {vs : List V}, RelL K F H ds vs → RelL K F' H' ds vs
  | _, _, .nil => .nil
  | _, _, .cons a b => .cons (Rel.keep k a) (RelL.keep k b)
end
theorem RelL.length : ∀ {ds : List D} {vs : List V}, RelL K F H ds vs → ds.length = vs.length
  | _, _, .nil => rfl
  | _, _, .cons _ b => by rw [List.length_cons, List.length_cons, RelL.length b]
theorem RelL.get : ∀ {ds : List D} {vs : List V} {i : Nat} {d : D}, RelL K F H ds vs → ds[i]? = some d → ∃ v, vs[i]? = some v ∧ Rel K F H d v
  | _, _, _, _, .nil, e => by simp at e
  | _, _, 0, _, .cons a _, e => by simp at e; subst e; exact ⟨_, rfl, a⟩
  | _, _, i + 1, d, .cons _ b, e => by
    obtain ⟨v, h1, h2⟩ := RelL.get (i := i) (d := d) b (by simpa using e)
    exact ⟨v, by simpa using h1, h2⟩
theorem RelL.getV : ∀ {ds : List D} {vs : List V} {i : Nat} {v : V}, RelL K F H ds vs → vs[i]? = some v → ∃ d, ds[i]? = some d ∧ Rel K F H d v
  | _, _, _, _, .nil, e => by simp at e
  | _, _, 0, _, .cons a _, e => by simp at e; subst e; exact ⟨_, rfl, a⟩
  | _, _, i + 1, v, .cons _ b, e => by
    obtain ⟨d, h1, h2⟩ := RelL.getV (i := i) (v := v) b (by simpa using e)
    exact ⟨d, by simpa using h1, h2⟩
theorem RelL.append : ∀ {ds es : List D} {vs us : List V}, RelL K F H ds vs → RelL K F H es us → RelL K F H (ds ++ es) (vs ++ us)
  | _, _, _, _, .nil, r => r
  | _, _, _, _, .cons a b, r => .cons a (RelL.append b r)
theorem RelL.set {d : D} {v : V} (r : Rel K F H d v) : ∀ {ds : List D} {vs : List V} (i : Nat), RelL K F H ds vs → RelL K F H (ds.set i d) (vs.set i v)
  | _, _, _, .nil => .nil
  | _, _, 0, .cons _ b => .cons r b
  | _, _, i + 1, .cons a b => .cons a (RelL.set r i b)
theorem RelL.take : ∀ {ds : List D} {vs : List V} (n : Nat), RelL K F H ds vs → RelL K F H (ds.take n) (vs.take n)
  | _, _, 0, _ => by rw [List.take_zero, List.take_zero]; exact .nil
  | _, _, _ + 1, .nil => .nil
  | _, _, n + 1, .cons a b => .cons a (RelL.take n b)
theorem RelL.drop : ∀ {ds : List D} {vs : List V} (n : Nat), RelL K F H ds vs → RelL K F H (ds.drop n) (vs.drop n)
  | _, _, 0, r => r
  | _, _, _ + 1, .nil => .nil
  | _, _, n + 1, .cons _ b => RelL.drop n b
theorem RelL.eraseIdx : ∀ {ds : List D} {vs : List V} (n : Nat), RelL K F H ds vs → RelL K F H (ds.eraseIdx n) (vs.eraseIdx n)
  | _, _, _, .nil => by rw [List.eraseIdx_nil, List.eraseIdx_nil]; exact .nil
  | _, _, 0, .cons _ b => b
  | _, _, n + 1, .cons a b => .cons a (RelL.eraseIdx n b)
theorem RelL.dropLast : ∀ {ds : List D} {vs : List V}, RelL K F H ds vs → RelL K F H ds.dropLast vs.dropLast
  | _, _, .nil => .nil
  | _, _, .cons _ .nil => .nil
  | _, _, .cons a (.cons b r) => .cons a (RelL.dropLast (.cons b r))
theorem RelL.rep {d : D} {v : V} (r : Rel K F H d v) : ∀ n : Nat, RelL K F H (List.replicate n d) (List.replicate n v)
  | 0 => .nil
  | n + 1 => .cons r (RelL.rep r n)
theorem RelL.flatRep {ds : List D} {vs : List V} (r : RelL K F H ds vs) : ∀ n : Nat, RelL K F H (List.replicate n ds).flatten (List.replicate n vs).flatten
  | 0 => .nil
  | n + 1 => by rw [List.replicate_succ, List.replicate_succ, List.flatten_cons, List.flatten_cons]; exact r.append (RelL.flatRep r n)
theorem RelL.ints : ∀ (ns : List Int), RelL K F H (ns.map PyData.int) (ns.map V.int)
  | [] => .nil
  | n :: ns => .cons (.int n) (RelL.ints ns)
theorem RelL.toInts : ∀ {ns : List Int} {vs : List V}, RelL K F H (ns.map PyData.int) vs → vs = ns.map V.int
  | [], _, .nil => rfl
  | n :: ns, _, .cons (.int _) r => by rw [List.map_cons, RelL.toInts r]
theorem RelL.bls : ∀ (ns : List Bool), RelL K F H (ns.map PyData.bool) (ns.map V.bl)
  | [] => .nil
  | n :: ns => .cons (.bl n) (RelL.bls ns)
theorem RelL.toBls : ∀ {ns : List Bool} {vs : List V}, RelL K F H (ns.map PyData.bool) vs → vs = ns.map V.bl
  | [], _, .nil => rfl
  | n :: ns, _, .cons (.bl _) r => by rw [List.map_cons, RelL.toBls r]
theorem RelL.strs : ∀ (ns : List Str), RelL K F H (ns.map PyData.str) (ns.map V.str)
  | [] => .nil
  | n :: ns => .cons (.str n) (RelL.strs ns)
theorem RelL.toStrs : ∀ {ns : List Str} {vs : List V}, RelL K F H (ns.map PyData.str) vs → vs = ns.map V.str
  | [], _, .nil => rfl
  | n :: ns, _, .cons (.str _) r => by rw [List.map_cons, RelL.toStrs r]
theorem Rel.toInt {i : Int} {v : V} (h : Rel K F H (.int i) v) : v = .int i := by cases h; rfl
theorem Rel.toBl {i : Bool} {v : V} (h : Rel K F H (.bool i) v) : v = .bl i := by cases h; rfl
theorem Rel.toStr {i : Str} {v : V} (h : Rel K F H (.str i) v) : v = .str i := by cases h; rfl
theorem Rel.toNon {v : V} (h : Rel K F H .none v) : v = .non := by cases h; rfl
theorem Rel.toTup {ds : List D} {v : V} (h : Rel K F H (.tuple ds) v) : ∃ a xs, v = .ref a ∧ SqT K H a xs ∧ RelL K F H ds xs := by cases h with | tup h _ r => exact ⟨_, _, rfl, h, r⟩
theorem Rel.toTupD {ds : List D} {v : V} (h : Rel K F H (.tuple ds) v) : ∃ a xs, v = .ref a ∧ SqT K H a xs ∧ TupD K H a ∧ RelL K F H ds xs := by cases h with | tup h t r => exact ⟨_, _, rfl, h, t, r⟩
/-- data; or a new pair, whose own dict is not looked at -/
def RelW (K : PySem.W.Frag) (F : Fb) (H : Hp) (d : D) (v : V) : Prop := Rel K F H d v ∨ ∃ ds a xs, d = .tuple ds ∧ v = .ref a ∧ SqT K H a xs ∧ RelL K F H ds xs
theorem RelW.toTup {ds : List D} {v : V} (h : RelW K F H (.tuple ds) v) : ∃ a xs, v = .ref a ∧ SqT K H a xs ∧ RelL K F H ds xs := by
  rcases h with h | ⟨ds', a, xs, e, h1, h2, h3⟩
  · exact h.toTup
  · cases e; exact ⟨a, xs, h1, h2, h3⟩
def RelK (wk : Bool) (K : PySem.W.Frag) (F : Fb) (H : Hp) (d : D) (v : V) : Prop := if wk = true then RelW K F H d v else Rel K F H d v
theorem RelK.of {wk : Bool} {d : D} {v : V} (h : Rel K F H d v) : RelK wk K F H d v := by
  unfold RelK
  split
  · exact .inl h
  · exact h
theorem RelK.w {wk : Bool} {d : D} {v : V} (h : RelK wk K F H d v) : RelW K F H d v := by
  unfold RelK at h
  split at h
  · exact h
  · exact .inl h
theorem Rel.toLst {ds : List D} {v : V} (h : Rel K F H (.list ds) v) : ∃ a xs, v = .ref a ∧ FzL K F H a xs ∧ RelL K F H ds xs := by cases h with | lst h r => exact ⟨_, _, rfl, h, r⟩
end

/-! ### == of data -/
mutual
theorem Rel.dp {K : PySem.W.Frag} {F : Fb} {H : Hp} : ∀ {d : D} {v : V}, d.plain = true → Rel K F H d v → Dp K H v d
  | _, _, _, .non => .non
  | _, _, _, .bl b => .bl b
  | _, _, _, .int i => .int i
  | _, _, _, .str x => .str x
  | .list ds, _, p, .lst h r => .lst h.sq (RelL.dp (by simpa [PyData.plain] using p) r)
  | .tuple ds, _, p, .tup h _ r => .tup h (RelL.dp (by simpa [PyData.plain] using p) r)
  | _, _, p, .dct _ _ _ _ => nomatch p
theorem RelL.dp {K : PySem.W.Frag} {F : Fb} {H : Hp} : ∀ {ds : List D} {vs : List V}, PyData.plainAll ds = true → RelL K F H ds vs → DpAll K H vs ds
  | _, _, _, .nil => .nil
  | d :: ds, _, p, .cons a b => by
    have p' : d.plain = true ∧ PyData.plainAll ds = true := by simpa [PyData.plainAll] using p
    exact .cons (Rel.dp p'.1 a) (RelL.dp p'.2 b)
end
end Nb
namespace Nb
open L2 PySem PySem.Spec PyProof.Rows

/-! ### what a name holds -/
/-- a thing that changes -/
inductive Cl where
  | lst (ds : List D)
  | dct (ks : List Key) (ds : List D)
/-- an exception -/
structure Ex where
  cls : Str
  fs : List (Str × D)
inductive Sl where
  | no | v (d : D) | o (c : Cl) | io (c : Cl) | x (e : Ex) | n (kns : List ((List Int × Int) × Int))
abbrev Ev := List Sl
/-- a value on the way: data, what a name holds, a new thing -/
inductive Val where
  | d (d : D) | s (i : Nat) | f (c : Cl)
inductive R (α : Type) where
  | ok (a : α) (e : Ev) | ex (x : Ex) (e : Ev) | bad
abbrev M (α : Type) := Ev → R α
inductive Out where
  | nx (e : Ev) | rt (d : D) (e : Ev) | rto (c : Cl) (e : Ev) | rtt (d : D) (c : Cl) (e : Ev) | bk (e : Ev) | ct (e : Ev) | ex (x : Ex) (e : Ev) | bad
abbrev S := Ev → Out
inductive FOut where
  | ok (d : D) (o : List Sl) | oko (c : Cl) (o : List Sl) | okt (d : D) (c : Cl) (o : List Sl) | ex (x : Ex) (o : List Sl) | bad
abbrev Fn := List Sl → FOut

def clD : Cl → D
  | .lst ds => .list ds
  | .dct ks ds => .dict ((ks.map keyD).zip ds)
def isC : Sl → Bool
  | .o _ => true
  | .io _ => true
  | .n _ => true
  | _ => false
def isIo : Sl → Bool
  | .io _ => true
  | _ => false

/-! ### how they lie in a heap -/
def ClOk (K : PySem.W.Frag) (F : Fb) (H : Hp) (a : Addr) : Cl → Prop
  | .lst ds => ∃ vs, H a = some (.lst vs) ∧ RelL K F H ds vs
  | .dct ks ds => ∃ vs, H a = some (.dK (ks.zip vs)) ∧ ks.length = vs.length ∧ RelL K F H ds vs
/-- a dict of one's own, its keys pairs of a tuple of ints and an int, its values ints -/
def keyN (k : List Int × Int) : NestedKey := .tup [.tup (k.1.map .num), .num k.2]
def datN (k : List Int × Int) : D := .tuple [.tuple (k.1.map .int), .int k.2]
def hashN (k : List Int × Int) : Int := reduceHash (Builtin.Tuple.tupleHashOf [reduceHash (Builtin.Tuple.tupleHashOf (k.1.map hashInt)), hashInt k.2])
def EnN (kb : (List Int × Int) × Addr × Int) (e : DictEntry) : Prop := e.hash = hashN kb.1 ∧ e.key = .ref kb.2.1 ∧ ∃ t, e.val = .int kb.2.2 t
def NKo (a : Addr) (kbs : List ((List Int × Int) × Addr × Int)) : HO := .ext fun h => (a == sysModules) = false ∧ kbs.length ≤ sizeLine ∧ (kbs.map (·.1)).Nodup ∧ ∃ o es ep, h.get? a = some o ∧ o.ExactDict ∧ o.data = .dict es ep ∧ Paired EnN kbs es.toList
def KbN (K : PySem.W.Frag) (F : Fb) (H : Hp) (kn : (List Int × Int) × Int) (kb : (List Int × Int) × Addr × Int) : Prop := kb.1 = kn.1 ∧ kb.2.2 = kn.2 ∧ Rel K F H (datN kn.1) (.ref kb.2.1)
def NkOk (K : PySem.W.Frag) (F : Fb) (H : Hp) (a : Addr) (kns : List ((List Int × Int) × Int)) : Prop := ∃ kbs, H a = some (NKo a kbs) ∧ Paired (KbN K F H) kns kbs
def ExL (F : Fb) (H : Hp) (d : Addr) (us : List (Str × V)) : Prop := H d = some (.xd us) ∧ ¬ F d
/-- an exception's class and fields -/
def RelX (K : PySem.W.Frag) (mg : Str → Option Value) (F : Fb) (H : Hp) (e : Ex) (cls : Value) (dx : Option Addr) : Prop :=
  (∃ C, mg e.cls = some (.ref C) ∧ cls = .ref C) ∧
    ((e.fs = [] ∧ dx = none) ∨ ∃ d us, dx = some d ∧ e.fs ≠ [] ∧ ExL F H d ((e.fs.map (·.1)).zip us) ∧ RelL K F H (e.fs.map (·.2)) us)

/-- where a body stands: H0 the heap at its entry, M what it may change of it, P the addresses of what is handed in to be changed, xa the exception that is handled -/
structure Ct where
  K : PySem.W.Frag
  mg : Str → Option Value
  H0 : Hp
  M : Fb
  P : Nat → Addr
  I : Nat → Bool
  xa : Option (Addr × Value × Option Addr)

def Fo (O : Fb) (env : Ev) (ad : Nat → Addr) : Fb := fun a => O a ∨ ∃ i s, env[i]? = some s ∧ isC s = true ∧ ad i = a

def SlOk (G : Ct) (F : Fb) (H : Hp) (a : Addr) (x : Option V) : Sl → Prop
  | .no => True
  | .v d => ∃ v, x = some v ∧ Rel G.K F H d v
  | .o c => x = some (.ref a) ∧ ClOk G.K F H a c
  | .io c => x = some (.ref a) ∧ ClOk G.K F H a c
  | .x e => ∃ b cls dx, x = some (.ref b) ∧ RelX G.K G.mg F H e cls dx ∧ G.xa = some (b, cls, dx)
  | .n kns => x = some (.ref a) ∧ NkOk G.K F H a kns

structure J (G : Ct) (O : Fb) (ad : Nat → Addr) (env : Ev) (σ : L2.St) (H : Hp) : Prop where
  len : σ.length = env.length
  inj : ∀ i j s t, env[i]? = some s → isC s = true → env[j]? = some t → isC t = true → ad i = ad j → i = j
  out : ∀ i s, env[i]? = some s → isC s = true → ¬ O (ad i)
  outs : ∀ a, O a → H a ≠ none
  io : ∀ i c, env[i]? = some (.io c) → ad i = G.P i
  ix : ∀ i, G.I i = true ↔ ∃ c, env[i]? = some (.io c)
  own : ∀ i s, env[i]? = some s → isC s = true → isIo s = false → G.H0 (ad i) = none
  mi : ∀ a, G.M a ↔ ∃ i, G.I i = true ∧ G.P i = a
  fr : ∀ a o, G.H0 a = some o → ¬ G.M a → H a = some o
  at_ : ∀ i s, env[i]? = some s → SlOk G (Fo O env ad) H (ad i) (σ.getD i none) s

/-- Kp, with what the outer ones hold -/
structure Kq (O F F' : Fb) (H H' : Hp) : Prop where
  kp : Kp F F' H H'
  out : ∀ a o, O a → H a = some o → H' a = some o
theorem Kq.refl (O F : Fb) (H : Hp) : Kq O F F H H := ⟨Kp.refl _ _, fun _ _ _ h => h⟩
theorem Kq.trans {O F1 F2 F3 : Fb} {H1 H2 H3 : Hp} (a : Kq O F1 F2 H1 H2) (b : Kq O F2 F3 H2 H3) : Kq O F1 F3 H1 H3 := ⟨a.kp.trans b.kp, fun c o h e => b.out c o h (a.out c o h e)⟩
theorem Kq.same {O F : Fb} {H H' : Hp} (s : Same H H') : Kq O F F H H' := ⟨Kp.same s, fun _ _ _ h => s _ _ h⟩

section
variable {K : PySem.W.Frag} {mg : Str → Option Value} {F F' : Fb} {H H' : Hp} {a : Addr}
/-- what a changing thing holds is kept, where itself is -/
theorem ClOk.keep {c : Cl} (k : Kp F F' H H') (h : ∀ o, H a = some o → H' a = some o) (x : ClOk K F H a c) : ClOk K F' H' a c := by
  cases c with
  | lst ds => obtain ⟨vs, e, r⟩ := x; exact ⟨vs, h _ e, r.keep k⟩
  | dct ks ds => obtain ⟨vs, e, l, r⟩ := x; exact ⟨vs, h _ e, l, r.keep k⟩
theorem ClOk.there {c : Cl} (x : ClOk K F H a c) : ∃ o, H a = some o ∧ ((∃ xs, o = .lst xs) ∨ (∃ xs, o = .dK xs) ∨ (∃ xs, o = .dT xs) ∨ ∃ f, o = .ext f) := by
  cases c with
  | lst ds => obtain ⟨vs, e, r⟩ := x; exact ⟨_, e, .inl ⟨_, rfl⟩⟩
  | dct ks ds => obtain ⟨vs, e, l, r⟩ := x; exact ⟨_, e, .inr (.inl ⟨_, rfl⟩)⟩
theorem pairN {K : PySem.W.Frag} {F F' : Fb} {H H' : Hp} (k : Kp F F' H H') {kns : List ((List Int × Int) × Int)} {kbs : List ((List Int × Int) × Addr × Int)} (p : Paired (KbN K F H) kns kbs) : Paired (KbN K F' H') kns kbs := by
  induction p with
  | nil => exact .nil
  | cons h _ ih => exact .cons ⟨h.1, h.2.1, h.2.2.keep k⟩ ih
theorem NkOk.keep {kns : List ((List Int × Int) × Int)} (k : Kp F F' H H') (h : ∀ o, H a = some o → H' a = some o) (x : NkOk K F H a kns) : NkOk K F' H' a kns := by
  obtain ⟨kbs, e, p⟩ := x
  exact ⟨kbs, h _ e, pairN k p⟩
theorem RelX.keep {e : Ex} {cls : Value} {dx : Option Addr} (k : Kp F F' H H') (x : RelX K mg F H e cls dx) : RelX K mg F' H' e cls dx := by
  obtain ⟨h1, h2⟩ := x
  refine ⟨h1, ?_⟩
  rcases h2 with h2 | ⟨d, us, e1, e2, ⟨e3, e4⟩, r⟩
  · exact .inl h2
  · exact .inr ⟨d, us, e1, e2, k.obj _ _ e3 e4, r.keep k⟩
theorem ClOk.rel {c : Cl} (x : ClOk K F H a c) (n : ¬ F a) : Rel K F H (clD c) (.ref a) := by
  cases c with
  | lst ds => obtain ⟨vs, e, r⟩ := x; exact .lst (.inl ⟨e, n⟩) r
  | dct ks ds => obtain ⟨vs, e, l, r⟩ := x; exact .dct e l n r
end

section
variable {G : Ct} {O : Fb} {ad : Nat → Addr} {env : Ev} {σ : L2.St} {H H' : Hp}
theorem SlOk.keep {F F' : Fb} {a : Addr} {x : Option V} {s : Sl} (k : Kp F F' H H') (h : isC s = true → ∀ o, H a = some o → H' a = some o) (y : SlOk G F H a x s) : SlOk G F' H' a x s := by
  cases s with
  | no => trivial
  | v d => obtain ⟨v, e, r⟩ := y; exact ⟨v, e, r.keep k⟩
  | o c => obtain ⟨e, r⟩ := y; exact ⟨e, r.keep k (h rfl)⟩
  | io c => obtain ⟨e, r⟩ := y; exact ⟨e, r.keep k (h rfl)⟩
  | x e =>
    obtain ⟨b, cls, dx, e1, r, q⟩ := y
    exact ⟨b, cls, dx, e1, r.keep k, q⟩
  | n kns => obtain ⟨e, r⟩ := y; exact ⟨e, r.keep k (h rfl)⟩
theorem SlOk.there {F : Fb} {a : Addr} {x : Option V} {s : Sl} (y : SlOk G F H a x s) (c : isC s = true) : x = some (.ref a) ∧ ∃ o, H a = some o ∧ ((∃ xs, o = .lst xs) ∨ (∃ xs, o = .dK xs) ∨ (∃ xs, o = .dT xs) ∨ ∃ f, o = .ext f) := by
  cases s with
  | no => cases c
  | v d => cases c
  | o c => obtain ⟨e, r⟩ := y; exact ⟨e, r.there⟩
  | io c => obtain ⟨e, r⟩ := y; exact ⟨e, r.there⟩
  | x e => cases c
  | n kns => obtain ⟨e, kbs, z, _⟩ := y; exact ⟨e, _, z, .inr (.inr (.inr ⟨_, rfl⟩))⟩
/-- what may change stands there -/
theorem J.fo (j : J G O ad env σ H) : ∀ a, Fo O env ad a → H a ≠ none := fun a h => by
  rcases h with h | ⟨i, s, e, c, rfl⟩
  · exact j.outs a h
  · obtain ⟨_, o, z, _⟩ := (j.at_ i s e).there c
    rw [z]; exact fun q => nomatch q
theorem J.fresh (j : J G O ad env σ H) {p : Addr} (n : H p = none) : ¬ Fo O env ad p ∧ G.H0 p = none := by
  refine ⟨fun h => j.fo p h n, ?_⟩
  cases e : G.H0 p with
  | none => rfl
  | some o =>
    by_cases m : G.M p
    · obtain ⟨i, hi, rfl⟩ := (j.mi p).mp m
      obtain ⟨c, hc⟩ := (j.ix i).mp hi
      rw [← j.io i c hc] at n
      exact absurd n (j.fo _ (.inr ⟨i, _, hc, rfl, rfl⟩))
    · rw [j.fr p o e m] at n; cases n
/-- the heap has grown -/
theorem J.same (j : J G O ad env σ H) (s : Same H H') : J G O ad env σ H' where
  len := j.len
  inj := j.inj
  out := j.out
  outs := fun a h n => j.outs a h (s.free n)
  io := j.io
  ix := j.ix
  own := j.own
  mi := j.mi
  fr := fun a o h m => s _ _ (j.fr a o h m)
  at_ := fun i t h => (j.at_ i t h).keep (Kp.same s) fun _ _ e => s _ _ e
/-- fewer outer ones -/
theorem J.less {O' : Fb} (j : J G O ad env σ H) (h : ∀ a, O' a → O a) : J G O' ad env σ H where
  len := j.len
  inj := j.inj
  out := fun i s e c z => j.out i s e c (h _ z)
  outs := fun a z => j.outs a (h a z)
  io := j.io
  ix := j.ix
  own := j.own
  mi := j.mi
  fr := j.fr
  at_ := fun i t e => (j.at_ i t e).keep (Kp.weak fun a z => by
    rcases z with z | z
    · exact .inl (h a z)
    · exact .inr z) fun _ _ e => e
/-- a new address is laid; it is one of the outer ones from now on -/
abbrev Add (O : Fb) (p : Addr) : Fb := fun a => O a ∨ a = p
theorem fo_add {p : Addr} : ∀ a, Fo (Add O p) env ad a → Fo O env ad a ∨ a = p := fun a h => by
  rcases h with (h | h) | h
  · exact .inl (.inl h)
  · exact .inr h
  · exact .inl (.inr h)
theorem J.laid {p : Addr} {o : HO} (j : J G O ad env σ H) (n : H p = none) : J G (Add O p) ad env σ (upd H p o) where
  len := j.len
  inj := j.inj
  out := fun i s e c z => by
    rcases z with z | z
    · exact j.out i s e c z
    · exact (j.fresh n).1 (.inr ⟨i, s, e, c, z⟩)
  outs := fun a z => by
    by_cases h : a = p
    · subst h; rw [upd_same]; exact fun q => nomatch q
    · rw [upd_ne h]
      rcases z with z | z
      · exact j.outs a z
      · exact absurd z h
  io := j.io
  ix := j.ix
  own := j.own
  mi := j.mi
  fr := fun a o' h m => by rw [upd_ne (ne_of_none (j.fr a o' h m) n)]; exact j.fr a o' h m
  at_ := fun i t e => (j.at_ i t e).keep (Kp.laid n fo_add) fun _ o' h => by rw [upd_ne (ne_of_none h n)]; exact h
end
end Nb
namespace Nb
open L2 PySem PySem.Spec PyProof.Rows

/-! ### from state to state -/
structure Kr (O F F' : Fb) (H H' : Hp) : Prop where
  kq : Kq O F F' H H'
  dom : ∀ a, H a ≠ none → H' a ≠ none
theorem Kr.refl (O F : Fb) (H : Hp) : Kr O F F H H := ⟨Kq.refl _ _ _, fun _ h => h⟩
theorem Kr.trans {O F1 F2 F3 : Fb} {H1 H2 H3 : Hp} (a : Kr O F1 F2 H1 H2) (b : Kr O F2 F3 H2 H3) : Kr O F1 F3 H1 H3 := ⟨a.kq.trans b.kq, fun c h => b.dom c (a.dom c h)⟩
theorem Same.dom {H H' : Hp} (s : Same H H') : ∀ a, H a ≠ none → H' a ≠ none := fun a h n => h (s.free n)
theorem Kr.same {O F : Fb} {H H' : Hp} (s : Same H H') : Kr O F F H H' := ⟨Kq.same s, Same.dom s⟩
theorem Kr.none {O F F' : Fb} {H H' : Hp} (k : Kr O F F' H H') {p : Addr} (n : H' p = none) : H p = none := by
  cases e : H p with
  | none => rfl
  | some o => exact absurd n (k.dom p (by rw [e]; exact fun q => nomatch q))
/-- where fewer are outer -/
theorem Kr.less {G : Ct} {O O1 : Fb} {ad1 ad2 : Nat → Addr} {env1 env2 : Ev} {σ : L2.St} {H1 H2 : Hp} (h : ∀ a, O a → O1 a) (j : J G O1 ad2 env2 σ H2) (k : Kr O1 (Fo O1 env1 ad1) (Fo O1 env2 ad2) H1 H2) :
    Kr O (Fo O env1 ad1) (Fo O env2 ad2) H1 H2 := by
  refine ⟨⟨⟨k.kq.kp.tup, k.kq.kp.frz, fun a o e n => ?_⟩, fun a o z e => k.kq.out a o (h a z) e⟩, k.dom⟩
  by_cases o1 : O1 a
  · refine ⟨k.kq.out a o o1 e, fun z => ?_⟩
    rcases z with z | ⟨i, s, e1, c, rfl⟩
    · exact n (.inl z)
    · exact j.out i s e1 c o1
  · obtain ⟨e2, n2⟩ := k.kq.kp.obj a o e fun z => by
      rcases z with z | z
      · exact o1 z
      · exact n (.inr z)
    refine ⟨e2, fun z => n2 ?_⟩
    rcases z with z | z
    · exact .inl (h a z)
    · exact .inr z

/-! ### a value on the way -/
def ValOk (G : Ct) (O : Fb) (H : Hp) (ad : Nat → Addr) (env : Ev) (σ : L2.St) (H' : Hp) : Val → V → Prop
  | .d d, v => J G O ad env σ H' ∧ Rel G.K (Fo O env ad) H' d v
  | .s i, v => J G O ad env σ H' ∧ σ.getD i none = some v
  | .f c, v => ∃ p, v = .ref p ∧ H p = none ∧ ¬ O p ∧ J G (Add O p) ad env σ H' ∧ ClOk G.K (Fo (Add O p) env ad) H' p c
def valO (O : Fb) : Val → V → Fb
  | .f _, .ref p => Add O p
  | _, _ => O
def VB (G : Ct) (B O : Fb) (ad : Nat → Addr) (env : Ev) (σ : L2.St) (H : Hp) : Val → V → Prop
  | .d d, v => Rel G.K (Fo O env ad) H d v
  | .s i, v => σ.getD i none = some v
  | .f c, v => ∃ p, v = .ref p ∧ O p ∧ ¬ B p ∧ ClOk G.K (Fo O env ad) H p c
theorem valO_le {O : Fb} (val : Val) (v : V) : ∀ a, O a → valO O val v a := fun a h => by
  unfold valO
  split
  · exact .inl h
  · exact h
section
variable {G : Ct} {W : WX} {B O O1 : Fb} {ad ad1 ad2 : Nat → Addr} {env env1 env2 : Ev} {σ : L2.St} {H H1 H2 H' : Hp} {val : Val} {v : V}
theorem ValOk.j (h : ValOk G O H ad env σ H' val v) : J G (valO O val v) ad env σ H' := by
  cases val with
  | d d => exact h.1
  | s i => exact h.1
  | f c => obtain ⟨p, rfl, _, _, j, _⟩ := h; exact j
theorem ValOk.j0 (h : ValOk G O H ad env σ H' val v) : J G O ad env σ H' := h.j.less (valO_le val v)
theorem ValOk.vb (h : ValOk G O H ad env σ H' val v) (hB : ∀ a, B a → O a) : VB G B (valO O val v) ad env σ H' val v := by
  cases val with
  | d d => exact h.2
  | s i => exact h.2
  | f c => obtain ⟨p, rfl, _, n, j, x⟩ := h; exact ⟨p, rfl, .inr rfl, fun z => n (hB p z), x⟩
theorem VB.keep {O' : Fb} (h : VB G B O ad env σ H val v) (k : Kp (Fo O env ad) (Fo O' env2 ad2) H H2) (ho : ∀ a o, O a → H a = some o → H2 a = some o) (hl : ∀ a, O a → O' a) : VB G B O' ad2 env2 σ H2 val v := by
  cases val with
  | d d => exact Rel.keep k h
  | s i => exact h
  | f c => obtain ⟨p, rfl, z, n, x⟩ := h; exact ⟨p, rfl, hl p z, n, x.keep k fun o e => ho p o z e⟩
/-- an older value, behind a later one -/
theorem VB.later {val2 : Val} {v2 : V} (h : VB G B O1 ad1 env1 σ H1 val v) (k : Kr O1 (Fo O1 env1 ad1) (Fo O1 env2 ad2) H1 H2) (w : ValOk G O1 H1 ad2 env2 σ H2 val2 v2) : VB G B (valO O1 val2 v2) ad2 env2 σ H2 val v := by
  refine h.keep ⟨k.kq.kp.tup, k.kq.kp.frz, fun a o e n => ?_⟩ k.kq.out (valO_le val2 v2)
  obtain ⟨e2, n2⟩ := k.kq.kp.obj a o e n
  refine ⟨e2, fun z => ?_⟩
  cases val2 with
  | d d => exact n2 z
  | s i => exact n2 z
  | f c =>
    obtain ⟨p, rfl, np, _, _, _⟩ := w
    rcases z with (z | z) | z
    · exact n2 (.inl z)
    · rw [z] at e; rw [e] at np; cases np
    · exact n2 (.inr z)
end

/-! ### readings -/
def PostE (G : Ct) (W : WX) (O : Fb) (ad : Nat → Addr) (env : Ev) (σ : L2.St) (H : Hp) (Q : VK) : R Val → Prop
  | .ok val e' => ∀ ad' v H', Kr O (Fo O env ad) (Fo O e' ad') H H' → ValOk G O H ad' e' σ H' val v → Q v H'
  | .ex x e' => ∀ ad' cls dx H', Kr O (Fo O env ad) (Fo O e' ad') H H' → J G O ad' e' σ H' → RelX G.K G.mg (Fo O e' ad') H' x cls dx → W cls dx σ H'
  | .bad => False
def tE (G : Ct) (W : WX) (m : M Val) : TE := fun σ H Q => ∃ O ad env, J G O ad env σ H ∧ PostE G W O ad env σ H Q (m env)
def PostT (G : Ct) (W : WX) (O : Fb) (ad : Nat → Addr) (env : Ev) (σ : L2.St) (H : Hp) (Q : Bool → Hp → Prop) : R Bool → Prop
  | .ok b e' => ∀ ad' H', Kr O (Fo O env ad) (Fo O e' ad') H H' → J G O ad' e' σ H' → Q b H'
  | .ex x e' => ∀ ad' cls dx H', Kr O (Fo O env ad) (Fo O e' ad') H H' → J G O ad' e' σ H' → RelX G.K G.mg (Fo O e' ad') H' x cls dx → W cls dx σ H'
  | .bad => False
def tT (G : Ct) (W : WX) (m : M Bool) : TT := fun σ H Q => ∃ O ad env, J G O ad env σ H ∧ PostT G W O ad env σ H Q (m env)
/-- values, one behind the other -/
def ValsOk (G : Ct) (B O : Fb) (ad : Nat → Addr) (env : Ev) (σ : L2.St) (H' : Hp) : List Val → List V → Prop
  | [], [] => True
  | a :: as, v :: vs => VB G B O ad env σ H' a v ∧ ValsOk G (valO B a v) O ad env σ H' as vs
  | _, _ => False
def PostA (G : Ct) (W : WX) (O : Fb) (ad : Nat → Addr) (env : Ev) (σ : L2.St) (H : Hp) (Q : List V → Hp → Prop) : R (List Val) → Prop
  | .ok vals e' => ∀ O' ad' vs H', (∀ a, O a → O' a) → (∀ a, O' a → O a ∨ H a = none) → Kr O (Fo O env ad) (Fo O e' ad') H H' → J G O' ad' e' σ H' → ValsOk G O O' ad' e' σ H' vals vs → Q vs H'
  | .ex x e' => ∀ ad' cls dx H', Kr O (Fo O env ad) (Fo O e' ad') H H' → J G O ad' e' σ H' → RelX G.K G.mg (Fo O e' ad') H' x cls dx → W cls dx σ H'
  | .bad => False
def tA (G : Ct) (W : WX) (m : M (List Val)) : TA := fun σ H Q => ∃ O ad env, J G O ad env σ H ∧ PostA G W O ad env σ H Q (m env)
/-- a new pair: something, and a list of its own -/
def PairAt (K : PySem.W.Frag) (H : Hp) (p : Addr) (v : V) (q : Addr) : Prop := SqT K H p [v, .ref q] ∧ TupD K H p
def PostS (G : Ct) (W : WX) (O : Fb) (ad : Nat → Addr) (env : Ev) (H : Hp) (E : Ends) : Out → Prop
  | .nx e' => ∀ ad' σ' H', Kr O (Fo O env ad) (Fo O e' ad') H H' → J G O ad' e' σ' H' → E.nx σ' H'
  | .bk e' => ∀ ad' σ' H', Kr O (Fo O env ad) (Fo O e' ad') H H' → J G O ad' e' σ' H' → E.bk σ' H'
  | .ct e' => ∀ ad' σ' H', Kr O (Fo O env ad) (Fo O e' ad') H H' → J G O ad' e' σ' H' → E.ct σ' H'
  | .rt d e' => ∀ ad' v σ' H', Kr O (Fo O env ad) (Fo O e' ad') H H' → J G O ad' e' σ' H' → Rel G.K (Fo O e' ad') H' d v → E.rt v H'
  | .rto c e' => ∀ ad' p σ' H', Kr O (Fo O env ad) (Fo O e' ad') H H' → G.H0 p = none → ¬ O p → J G (Add O p) ad' e' σ' H' → ClOk G.K (Fo (Add O p) e' ad') H' p c → E.rt (.ref p) H'
  | .rtt d c e' => ∀ ad' p v q σ' H', Kr O (Fo O env ad) (Fo O e' ad') H H' → G.H0 q = none → ¬ O q → J G (Add O q) ad' e' σ' H' → PairAt G.K H' p v q → Rel G.K (Fo (Add O q) e' ad') H' d v → ClOk G.K (Fo (Add O q) e' ad') H' q c → E.rt (.ref p) H'
  | .ex x e' => ∀ ad' cls dx σ' H', Kr O (Fo O env ad) (Fo O e' ad') H H' → J G O ad' e' σ' H' → RelX G.K G.mg (Fo O e' ad') H' x cls dx → W cls dx σ' H'
  | .bad => False
def tS (G : Ct) (W : WX) (m : S) : TS := fun E σ H => ∃ O ad env, J G O ad env σ H ∧ PostS G W O ad env H E (m env)

def R.elim {α β : Type} (r : R α) (k : α → Ev → β) (kx : Ex → Ev → β) (kb : β) : β :=
  match r with
  | .ok a e => k a e
  | .ex x e => kx x e
  | .bad => kb
abbrev R.bind {α β : Type} (r : R α) (k : α → Ev → R β) : R β := r.elim k .ex .bad
abbrev R.out {α : Type} (r : R α) (k : α → Ev → Out) : Out := r.elim k .ex .bad
@[simp] theorem R.elim_ok {α β : Type} (a : α) (e : Ev) (k : α → Ev → β) (kx : Ex → Ev → β) (kb : β) : (R.ok a e).elim k kx kb = k a e := rfl
@[simp] theorem R.elim_ex {α β : Type} (a : Ex) (e : Ev) (k : α → Ev → β) (kx : Ex → Ev → β) (kb : β) : (R.ex a e).elim k kx kb = kx a e := rfl
@[simp] theorem R.elim_bad {α β : Type} (k : α → Ev → β) (kx : Ex → Ev → β) (kb : β) : R.elim (.bad : R α) k kx kb = kb := rfl

section
variable {G : Ct} {W : WX} {O O1 : Fb} {ad ad1 : Nat → Addr} {env env1 : Ev} {σ : L2.St} {H H1 : Hp} {β : Type} {P : β → Prop} {kx : Ex → Ev → β} {kb : β}
/-- what a wish must take -/
def Xs (G : Ct) (W : WX) (O : Fb) (ad : Nat → Addr) (env : Ev) (σ : L2.St) (H : Hp) (P : β → Prop) (kx : Ex → Ev → β) (kb : β) : Prop :=
  (∀ x e', P (kx x e') → ∀ ad' cls dx H', Kr O (Fo O env ad) (Fo O e' ad') H H' → J G O ad' e' σ H' → RelX G.K G.mg (Fo O e' ad') H' x cls dx → W cls dx σ H') ∧ (P kb → False)
theorem xsE {Q : VK} : Xs G W O ad env σ H (PostE G W O ad env σ H Q) .ex .bad := ⟨fun _ _ h => h, fun h => h⟩
theorem xsT {Q : Bool → Hp → Prop} : Xs G W O ad env σ H (PostT G W O ad env σ H Q) .ex .bad := ⟨fun _ _ h => h, fun h => h⟩
theorem xsA {Q : List V → Hp → Prop} : Xs G W O ad env σ H (PostA G W O ad env σ H Q) .ex .bad := ⟨fun _ _ h => h, fun h => h⟩
theorem xsS {E : Ends} : Xs G W O ad env σ H (PostS G W O ad env H E) .ex .bad := ⟨fun _ _ h ad' cls dx H' k j r => h ad' cls dx σ H' k j r, fun h => h⟩
/-- one more part is reckoned -/
theorem seqE {mb : M Val} {mk : Val → Ev → β} (hx : Xs G W O ad env σ H P kx kb) (hO : ∀ a, O a → O1 a) (k : Kr O (Fo O env ad) (Fo O env1 ad1) H H1) (j : J G O1 ad1 env1 σ H1) (p : P ((mb env1).elim mk kx kb)) :
    tE G W mb σ H1 fun y H2 => ∃ ad2 env2 val2, Kr O (Fo O env ad) (Fo O env2 ad2) H H2 ∧ Kr O1 (Fo O1 env1 ad1) (Fo O1 env2 ad2) H1 H2 ∧ ValOk G O1 H1 ad2 env2 σ H2 val2 y ∧ P (mk val2 env2) := by
  refine ⟨O1, ad1, env1, j, ?_⟩
  cases e : mb env1 with
  | ok val e' =>
    rw [e] at p
    exact fun ad' v H' k' w => ⟨ad', e', val, k.trans (k'.less hO w.j0), k', w, p⟩
  | ex x e' =>
    rw [e] at p
    exact fun ad' cls dx H' k' j' r => hx.1 x e' p ad' cls dx H' (k.trans (k'.less hO j')) (j'.less hO) (r.keep (Kp.weak fun a z => by
      rcases z with z | z
      · exact .inl (hO a z)
      · exact .inr z))
  | bad => rw [e] at p; exact hx.2 p
theorem seqT {mb : M Bool} {mk : Bool → Ev → β} (hx : Xs G W O ad env σ H P kx kb) (hO : ∀ a, O a → O1 a) (k : Kr O (Fo O env ad) (Fo O env1 ad1) H H1) (j : J G O1 ad1 env1 σ H1) (p : P ((mb env1).elim mk kx kb)) :
    tT G W mb σ H1 fun b H2 => ∃ ad2 env2, Kr O (Fo O env ad) (Fo O env2 ad2) H H2 ∧ Kr O1 (Fo O1 env1 ad1) (Fo O1 env2 ad2) H1 H2 ∧ J G O1 ad2 env2 σ H2 ∧ P (mk b env2) := by
  refine ⟨O1, ad1, env1, j, ?_⟩
  cases e : mb env1 with
  | ok val e' =>
    rw [e] at p
    exact fun ad' H' k' w => ⟨ad', e', k.trans (k'.less hO w), k', w, p⟩
  | ex x e' =>
    rw [e] at p
    exact fun ad' cls dx H' k' j' r => hx.1 x e' p ad' cls dx H' (k.trans (k'.less hO j')) (j'.less hO) (r.keep (Kp.weak fun a z => by
      rcases z with z | z
      · exact .inl (hO a z)
      · exact .inr z))
  | bad => rw [e] at p; exact hx.2 p
theorem seqA {mb : M (List Val)} {mk : List Val → Ev → β} (hx : Xs G W O ad env σ H P kx kb) (hO : ∀ a, O a → O1 a) (k : Kr O (Fo O env ad) (Fo O env1 ad1) H H1) (j : J G O1 ad1 env1 σ H1) (p : P ((mb env1).elim mk kx kb)) :
    tA G W mb σ H1 fun vs H2 => ∃ O2 ad2 env2 vals, (∀ a, O1 a → O2 a) ∧ (∀ a, O2 a → O1 a ∨ H1 a = none) ∧ Kr O (Fo O env ad) (Fo O env2 ad2) H H2 ∧ Kr O1 (Fo O1 env1 ad1) (Fo O1 env2 ad2) H1 H2 ∧ J G O2 ad2 env2 σ H2 ∧ ValsOk G O1 O2 ad2 env2 σ H2 vals vs ∧ P (mk vals env2) := by
  refine ⟨O1, ad1, env1, j, ?_⟩
  cases e : mb env1 with
  | ok val e' =>
    rw [e] at p
    exact fun O' ad' vs H' h1 h2 k' j' w => ⟨O', ad', e', val, h1, h2, k.trans (k'.less hO (j'.less h1)), k', j', w, p⟩
  | ex x e' =>
    rw [e] at p
    exact fun ad' cls dx H' k' j' r => hx.1 x e' p ad' cls dx H' (k.trans (k'.less hO j')) (j'.less hO) (r.keep (Kp.weak fun a z => by
      rcases z with z | z
      · exact .inl (hO a z)
      · exact .inr z))
  | bad => rw [e] at p; exact hx.2 p
end
end Nb
namespace Nb
open L2 PySem PySem.Spec PyProof.Rows

/-! ### reading a value -/
def cellOf (env : Ev) (i : Nat) : Option Cl := match env[i]? with
  | some (.o c) => some c
  | some (.io c) => some c
  | _ => none
def view (env : Ev) : Val → Option D
  | .d d => some d
  | .f c => some (clD c)
  | .s i => match env[i]? with
    | some (.o c) => some (clD c)
    | some (.io c) => some (clD c)
    | some (.v d) => some d
    | _ => none
/-- it becomes data: a name's own list is not changed any more -/
def asD (env : Ev) : Val → Option (D × Ev)
  | .d d => some (d, env)
  | .f c => some (clD c, env)
  | .s i => match env[i]? with
    | some (.o c) => some (clD c, env.set i (.v (clD c)))
    | some (.v d) => some (d, env)
    | _ => none
def asDs (env : Ev) : List Val → Option (List D × Ev)
  | [] => some ([], env)
  | a :: as => match asD env a with
    | some (d, e1) => match asDs e1 as with
      | some (ds, e2) => some (d :: ds, e2)
      | none => none
    | none => none

def RelB (K : PySem.W.Frag) (F : Fb) (H : Hp) (d : D) (v : V) : Prop := Rel K F H d v ∨ ∃ a c, v = .ref a ∧ d = clD c ∧ ClOk K F H a c
section
variable {K : PySem.W.Frag} {F : Fb} {H : Hp} {v : V}
theorem RelB.of {d : D} (h : Rel K F H d v) : RelB K F H d v := .inl h
theorem clD_lst {c : Cl} {ds : List D} (e : PyData.list ds = clD c) : c = .lst ds := by
  cases c with
  | lst es => injection e with e; rw [e]
  | dct ks es => cases e
theorem clD_dct {c : Cl} {kvs : List (D × D)} (e : PyData.dict kvs = clD c) : ∃ ks ds, c = .dct ks ds ∧ kvs = (ks.map keyD).zip ds := by
  cases c with
  | lst es => cases e
  | dct ks es => injection e with e; exact ⟨ks, es, rfl, e⟩
theorem RelB.toInt {i : Int} (h : RelB K F H (.int i) v) : v = .int i := by
  rcases h with h | ⟨a, c, _, e, _⟩
  · exact h.toInt
  · cases c <;> cases e
theorem RelB.toBl {i : Bool} (h : RelB K F H (.bool i) v) : v = .bl i := by
  rcases h with h | ⟨a, c, _, e, _⟩
  · exact h.toBl
  · cases c <;> cases e
theorem RelB.toStr {i : Str} (h : RelB K F H (.str i) v) : v = .str i := by
  rcases h with h | ⟨a, c, _, e, _⟩
  · exact h.toStr
  · cases c <;> cases e
theorem RelB.toNon (h : RelB K F H .none v) : v = .non := by
  rcases h with h | ⟨a, c, _, e, _⟩
  · exact h.toNon
  · cases c <;> cases e
theorem RelB.toTup {ds : List D} (h : RelB K F H (.tuple ds) v) : ∃ a xs, v = .ref a ∧ SqT K H a xs ∧ RelL K F H ds xs := by
  rcases h with h | ⟨a, c, _, e, _⟩
  · exact h.toTup
  · cases c <;> cases e
theorem RelB.toTupD {ds : List D} (h : RelB K F H (.tuple ds) v) : ∃ a xs, v = .ref a ∧ SqT K H a xs ∧ TupD K H a ∧ RelL K F H ds xs := by
  rcases h with h | ⟨a, c, _, e, _⟩
  · exact h.toTupD
  · cases c <;> cases e
theorem RelB.toLst {ds : List D} (h : RelB K F H (.list ds) v) : ∃ a xs, v = .ref a ∧ SqL K H a xs ∧ RelL K F H ds xs := by
  rcases h with h | ⟨a, c, e0, e, x⟩
  · obtain ⟨a, xs, e, z, r⟩ := h.toLst
    exact ⟨a, xs, e, z.sq, r⟩
  · cases clD_lst e
    obtain ⟨vs, e1, r⟩ := x
    exact ⟨a, vs, e0, .inl (.inl e1), r⟩
theorem RelB.dp {d : D} (p : d.plain = true) (h : RelB K F H d v) : Dp K H v d := by
  rcases h with h | ⟨a, c, e0, e, x⟩
  · exact h.dp p
  · subst e e0
    cases c with
    | lst ds =>
      obtain ⟨vs, e1, r⟩ := x
      exact .lst (.inl (.inl e1)) (r.dp (by simpa [clD, PyData.plain] using p))
    | dct ks ds => exact nomatch p
end

section
variable {G : Ct} {W : WX} {O B : Fb} {ad : Nat → Addr} {env env' : Ev} {σ : L2.St} {H : Hp} {val : Val} {v : V}
theorem VB.view (j : J G O ad env σ H) (h : VB G B O ad env σ H val v) {d : D} (e : view env val = some d) : RelB G.K (Fo O env ad) H d v := by
  cases val with
  | d d' => cases e; exact .inl h
  | f c =>
    cases e
    obtain ⟨p, rfl, o, _, x⟩ := h
    exact .inr ⟨p, c, rfl, rfl, x⟩
  | s i =>
    have h' : σ.getD i none = some v := h
    simp only [Nb.view] at e
    cases q : env[i]? with
    | none => rw [q] at e; cases e
    | some s =>
      have z := j.at_ i s q
      rw [h'] at z
      rw [q] at e
      cases s with
      | no => cases e
      | x y => cases e
      | n y => cases e
      | v d' =>
        cases e
        obtain ⟨u, e1, r⟩ := z
        cases e1
        exact .inl r
      | o c =>
        cases e
        obtain ⟨e1, r⟩ := z
        cases e1
        exact .inr ⟨_, c, rfl, rfl, r⟩
      | io c =>
        cases e
        obtain ⟨e1, r⟩ := z
        cases e1
        exact .inr ⟨_, c, rfl, rfl, r⟩
theorem get_set_sl {env : Ev} {i k : Nat} {s t : Sl} (e : (env.set i s)[k]? = some t) : (k = i ∧ t = s ∧ i < env.length) ∨ (k ≠ i ∧ env[k]? = some t) := by
  by_cases h : k = i
  · subst h
    by_cases l : k < env.length
    · rw [List.getElem?_set_self l] at e; cases e; exact .inl ⟨rfl, rfl, l⟩
    · rw [List.getElem?_eq_none (by simpa using l)] at e; cases e
  · rw [List.getElem?_set_ne (Ne.symm h)] at e; exact .inr ⟨h, e⟩
theorem fo_freeze {i : Nat} {d : D} : ∀ a, Fo O (env.set i (.v d)) ad a → Fo O env ad a := fun a z => by
  rcases z with z | ⟨k, s, e, c, z⟩
  · exact .inl z
  · rcases get_set_sl e with ⟨rfl, rfl, _⟩ | ⟨_, e⟩
    · cases c
    · exact .inr ⟨k, s, e, c, z⟩
/-- a name's own list is not changed any more -/
theorem J.freeze (j : J G O ad env σ H) {i : Nat} {c : Cl} (e : env[i]? = some (.o c)) : J G O ad (env.set i (.v (clD c))) σ H ∧ Rel G.K (Fo O (env.set i (.v (clD c))) ad) H (clD c) (.ref (ad i)) ∧ σ.getD i none = some (.ref (ad i)) := by
  have z := j.at_ i _ e
  obtain ⟨e1, x⟩ := z
  have nF : ¬ Fo O (env.set i (.v (clD c))) ad (ad i) := fun z => by
    rcases z with z | ⟨k, s, e2, c2, z⟩
    · exact j.out i _ e rfl z
    · rcases get_set_sl e2 with ⟨rfl, rfl, _⟩ | ⟨n, e2⟩
      · cases c2
      · exact n (j.inj k i s _ e2 c2 e rfl z)
  have kp : Kp (Fo O env ad) (Fo O (env.set i (.v (clD c))) ad) H H := Kp.weak fo_freeze
  have r : Rel G.K (Fo O (env.set i (.v (clD c))) ad) H (clD c) (.ref (ad i)) := (x.keep kp fun _ h => h).rel nF
  refine ⟨⟨by rw [List.length_set]; exact j.len, fun a b s t e1 c1 e2 c2 h => ?_, fun a s e1 c1 => ?_, j.outs, fun a c' e1 => ?_, fun a => ?_, fun a c' e1 cc ci => ?_, j.mi, j.fr, fun a s e2 => ?_⟩, r, e1⟩
  · rcases get_set_sl e1 with ⟨rfl, rfl, _⟩ | ⟨_, e1⟩
    · cases c1
    · rcases get_set_sl e2 with ⟨rfl, rfl, _⟩ | ⟨_, e2⟩
      · cases c2
      · exact j.inj a b s t e1 c1 e2 c2 h
  · rcases get_set_sl e1 with ⟨rfl, rfl, _⟩ | ⟨_, e1⟩
    · cases c1
    · exact j.out a s e1 c1
  · rcases get_set_sl e1 with ⟨_, q, _⟩ | ⟨_, e1⟩
    · cases q
    · exact j.io a c' e1
  · rw [j.ix a]
    constructor
    · rintro ⟨c', q⟩
      refine ⟨c', ?_⟩
      rw [List.getElem?_set_ne (fun z => by subst z; rw [e] at q; cases q)]; exact q
    · rintro ⟨c', q⟩
      rcases get_set_sl q with ⟨_, q, _⟩ | ⟨_, q⟩
      · cases q
      · exact ⟨c', q⟩
  · rcases get_set_sl e1 with ⟨_, q, _⟩ | ⟨_, e1⟩
    · rw [q] at cc; cases cc
    · exact j.own a c' e1 cc ci
  · rcases get_set_sl e2 with ⟨rfl, rfl, _⟩ | ⟨_, e2⟩
    · exact ⟨_, e1, r⟩
    · exact (j.at_ a s e2).keep kp fun _ _ h => h
/-- a value becomes data -/
theorem asD_ok (j : J G O ad env σ H) (hB : ∀ a, B a → O a) (h : VB G B O ad env σ H val v) {d : D} (e : asD env val = some (d, env')) :
    J G O ad env' σ H ∧ Kp (Fo O env ad) (Fo O env' ad) H H ∧ Kr B (Fo B env ad) (Fo B env' ad) H H ∧ Rel G.K (Fo B env' ad) H d v := by
  have wk : ∀ {e : Ev} a, Fo B e ad a → Fo O e ad a := fun {e} a z => by
    rcases z with z | z
    · exact .inl (hB a z)
    · exact .inr z
  cases val with
  | d d' => cases e; exact ⟨j, Kp.refl _ _, Kr.refl _ _ _, Rel.keep (Kp.weak wk) h⟩
  | f c =>
    cases e
    obtain ⟨p, rfl, o, n, x⟩ := h
    refine ⟨j, Kp.refl _ _, Kr.refl _ _ _, (x.keep (Kp.weak wk) fun _ h => h).rel fun z => ?_⟩
    rcases z with z | ⟨k, s, e2, c2, z⟩
    · exact n z
    · exact j.out k s e2 c2 (by rw [z]; exact o)
  | s i =>
    have h' : σ.getD i none = some v := h
    simp only [Nb.asD] at e
    cases q : env[i]? with
    | none => rw [q] at e; cases e
    | some s =>
      rw [q] at e
      cases s with
      | no => cases e
      | x y => cases e
      | n y => cases e
      | io c => cases e
      | v d' =>
        cases e
        obtain ⟨u, e1, r⟩ := j.at_ i _ q
        rw [h'] at e1
        cases e1
        exact ⟨j, Kp.refl _ _, Kr.refl _ _ _, Rel.keep (Kp.weak wk) r⟩
      | o c =>
        cases e
        obtain ⟨j', r, e1⟩ := j.freeze q
        rw [h'] at e1
        cases e1
        exact ⟨j', Kp.weak fo_freeze, ⟨⟨Kp.weak fo_freeze, fun _ _ _ h => h⟩, fun _ h => h⟩, Rel.keep (Kp.weak wk) r⟩
theorem valO_sub {B' : Fb} {a : Val} {v : V} (hb : ∀ x, B' x → B x) : ∀ x, valO B' a v x → valO B a v x := fun x z => by
  unfold valO at z ⊢
  split
  · rcases z with z | z
    · exact .inl (hb x z)
    · exact .inr z
  · rename_i h
    split at z
    · exact absurd rfl (h _ _ rfl)
    · exact hb x z
theorem VB.base {B' : Fb} (h : VB G B O ad env σ H val v) (hb : ∀ a, B' a → B a) : VB G B' O ad env σ H val v := by
  cases val with
  | d d => exact h
  | s i => exact h
  | f c => obtain ⟨p, e, o, n, x⟩ := h; exact ⟨p, e, o, fun z => n (hb p z), x⟩
theorem ValsOk.base : ∀ {vals : List Val} {vs : List V} {B B' : Fb}, (∀ a, B' a → B a) → ValsOk G B O ad env σ H vals vs → ValsOk G B' O ad env σ H vals vs
  | [], [], _, _, _, _ => trivial
  | [], _ :: _, _, _, _, h => h.elim
  | _ :: _, [], _, _, _, h => h.elim
  | _ :: _, _ :: _, _, _, hb, h => ⟨h.1.base hb, ValsOk.base (valO_sub hb) h.2⟩
theorem ValsOk.keep : ∀ {vals : List Val} {vs : List V} {B : Fb}, ValsOk G B O ad env σ H vals vs → Kp (Fo O env ad) (Fo O env' ad) H H → ValsOk G B O ad env' σ H vals vs
  | [], [], _, _, _ => trivial
  | [], _ :: _, _, h, _ => h.elim
  | _ :: _, [], _, h, _ => h.elim
  | _ :: _, _ :: _, _, h, k => ⟨h.1.keep k (fun _ _ _ z => z) fun _ z => z, ValsOk.keep h.2 k⟩
theorem asDs_ok : ∀ {vals : List Val} {vs : List V} {env env' : Ev} {ds : List D}, (∀ a, B a → O a) → J G O ad env σ H → ValsOk G B O ad env σ H vals vs → asDs env vals = some (ds, env') →
    J G O ad env' σ H ∧ Kp (Fo O env ad) (Fo O env' ad) H H ∧ Kr B (Fo B env ad) (Fo B env' ad) H H ∧ RelL G.K (Fo B env' ad) H ds vs
  | [], [], env, _, _, _, j, _, e => by cases e; exact ⟨j, Kp.refl _ _, Kr.refl _ _ _, .nil⟩
  | [], _ :: _, _, _, _, _, _, h, _ => h.elim
  | _ :: _, [], _, _, _, _, _, h, _ => h.elim
  | a :: as, v :: vs, env, env', ds, hB, j, h, e => by
    obtain ⟨h1, h2⟩ := h
    simp only [asDs] at e
    cases e1 : asD env a with
    | none => rw [e1] at e; cases e
    | some p =>
      obtain ⟨d, env1⟩ := p
      rw [e1] at e
      dsimp only at e
      obtain ⟨j1, k1, r1, x1⟩ := asD_ok j hB h1 e1
      cases e2 : asDs env1 as with
      | none => rw [e2] at e; cases e
      | some p =>
        obtain ⟨ds', env2⟩ := p
        rw [e2] at e
        cases e
        obtain ⟨j2, k2, r2, x2⟩ := asDs_ok hB j1 ((h2.base (valO_le _ _)).keep k1) e2
        exact ⟨j2, k1.trans k2, r1.trans r2, .cons (x1.keep r2.kq.kp) x2⟩
end
end Nb
namespace Nb
open L2 PySem PySem.Spec PyProof.Rows

theorem imp_E {X : Cx} {e : Expr} {t t' : TE} (h : PE X e t) (f : ∀ σ H Q, t' σ H Q → t σ H Q) : PE X e t' := ⟨fun pins s σ H Q I q => h.run pins s σ H Q I (f σ H Q q)⟩
theorem imp_T {X : Cx} {e : Expr} {t t' : TT} (h : PT X e t) (f : ∀ σ H Q, t' σ H Q → t σ H Q) : PT X e t' := ⟨fun pins s σ H Q I q => h.run pins s σ H Q I (f σ H Q q)⟩
theorem imp_W {X : Cx} {e : Expr} {t t' : TT} (h : PW X e t) (f : ∀ σ H Q, t' σ H Q → t σ H Q) : PW X e t' := ⟨fun wh pins s σ H Q I q => h.run wh pins s σ H Q I (f σ H Q q)⟩
theorem imp_A {X : Cx} {es : List Expr} {t t' : TA} (h : PA X es t) (f : ∀ σ H Q, t' σ H Q → t σ H Q) : PA X es t' := ⟨fun ps pins s σ H Q I q => h.run ps pins s σ H Q I (f σ H Q q)⟩
theorem imp_S {X : Cx} {st : Stmt} {t t' : TS} (h : PS X st t) (f : ∀ E σ H, t' E σ H → t E σ H) : PS X st t' := ⟨fun pins s σ H E I q => h.run pins s σ H E I (f E σ H q)⟩
theorem imp_Ss {X : Cx} {st : List Stmt} {t t' : TS} (h : PSs X st t) (f : ∀ E σ H, t' E σ H → t E σ H) : PSs X st t' := ⟨fun pins s σ H E I q => h.run pins s σ H E I (f E σ H q)⟩

theorem mono_E {G : Ct} {W : WX} {m : M Val} {σ : L2.St} {H : Hp} {Q Q' : VK} (h : tE G W m σ H Q) (f : ∀ v H', Q v H' → Q' v H') : tE G W m σ H Q' := by
  obtain ⟨O, ad, env, j, p⟩ := h
  refine ⟨O, ad, env, j, ?_⟩
  revert p
  cases m env with
  | bad => exact fun z => z
  | ex x e => exact fun z => z
  | ok v1 e1 => exact fun z ad' v H' k w => f v H' (z ad' v H' k w)
theorem mono_T {G : Ct} {W : WX} {m : M Bool} {σ : L2.St} {H : Hp} {Q Q' : Bool → Hp → Prop} (h : tT G W m σ H Q) (f : ∀ v H', Q v H' → Q' v H') : tT G W m σ H Q' := by
  obtain ⟨O, ad, env, j, p⟩ := h
  refine ⟨O, ad, env, j, ?_⟩
  revert p
  cases m env with
  | bad => exact fun z => z
  | ex x e => exact fun z => z
  | ok v1 e1 => exact fun z ad' H' k w => f v1 H' (z ad' H' k w)
theorem mono_A {G : Ct} {W : WX} {m : M (List Val)} {σ : L2.St} {H : Hp} {Q Q' : List V → Hp → Prop} (h : tA G W m σ H Q) (f : ∀ v H', Q v H' → Q' v H') : tA G W m σ H Q' := by
  obtain ⟨O, ad, env, j, p⟩ := h
  refine ⟨O, ad, env, j, ?_⟩
  revert p
  cases m env with
  | bad => exact fun z => z
  | ex x e => exact fun z => z
  | ok v1 e1 => exact fun z O' ad' v H' h1 h2 k w q => f v H' (z O' ad' v H' h1 h2 k w q)

/-! ### the end of a part: a new value -/
/-- F: what may change -/
def NewOk (K : PySem.W.Frag) (F : Fb) (H H' : Hp) : Val → V → Prop
  | .d d, v => Same H H' ∧ Rel K F H' d v
  | .f c, v => Same H H' ∧ ∃ p, v = .ref p ∧ H p = none ∧ ClOk K (Add F p) H' p c
  | .s _, _ => False
section
variable {G : Ct} {W : WX} {B O O1 : Fb} {ad ad1 : Nat → Addr} {env env1 : Ev} {σ : L2.St} {H H1 H2 : Hp} {val : Val} {v : V}
theorem J.add {p : Addr} (j : J G O ad env σ H) (s : Same H H1) (n : H p = none) (n1 : H1 p ≠ none) : J G (Add O p) ad env σ H1 where
  len := j.len
  inj := j.inj
  out := fun i s e c z => by
    rcases z with z | z
    · exact j.out i s e c z
    · exact (j.fresh n).1 (.inr ⟨i, s, e, c, z⟩)
  outs := fun a z => by
    rcases z with z | z
    · exact Same.dom s a (j.outs a z)
    · rw [z]; exact n1
  io := j.io
  ix := j.ix
  own := j.own
  mi := j.mi
  fr := fun a o' h m => s _ _ (j.fr a o' h m)
  at_ := fun i t e => (j.at_ i t e).keep ⟨fun a xs h => s _ _ h, fun a o u h => s _ _ h, fun a o h nf => ⟨s _ _ h, fun z => by
    rcases fo_add a z with z | z
    · exact nf z
    · rw [z] at h; rw [h] at n; cases n⟩⟩ fun _ o' h => s _ _ h
theorem newOk (hO : ∀ a, O a → O1 a) (k : Kr O (Fo O env ad) (Fo O env1 ad1) H H1) (j : J G O1 ad1 env1 σ H1) (n : NewOk G.K (Fo O1 env1 ad1) H1 H2 val v) :
    Kr O (Fo O env ad) (Fo O env1 ad1) H H2 ∧ ValOk G O H ad1 env1 σ H2 val v := by
  have wk : ∀ a, Fo O env1 ad1 a → Fo O1 env1 ad1 a := fun a z => by
    rcases z with z | z
    · exact .inl (hO a z)
    · exact .inr z
  cases val with
  | s i => exact n.elim
  | d d =>
    obtain ⟨s, r⟩ := n
    exact ⟨k.trans (Kr.same s), (j.less hO).same s, r.keep (Kp.weak wk)⟩
  | f c =>
    obtain ⟨s, p, rfl, np, x⟩ := n
    have n1 : H2 p ≠ none := by
      obtain ⟨o, e, _⟩ := x.there
      rw [e]; exact fun q => nomatch q
    refine ⟨k.trans (Kr.same s), p, rfl, k.none np, fun z => (j.fresh np).1 (.inl (hO p z)), (j.less hO).add s np n1, x.keep (Kp.weak fun a z => ?_) fun _ h => h⟩
    rcases z with (z | z) | z
    · exact .inl (.inl (hO a z))
    · exact .inr z
    · exact .inl (.inr z)
/-- the end of an expression -/
theorem finE {Q : VK} (hO : ∀ a, O a → O1 a) (k : Kr O (Fo O env ad) (Fo O env1 ad1) H H1) (j : J G O1 ad1 env1 σ H1) (p : PostE G W O ad env σ H Q (.ok val env1)) (n : NewOk G.K (Fo O1 env1 ad1) H1 H2 val v) : Q v H2 := by
  obtain ⟨k2, w⟩ := newOk hO k j n
  exact p ad1 v H2 k2 w
end
theorem NewOk.dat {K : PySem.W.Frag} {F : Fb} {H : Hp} {d : D} {v : V} (r : Rel K F H d v) : NewOk K F H H (.d d) v := ⟨Same.refl H, r⟩
theorem NewOk.lst {K : PySem.W.Frag} {F : Fb} {H : Hp} {ds : List D} {vs : List V} {p : Addr} (n : H p = none) (r : RelL K F H ds vs) : NewOk K F H (upd H p (.lst vs)) (.f (.lst ds)) (.ref p) :=
  ⟨fun b o e => by rw [upd_ne (ne_of_none e n)]; exact e, p, rfl, n, vs, upd_same, r.keep (Kp.laid n fun a z => by
    rcases z with z | z
    · exact .inl z
    · exact .inr z)⟩
theorem NewOk.tup {K : PySem.W.Frag} {F : Fb} {H : Hp} {ds : List D} {vs : List V} {us : List Value} {p : Addr} (n : H p = none) (r : RelL K F H ds vs) : NewOk K F H (upd H p (.frz (tobj us) (.tup vs))) (.d (.tuple ds)) (.ref p) :=
  ⟨fun b o e => by rw [upd_ne (ne_of_none e n)]; exact e, .tup (.inl (.inr ⟨_, upd_same⟩)) (.inl ⟨_, _, upd_same, rfl, rfl⟩) (r.keep (Kp.laid n fun a z => .inl z))⟩
/-- a new tuple, its object told -/
theorem newT {X : Cx} {pins : List (Addr × Obj)} {σ : L2.St} {H : Hp} {s : Shared} {vs : List V} {us : List Value} {tk : Nat} (I : Inv X pins σ H s) (r : Vals vs us) (hz : vs.length ≤ sizeLine) :
    Inv X pins σ (upd H s.heap.objs.size (.frz (tobj us) (.tup vs))) { s with heap := s.heap.push (tobj us), toks := tk } :=
  I.laid (o := .frz (tobj us) (.tup vs)) (t' := tk) (fun _ _ q => Heap.get?_push_of_some _ q) (Nat.le_refl _) ⟨Heap.get?_push_size _ rfl, hz, us, r, _, Heap.get?_push_size _ rfl, rfl, _, rfl⟩
/-- what a new tuple is told to -/
abbrev ToT (H : Hp) (vs : List V) (Q : VK) : Prop := ∀ (p : Addr) (us : List Value), H p = none → Q (.ref p) (upd H p (.frz (tobj us) (.tup vs)))
theorem newT_ep {X : Cx} {pins : List (Addr × Obj)} {σ : L2.St} {H : Hp} {s : Shared} {vs : List V} {us : List Value} {tk : Nat} {Q : VK} (I : Inv X pins σ H s) (r : Vals vs us) (hz : vs.length ≤ sizeLine) (q : ToT H vs Q) :
    EP X pins σ Q (.ref s.heap.objs.size) { s with heap := s.heap.push (tobj us), toks := tk } := ⟨.ref s.heap.objs.size, _, newT I r hz, rfl, q _ us (I.hok.fresh (Nat.le_refl _))⟩

/-! ### leaves -/
def mC (d : D) : M Val := fun env => .ok (.d d) env
def mVar (i : Nat) : M Val := fun env => match env[i]? with
  | some (.v d) => .ok (.d d) env
  | some (.o _) => .ok (.s i) env
  | some (.io _) => .ok (.s i) env
  | some (.x _) => .ok (.s i) env
  | _ => .bad
section
variable {X : Cx} {G : Ct} {W : WX} {e : Expr}
theorem e_const {d : D} {v : V} (h : PE X e (tC v)) (r : ∀ K F H, Rel K F H d v) : PE X e (tE G W (mC d)) := imp_E h fun σ H Q ⟨O, ad, env, j, p⟩ =>
  finE (fun _ z => z) (Kr.refl _ _ _) j p (NewOk.dat (r _ _ _))
theorem e_int {i j pos} : PE X (.Constant (.int i) j pos) (tE G W (mC (.int i))) := e_const pe_int fun _ _ _ => .int i
theorem e_bl {b j pos} : PE X (.Constant (.bool b) j pos) (tE G W (mC (.bool b))) := e_const pe_bl fun _ _ _ => .bl b
theorem e_non {j pos} : PE X (.Constant .none j pos) (tE G W (mC .none)) := e_const pe_non fun _ _ _ => .non
theorem e_str {x j pos} : PE X (.Constant (.str x) j pos) (tE G W (mC (.str x))) := e_const pe_str fun _ _ _ => .str x
theorem e_gint {x : Str} {i : Int} {t : Tok} {pos : Pos} (hg : Gl X x) (hm : X.mg x = some (.int i t)) (hd : (x == ("__debug__" : Str)) = false := by decide) : PE X (.Name x pos) (tE G W (mC (.int i))) :=
  e_const (pe_glob (v := .int i) hg hm ⟨t, rfl⟩ hd) fun _ _ _ => .int i
theorem e_gstr {x : Str} {i : Str} {t : Tok} {pos : Pos} (hg : Gl X x) (hm : X.mg x = some (.str i t)) (hd : (x == ("__debug__" : Str)) = false := by decide) : PE X (.Name x pos) (tE G W (mC (.str i))) :=
  e_const (pe_glob (v := .str i) hg hm ⟨t, rfl⟩ hd) fun _ _ _ => .str i
theorem e_var (i : Nat) {x : Str} {pos : Pos} (hN : X.N[i]? = some x := by rfl) (hv : Vis X.env.scope x := by first | exact Or.inl rfl | exact Or.inr (Or.inl rfl) | exact Or.inr (Or.inr rfl)) (hd : (x == ("__debug__" : Str)) = false := by decide)
    (hcd : (x == ("__classdict__" : Str)) = false := by decide) : PE X (.Name x pos) (tE G W (mVar i)) := imp_E (pe_var hN hv hd hcd) fun σ H Q ⟨O, ad, env, j, p⟩ => by
  unfold mVar at p
  have gd : ∀ {v : V}, σ.getD i none = some v → σ[i]? = some (some v) := fun {v} z => by
    rw [List.getD_eq_getElem?_getD] at z
    cases q : σ[i]? with
    | none => rw [q] at z; cases z
    | some u => rw [q] at z; cases z; rfl
  cases q : env[i]? with
  | none => rw [q] at p; exact p.elim
  | some s =>
    have z := j.at_ i s q
    rw [q] at p
    cases s with
    | no => exact p.elim
    | v d => obtain ⟨v, e, r⟩ := z; exact ⟨v, gd e, p ad v H (Kr.refl _ _ _) ⟨j, r⟩⟩
    | o c => obtain ⟨e, r⟩ := z; exact ⟨_, gd e, p ad _ H (Kr.refl _ _ _) ⟨j, e⟩⟩
    | io c => obtain ⟨e, r⟩ := z; exact ⟨_, gd e, p ad _ H (Kr.refl _ _ _) ⟨j, e⟩⟩
    | x c => obtain ⟨b, cls, dx, e, r⟩ := z; exact ⟨_, gd e, p ad _ H (Kr.refl _ _ _) ⟨j, e⟩⟩
    | n c => exact p.elim
end

/-! ### operations on data that are read -/
def ap2 (g : D → D → Option Val) (env : Ev) (a b : Val) : R Val := match view env a, view env b with
  | some d, some e => match g d e with
    | some r => .ok r env
    | none => .bad
  | _, _ => .bad
def m2 (g : D → D → Option Val) (ma mb : M Val) : M Val := fun env => (ma env).bind fun a e1 => (mb e1).bind fun b e2 => ap2 g e2 a b
def Op2 (K : PySem.W.Frag) (g : D → D → Option Val) (r : R2) : Prop := ∀ (F : Fb) (H : Hp) (x y : V) (d e : D) (res : Val) (Q : VK), (∀ a, F a → H a ≠ none) → RelB K F H d x → RelB K F H e y → g d e = some res →
  (∀ v H', NewOk K F H H' res v → Q v H') → r x y H Q
def ap1 (g : D → Option Val) (env : Ev) (a : Val) : R Val := match view env a with
  | some d => match g d with
    | some r => .ok r env
    | none => .bad
  | none => .bad
def m1 (g : D → Option Val) (ma : M Val) : M Val := fun env => (ma env).bind fun a e1 => ap1 g e1 a
def Op1 (K : PySem.W.Frag) (g : D → Option Val) (r : V → Hp → VK → Prop) : Prop := ∀ (F : Fb) (H : Hp) (x : V) (d : D) (res : Val) (Q : VK), (∀ a, F a → H a ≠ none) → RelB K F H d x → g d = some res →
  (∀ v H', NewOk K F H H' res v → Q v H') → r x H Q
section
variable {X : Cx} {G : Ct} {W : WX} {a b : Expr} {ma mb : M Val}
theorem two {g : D → D → Option Val} {r : R2} (hr : Op2 G.K g r) {σ : L2.St} {H : Hp} {Q : VK} (h : tE G W (m2 g ma mb) σ H Q) : tE G W ma σ H fun x H1 => tE G W mb σ H1 fun y H2 => r x y H2 Q := by
  obtain ⟨O, ad, env, j, p⟩ := h
  refine mono_E (seqE (β := R Val) xsE (fun _ z => z) (Kr.refl O (Fo O env ad) H) j p) fun x H1 ⟨ad2, env2, val2, k2, k3, w2, q2⟩ => ?_
  refine mono_E (seqE (β := R Val) xsE (valO_le val2 x) k2 w2.j q2) fun y H4 ⟨ad5, env5, val5, k5, k6, w5, q5⟩ => ?_
  have jj := w5.j
  have b1 := (w2.vb (B := fun _ => False) fun _ z => z.elim).later k6 w5
  have b2 := w5.vb (B := fun _ => False) fun _ z => z.elim
  unfold ap2 at q5
  cases e1 : view env5 val2 with
  | none => rw [e1] at q5; exact q5.elim
  | some d =>
    cases e2 : view env5 val5 with
    | none => rw [e1, e2] at q5; exact q5.elim
    | some e =>
      rw [e1, e2] at q5
      dsimp only at q5
      cases e3 : g d e with
      | none => rw [e3] at q5; exact q5.elim
      | some res =>
        rw [e3] at q5
        refine hr _ H4 x y d e res Q jj.fo (b1.view jj e1) (b2.view jj e2) e3 fun v H' n => ?_
        exact finE (fun a z => valO_le _ _ _ (valO_le _ _ _ z)) k5 jj q5 n
theorem e_bin {op : Operator} {pos : Pos} {g : D → D → Option Val} {r : R2} (ho : OpR X (binaryOp op) r) (hr : Op2 G.K g r) (ha : PE X a (tE G W ma)) (hb : PE X b (tE G W mb)) : PE X (.BinOp a op b pos) (tE G W (m2 g ma mb)) :=
  imp_E (pe_op ho ha hb) fun _ _ _ h => two hr h
theorem e_cmp {op : CmpOp} {pos : Pos} {g : D → D → Option Val} {r : R2} (ho : OpR X (compareOp op) r) (hr : Op2 G.K g r) (ha : PE X a (tE G W ma)) (hb : PE X b (tE G W mb)) (hm : behindInMarks op b = false) : PE X (.Compare a [op] [b] pos) (tE G W (m2 g ma mb)) :=
  imp_E (pe_cmpR ho ha hb hm) fun _ _ _ h => two hr h
theorem e_ix {pos : Pos} {g : D → D → Option Val} {r : R2} (ho : IxR X r) (hr : Op2 G.K g r) (ha : PE X a (tE G W ma)) (hb : PE X b (tE G W mb)) (hs : PlainIx b) : PE X (.Subscript a b pos) (tE G W (m2 g ma mb)) :=
  imp_E (pe_ix ho ha hb hs) fun _ _ _ h => two hr h
theorem one {g : D → Option Val} {r : V → Hp → VK → Prop} (hr : Op1 G.K g r) {σ : L2.St} {H : Hp} {Q : VK} (h : tE G W (m1 g ma) σ H Q) : tE G W ma σ H fun x H1 => r x H1 Q := by
  obtain ⟨O, ad, env, j, p⟩ := h
  refine mono_E (seqE (β := R Val) xsE (fun _ z => z) (Kr.refl O (Fo O env ad) H) j p) fun x H1 ⟨ad2, env2, val2, k2, k3, w2, q2⟩ => ?_
  unfold ap1 at q2
  cases e1 : view env2 val2 with
  | none => rw [e1] at q2; exact q2.elim
  | some d =>
    rw [e1] at q2
    dsimp only at q2
    cases e3 : g d with
    | none => rw [e3] at q2; exact q2.elim
    | some res =>
      rw [e3] at q2
      exact hr _ H1 x d res Q w2.j.fo ((w2.vb (B := fun _ => False) fun _ z => z.elim).view w2.j e1) e3 fun v H' n => finE (valO_le _ _) k2 w2.j q2 n
theorem e_un {op : UnaryOp} {pos : Pos} {g : D → Option Val} {r : V → Hp → VK → Prop} (ho : UnR X (unaryOp op) r) (hr : Op1 G.K g r) (ha : PE X a (tE G W ma)) : PE X (.UnaryOp op a pos) (tE G W (m1 g ma)) :=
  imp_E (pe_un ho ha) fun _ _ _ h => one hr h
end
end Nb
namespace Nb
open L2 PySem PySem.Spec PyProof.Rows

abbrev line : Nat := 16777216
theorem line_eq : sizeLine = line := sizeLine_eq
theorem RelL.nil_iff {K : PySem.W.Frag} {F : Fb} {H : Hp} {ds : List D} {vs : List V} (r : RelL K F H ds vs) : ds = [] ↔ vs = [] := by
  cases r with
  | nil => simp
  | cons _ _ => simp

/-! ### + -/
def rCatS (K : PySem.W.Frag) : R2 := fun x y H Q => ∃ l b xs zs, x = .ref l ∧ y = .ref b ∧ SqL K H l xs ∧ SqL K H b zs ∧ xs.length + zs.length ≤ sizeLine ∧ ∀ p, H p = none → Q (.ref p) (upd H p (.lst (xs ++ zs)))
theorem op_catS {X : Cx} : OpR X (binaryOp .Add) (rCatS X.K) := by
  intro pins s σ H x y v u Q I rx ry h
  obtain ⟨l, b, xs, zs, rfl, rfl, hH, hB, hz, q⟩ := h
  cases rx
  cases ry
  obtain ⟨its, r, ⟨⟨c1, d1, da1, sl1⟩, n, ho, hc, hdd, hd⟩, _⟩ := I.list hH
  obtain ⟨its2, r2, ⟨⟨c2, d2, da2, sl2⟩, n2, ho2, hc2, hdd2, hd2⟩, _⟩ := I.list hB
  simp only at hc hd hc2 hd2
  subst hc hd hc2 hd2
  have l1 := r.length
  have l2 := r2.length
  refine concat_meets ⟨_, ho, rfl⟩ ⟨_, ho2, rfl⟩ noFill_list_add seq_list_add PySem.F.slot_list_add PySem.F.entry_list_add (PySem.F.args_list_add_2 _ _) (list_addW l b its.toArray its2.toArray n n2 d1 d2 sl1 sl2 (by simp; omega)) ⟨ho, ho2, ?_⟩
  have ea : its.toArray ++ its2.toArray = (its ++ its2).toArray := by simp
  rw [ea]
  exact ⟨.ref _, _, I.lnew (t' := s.toks) (r.append r2) (by rw [List.length_append]; omega), rfl, q _ I.fresh⟩
/-- t + u, a new tuple's object told -/
def rCatF (K : PySem.W.Frag) : R2 := fun x y H Q => ∃ a b xs ys, x = .ref a ∧ y = .ref b ∧ SqT K H a xs ∧ SqT K H b ys ∧ xs.length + ys.length ≤ sizeLine ∧
  (xs = [] → Q (.ref b) H) ∧ (xs ≠ [] → ys = [] → Q (.ref a) H) ∧ (xs ≠ [] → ys ≠ [] → ToT H (xs ++ ys) Q)
theorem op_catF {X : Cx} : OpR X (binaryOp .Add) (rCatF X.K) := fun pins s σ H x y v u Q I rx ry ⟨a, b, xs, ys, ex, ey, ha, hb, hz, q0, q1, q2⟩ => by
  by_cases hx : xs = []
  · exact op_catA pins s σ H x y v u Q I rx ry ⟨a, b, xs, ys, ex, ey, ha, hb, hz, q0, q1, fun h => absurd hx h⟩
  by_cases hy : ys = []
  · exact op_catA pins s σ H x y v u Q I rx ry ⟨a, b, xs, ys, ex, ey, ha, hb, hz, q0, q1, fun _ h => absurd hy h⟩
  subst ex ey
  cases rx
  cases ry
  obtain ⟨us, r1, p1, _⟩ := I.tuple ha
  obtain ⟨ws, r2, p2, _⟩ := I.tuple hb
  refine HT.cat_tup p1 p2 (fun e => hx (r1.nil_iff.mp e)) (fun e => absurd (r2.nil_iff.mp e) hy) (fun _ => ?_) (by rw [← r1.length, ← r2.length]; exact hz)
  exact newT_ep (tk := s.toks) I (r1.append r2) (by rw [List.length_append]; exact hz) (q2 hx hy)
def gAdd : D → D → Option Val
  | .int i, .int j => some (.d (.int (i + j)))
  | .tuple xs, .tuple ys => if xs.length + ys.length ≤ line then some (.d (.tuple (xs ++ ys))) else none
  | .list xs, .list ys => if xs.length + ys.length ≤ line then some (.f (.lst (xs ++ ys))) else none
  | .str x, .str y => if x.length + y.length ≤ line then some (.d (.str (x ++ y))) else none
  | .int i, .bool b => some (.d (.int (i + b2i b)))
  | _, _ => none
def rAdd (K : PySem.W.Frag) : R2 := fun x y H Q => (rI0 fun i j => .int (i + j)) x y H Q ∨ rCatF K x y H Q ∨ rCatS K x y H Q ∨ (∃ i j, x = .str i ∧ y = .str j ∧ i.length + j.length ≤ sizeLine ∧ Q (.str (i ++ j)) H) ∨ (∃ i k, x = .int i ∧ y = .bl k ∧ Q (.int (i + b2i k)) H)
theorem op_addA {X : Cx} : OpR X (binaryOp .Add) (rAdd X.K) := op_add.or (op_catF.or (op_catS.or (op_add_str.or op_add_ib)))
theorem g_add {K : PySem.W.Frag} : Op2 K gAdd (rAdd K) := by
  intro F H x y d e res Q hF rx ry hg q
  unfold gAdd at hg
  split at hg
  · cases hg
    cases rx.toInt
    cases ry.toInt
    exact .inl ⟨_, _, rfl, rfl, q _ _ (NewOk.dat (.int _))⟩
  · split at hg
    · cases hg
      obtain ⟨a, xs, rfl, h1, t1, r1⟩ := rx.toTupD
      obtain ⟨b, ys, rfl, h2, t2, r2⟩ := ry.toTupD
      rename_i ds es hl
      rw [r1.length, r2.length] at hl
      refine .inr (.inl ⟨a, b, xs, ys, rfl, rfl, h1, h2, by rw [line_eq]; exact hl, fun e => ?_, fun n e => ?_, fun n1 n2 p _ np => q _ _ (NewOk.tup np (r1.append r2))⟩)
      · have e' := r1.nil_iff.mpr e
        rw [e', List.nil_append] at q
        exact q _ _ (NewOk.dat (.tup h2 t2 r2))
      · have e' := r2.nil_iff.mpr e
        rw [e', List.append_nil] at q
        exact q _ _ (NewOk.dat (.tup h1 t1 r1))
    · cases hg
  · split at hg
    · cases hg
      obtain ⟨a, xs, rfl, h1, r1⟩ := rx.toLst
      obtain ⟨b, ys, rfl, h2, r2⟩ := ry.toLst
      rename_i ds es hl
      rw [r1.length, r2.length] at hl
      exact .inr (.inr (.inl ⟨a, b, xs, ys, rfl, rfl, h1, h2, by rw [line_eq]; exact hl, fun p np => q _ _ (NewOk.lst np (r1.append r2))⟩))
    · cases hg
  · split at hg
    · cases hg
      rename_i hl
      cases rx.toStr
      cases ry.toStr
      exact .inr (.inr (.inr (.inl ⟨_, _, rfl, rfl, by rw [line_eq]; exact hl, q _ _ (NewOk.dat (.str _))⟩)))
    · cases hg
  · cases hg
    cases rx.toInt
    cases ry.toBl
    exact .inr (.inr (.inr (.inr ⟨_, _, rfl, rfl, q _ _ (NewOk.dat (.int _))⟩)))
  · cases hg

/-! ### -, *, //, %, ** -/
def gSub : D → D → Option Val
  | .int i, .int j => some (.d (.int (i - j)))
  | _, _ => none
theorem g_sub {K : PySem.W.Frag} : Op2 K gSub (rI0 fun i j => .int (i - j)) := by
  intro F H x y d e res Q hF rx ry hg q
  unfold gSub at hg
  split at hg
  · cases hg
    cases rx.toInt
    cases ry.toInt
    exact ⟨_, _, rfl, rfl, q _ _ (NewOk.dat (.int _))⟩
  · cases hg
instance {i j : Int} : Decidable (CMul i j) := by unfold CMul; infer_instance
instance {i j : Int} : Decidable (CMulX i j) := by unfold CMulX; infer_instance
instance {i j : Int} : Decidable (CDivW i j) := by unfold CDivW; infer_instance
instance {i j : Int} : Decidable (CDivN i j) := by unfold CDivN; infer_instance
instance {i j : Int} : Decidable (CPow i j) := by unfold CPow; infer_instance
/-- a tuple taken once -/
theorem tuple_mul1 (l : Addr) (items : Array Value) (n : Nat) (dd : Option Addr) (sl : Array (Option Value)) (x : Int) (u : Tok) (c0 : (decide (x < -(2 ^ 63)) || decide (x ≥ 2 ^ 63)) = false) (c1 : (items.isEmpty || x == 1) = true) :
    Meets (Builtin.«tuple.__mul__» ⟨[.ref l, .int x u], []⟩) (fun _ R s => s.heap.get? l = some { cls := .type "tuple", dict := dd, data := .seq items n, slots := sl } ∧ R (.ok (.ret (Value.ref l))) { s with heap := s.heap, toks := s.toks }) :=
  .of_wp fun prog w A R s h => by
    obtain ⟨hp, g, d, tk, os⟩ := s
    obtain ⟨hl, h⟩ := h
    have f1 := AutoSeq1.idx_int
    have f2 := AutoSeq1.sub_tuple_tuple
    wp_walk using wpAny_loadPart' hl
    repeat (first
      | (refine wpAny_ite_false (decide_eq_false (by rw [c0]; exact Bool.false_ne_true)) ?_; wp_walk using wpAny_loadPart' hl)
      | (refine wpAny_ite_true (decide_eq_true c1) ?_; wp_walk using wpAny_loadPart' hl))
    exact ⟨_, rfl, h⟩
def rRep1 (K : PySem.W.Frag) : R2 := fun x y H Q => ∃ l xs, x = .ref l ∧ y = .int 1 ∧ SqT K H l xs ∧ Q (.ref l) H
theorem op_rep1 {X : Cx} : OpR X (binaryOp .Mult) (rRep1 X.K) := by
  intro pins s σ H x y v u Q I rx ry h
  obtain ⟨l, xs, rfl, rfl, hT, q⟩ := h
  cases rx
  obtain ⟨t, rfl⟩ := ry
  obtain ⟨its, r, ⟨⟨cls, dd, data, sl⟩, ho, hc, n, hd⟩, hs⟩ := I.tuple hT
  simp only at hc hd
  subst hc hd
  have c1 : (its.toArray.isEmpty || (1 : Int) == 1) = true := by simp
  refine wpAny_binaryOp_repeat_ref (T := "tuple") (U := "int") (by decide) ⟨_, ho, rfl⟩ (fun s' => typeIs_int s' 1 t) noFill_tuple_mul PySem.F.fills_int_mul PySem.F.slot_int_rmul repeat_tuple PySem.F.slot_int_index.lookup
    (call_meets PySem.F.slot_int_rmul (typeIs_int s 1 t) PySem.F.entry_int_rmul (PySem.F.args_int_rmul_2 _ _) (int_rmul_tuple 1 t l its.toArray n dd sl)
      ⟨ho, rfl, ⟨_, ho, rfl⟩, call_meets PySem.F.slot_tuple_mul ⟨_, ho, rfl⟩ PySem.F.entry_tuple_mul (PySem.F.args_tuple_mul_2 _ _) (tuple_mul1 l its.toArray n dd sl 1 t (by decide) c1) ⟨ho, ?_⟩⟩)
  exact ⟨.ref l, H, I, rfl, q⟩
/-- t * k, a new tuple's object told -/
def rRepF (K : PySem.W.Frag) : R2 := fun x y H Q => ∃ l k xs, x = .ref l ∧ y = .int k ∧ SqT K H l xs ∧ xs ≠ [] ∧ 2 ≤ k ∧ k ≤ 1000 ∧ xs.length ≤ 1000 ∧ ToT H (List.replicate k.toNat xs).flatten Q
theorem op_repF {X : Cx} : OpR X (binaryOp .Mult) (rRepF X.K) := fun pins s σ H x y v u Q I rx ry ⟨l, k, xs, ex, ey, hT, hne, hk1, hk2, hx, q⟩ => by
  subst ex ey
  cases rx
  obtain ⟨tk, rfl⟩ := ry
  obtain ⟨us, r, ⟨⟨cs, dc, dt, ss⟩, ho, hc, n, hd⟩, _⟩ := I.tuple hT
  dsimp only at hc hd
  subst hc hd
  have lu : us.length = xs.length := r.length.symm
  have su : us.toArray.size = xs.length := lu
  have eu : us.toArray.isEmpty = false := by
    cases us with
    | nil => exact absurd (List.eq_nil_of_length_eq_zero lu.symm) hne
    | cons _ _ => rfl
  have big : (xs.length : Int) * k ≤ 1000000 := Int.le_trans (Int.mul_le_mul_of_nonneg_right (c := k) (show (xs.length : Int) ≤ 1000 by omega) (by omega)) (by omega)
  have fl : (List.replicate k.toNat xs).flatten.length ≤ sizeLine := by
    rw [PyProof.Rows.lm_len_rep_flat, sizeLine_eq]
    exact Nat.le_trans (Nat.mul_le_mul (show k.toNat ≤ 1000 by omega) hx) (by omega)
  have fl2 : (List.replicate k.toNat us).flatten.length ≤ sizeLine := by
    rw [PyProof.Rows.lm_len_rep_flat, lu, ← PyProof.Rows.lm_len_rep_flat]; exact fl
  have b1 : (decide (k < -(2 ^ 63)) || decide (k ≥ 2 ^ 63)) = false := by simp; omega
  have b2 : (us.toArray.isEmpty || k == 1) = false := by rw [eu]; simp; omega
  have b3 : (decide (k ≤ 0) || us.toArray.isEmpty) = false := by rw [eu]; simp; omega
  have b4 : ¬ ((us.toArray.size : Nat) : Int) * k > (2 ^ 63 - 1) / 8 := by rw [su]; omega
  have b5 : Builtin.Tuple.tupleTooMany (((us.toArray.size : Nat) : Int) * k) = false := by
    unfold Builtin.Tuple.tupleTooMany; rw [su, sizeLine_eq]; exact decide_eq_false (by omega)
  have m := tuple_mulW l us.toArray n dc ss k tk b1 b2 b3 b4 b5 (by rw [size_rep]; exact fl2)
  refine wpAny_binaryOp_repeat_ref (T := "tuple") (U := "int") (by decide) ⟨_, ho, rfl⟩ (fun z => typeIs_int z k tk) noFill_tuple_mul PySem.F.fills_int_mul PySem.F.slot_int_rmul repeat_tuple PySem.F.slot_int_index.lookup ?_
  refine call_meets PySem.F.slot_int_rmul (typeIs_int s k tk) PySem.F.entry_int_rmul (PySem.F.args_int_rmul_2 _ _) (int_rmul_tuple k tk l us.toArray n dc ss) ⟨ho, rfl, ⟨_, ho, rfl⟩, ?_⟩
  refine call_meets PySem.F.slot_tuple_mul ⟨_, ho, rfl⟩ PySem.F.entry_tuple_mul (PySem.F.args_tuple_mul_2 _ _) m ⟨ho, ?_⟩
  rw [size_rep]
  exact newT_ep (tk := s.toks) I (r.rep k.toNat) fl q
/-- a tuple taken not once -/
theorem tuple_mul0 (l : Addr) (items : Array Value) (n : Nat) (dd : Option Addr) (sl : Array (Option Value)) (x : Int) (u : Tok) (c0 : (decide (x < -(2 ^ 63)) || decide (x ≥ 2 ^ 63)) = false) (c1 : (items.isEmpty || x == 1) = false) (c2 : (decide (x ≤ 0) || items.isEmpty) = true) :
    Meets (Builtin.«tuple.__mul__» ⟨[.ref l, .int x u], []⟩) (fun _ R s => s.heap.get? l = some { cls := .type "tuple", dict := dd, data := .seq items n, slots := sl } ∧
      R (.ok (.ret (Value.ref s.heap.objs.size))) { s with heap := s.heap.push { cls := Value.type "tuple", data := Data.seq #[] }, toks := s.toks }) :=
  .of_wp fun prog w A R s h => by
    obtain ⟨hp, g, d, tk, os⟩ := s
    obtain ⟨hl, h⟩ := h
    have f1 := AutoSeq1.idx_int
    wp_walk using wpAny_loadPart' hl
    repeat (first
      | (refine wpAny_ite_false (decide_eq_false (by rw [c0]; exact Bool.false_ne_true)) ?_; wp_walk using wpAny_loadPart' hl)
      | (refine wpAny_ite_false (decide_eq_false (by rw [c1]; exact Bool.false_ne_true)) ?_; wp_walk using wpAny_loadPart' hl)
      | (refine wpAny_ite_true (decide_eq_true c2) ?_; wp_walk using wpAny_loadPart' hl))
    exact ⟨_, rfl, h⟩
def rRep0 (K : PySem.W.Frag) : R2 := fun x y H Q => ∃ l k xs, x = .ref l ∧ y = .int k ∧ SqT K H l xs ∧ xs ≠ [] ∧ -1000 ≤ k ∧ k ≤ 0 ∧ ToT H [] Q
theorem op_rep0 {X : Cx} : OpR X (binaryOp .Mult) (rRep0 X.K) := fun pins s σ H x y v u Q I rx ry ⟨l, k, xs, ex, ey, hT, hne, hk1, hk2, q⟩ => by
  subst ex ey
  cases rx
  obtain ⟨tk, rfl⟩ := ry
  obtain ⟨us, r, ⟨⟨cs, dc, dt, ss⟩, ho, hc, n, hd⟩, _⟩ := I.tuple hT
  dsimp only at hc hd
  subst hc hd
  have lu : us.length = xs.length := r.length.symm
  have eu : us.toArray.isEmpty = false := by
    cases us with
    | nil => exact absurd (List.eq_nil_of_length_eq_zero lu.symm) hne
    | cons _ _ => rfl
  have b1 : (decide (k < -(2 ^ 63)) || decide (k ≥ 2 ^ 63)) = false := by simp; omega
  have b2 : (us.toArray.isEmpty || k == 1) = false := by rw [eu]; simp; omega
  have b3 : (decide (k ≤ 0) || us.toArray.isEmpty) = true := by rw [eu]; simp; omega
  have m := tuple_mul0 l us.toArray n dc ss k tk b1 b2 b3
  refine wpAny_binaryOp_repeat_ref (T := "tuple") (U := "int") (by decide) ⟨_, ho, rfl⟩ (fun z => typeIs_int z k tk) noFill_tuple_mul PySem.F.fills_int_mul PySem.F.slot_int_rmul repeat_tuple PySem.F.slot_int_index.lookup ?_
  refine call_meets PySem.F.slot_int_rmul (typeIs_int s k tk) PySem.F.entry_int_rmul (PySem.F.args_int_rmul_2 _ _) (int_rmul_tuple k tk l us.toArray n dc ss) ⟨ho, rfl, ⟨_, ho, rfl⟩, ?_⟩
  refine call_meets PySem.F.slot_tuple_mul ⟨_, ho, rfl⟩ PySem.F.entry_tuple_mul (PySem.F.args_tuple_mul_2 _ _) m ⟨ho, ?_⟩
  exact newT_ep (tk := s.toks) (us := []) I .nil (Nat.zero_le _) q
def gMul : D → D → Option Val
  | .int i, .int j => if CMul i j ∨ CMulX i j then some (.d (.int (i * j))) else none
  | .tuple xs, .int k => if k = 1 then some (.d (.tuple xs)) else if xs ≠ [] ∧ 2 ≤ k ∧ k ≤ 1000 ∧ xs.length ≤ 1000 then some (.d (.tuple (List.replicate k.toNat xs).flatten)) else if xs ≠ [] ∧ -1000 ≤ k ∧ k ≤ 0 then some (.d (.tuple [])) else none
  | _, _ => none
def rMul (K : PySem.W.Frag) : R2 := fun x y H Q => (rI (fun i j => CMul i j) fun i j => .int (i * j)) x y H Q ∨ (rI CMulX fun i j => .int (i * j)) x y H Q ∨ rRepF K x y H Q ∨ rRep1 K x y H Q ∨ rRep0 K x y H Q
theorem op_mulA {X : Cx} : OpR X (binaryOp .Mult) (rMul X.K) := op_mul.or (op_mulX.or (op_repF.or (op_rep1.or op_rep0)))
theorem g_mul {K : PySem.W.Frag} : Op2 K gMul (rMul K) := by
  intro F H x y d e res Q hF rx ry hg q
  unfold gMul at hg
  split at hg
  · split at hg
    · cases hg
      rename_i hc
      cases rx.toInt
      cases ry.toInt
      rcases hc with hc | hc
      · exact .inl ⟨_, _, rfl, rfl, hc, q _ _ (NewOk.dat (.int _))⟩
      · exact .inr (.inl ⟨_, _, rfl, rfl, hc, q _ _ (NewOk.dat (.int _))⟩)
    · cases hg
  · split at hg
    · cases hg
      rename_i hc
      subst hc
      obtain ⟨a, xs, rfl, z, t, r⟩ := rx.toTupD
      cases ry.toInt
      exact .inr (.inr (.inr (.inl ⟨a, xs, rfl, rfl, z, q _ _ (NewOk.dat (.tup z t r))⟩)))
    · split at hg
      · cases hg
        rename_i hc
        obtain ⟨h1, h2, h3, h4⟩ := hc
        obtain ⟨a, xs, rfl, z, r⟩ := rx.toTup
        cases ry.toInt
        exact .inr (.inr (.inl ⟨a, _, xs, rfl, rfl, z, fun e => h1 (r.nil_iff.mpr e), h2, h3, by rw [← r.length]; exact h4, fun p _ np => q _ _ (NewOk.tup np (r.flatRep _))⟩))
      · split at hg
        · cases hg
          rename_i hc
          obtain ⟨h1, h2, h3⟩ := hc
          obtain ⟨a, xs, rfl, z, r⟩ := rx.toTup
          cases ry.toInt
          exact .inr (.inr (.inr (.inr ⟨a, _, xs, rfl, rfl, z, fun e => h1 (r.nil_iff.mpr e), h2, h3, fun p _ np => q _ _ (NewOk.tup np .nil)⟩)))
        · cases hg
  · cases hg
/-- a new list taken so often -/
def apR (env : Ev) (a b : Val) : R Val := match a, view env b with
  | .f (.lst xs), some (.int k) => if -(2 ^ 63) ≤ k ∧ k < 2 ^ 63 ∧ xs.length * k.toNat ≤ line then .ok (.f (.lst (List.replicate k.toNat xs).flatten)) env else .bad
  | _, _ => .bad
def mRep (ma mb : M Val) : M Val := fun env => (ma env).bind fun a e1 => (mb e1).bind fun b e2 => apR e2 a b
theorem apR_inv {env : Ev} {a b : Val} {P : R Val → Prop} (h : P (apR env a b)) (hb : P .bad → False) :
    ∃ xs k, a = .f (.lst xs) ∧ view env b = some (.int k) ∧ (-(2 ^ 63) ≤ k ∧ k < 2 ^ 63 ∧ xs.length * k.toNat ≤ line) ∧ P (.ok (.f (.lst (List.replicate k.toNat xs).flatten)) env) := by
  unfold apR at h
  split at h
  · split at h
    · exact ⟨_, _, rfl, by assumption, by assumption, h⟩
    · exact (hb h).elim
  · exact (hb h).elim
theorem e_rep {X : Cx} {G : Ct} {W : WX} {a b : Expr} {ma mb : M Val} {pos : Pos} (ha : PE X a (tE G W ma)) (hb : PE X b (tE G W mb)) : PE X (.BinOp a .Mult b pos) (tE G W (mRep ma mb)) := imp_E (pe_op op_rep ha hb) fun σ H Q ⟨O, ad, env, j, p⟩ => by
  refine mono_E (seqE (β := R Val) xsE (fun _ z => z) (Kr.refl O (Fo O env ad) H) j p) fun x H1 ⟨ad2, env2, val2, k2, k3, w2, q2⟩ => ?_
  refine mono_E (seqE (β := R Val) xsE (valO_le val2 x) k2 w2.j q2) fun y H4 ⟨ad5, env5, val5, k5, k6, w5, q5⟩ => ?_
  have jj := w5.j
  have b1 := (w2.vb (B := fun _ => False) fun _ z => z.elim).later k6 w5
  have b2 := w5.vb (B := fun _ => False) fun _ z => z.elim
  obtain ⟨xs, k, e1, hv, hc, q6⟩ := apR_inv (P := PostE G W O ad env σ H Q) q5 fun z => z
  subst e1
  obtain ⟨p1, rfl, _, _, vs, e1, r1⟩ := b1
  cases (b2.view jj hv).toInt
  exact ⟨p1, k, vs, rfl, rfl, e1, hc.1, hc.2.1, by rw [← r1.length, line_eq]; exact hc.2.2, fun p2 np => finE (fun a z => valO_le _ _ _ (valO_le _ _ _ z)) k5 jj q6 (NewOk.lst np (r1.flatRep _))⟩
def gFdiv : D → D → Option Val
  | .int i, .int j => if CDivW i j then some (.d (.int (i / j))) else if CDivN i j then some (.d (.int (i.fdiv j))) else none
  | _, _ => none
def rFdiv : R2 := fun x y H Q => (rI CDivW fun i j => .int (i / j)) x y H Q ∨ (rI CDivN fun i j => .int (i.fdiv j)) x y H Q
theorem op_fdivA {X : Cx} : OpR X (binaryOp .FloorDiv) rFdiv := op_fdivW.or op_fdivN
theorem g_fdiv {K : PySem.W.Frag} : Op2 K gFdiv rFdiv := by
  intro F H x y d e res Q hF rx ry hg q
  unfold gFdiv at hg
  split at hg
  · split at hg
    · cases hg
      rename_i hc
      cases rx.toInt
      cases ry.toInt
      exact .inl ⟨_, _, rfl, rfl, hc, q _ _ (NewOk.dat (.int _))⟩
    · split at hg
      · cases hg
        rename_i hc
        cases rx.toInt
        cases ry.toInt
        exact .inr ⟨_, _, rfl, rfl, hc, q _ _ (NewOk.dat (.int _))⟩
      · cases hg
  · cases hg
def gMod : D → D → Option Val
  | .int i, .int j => if 0 < j then some (.d (.int (i % j))) else none
  | _, _ => none
theorem g_mod {K : PySem.W.Frag} : Op2 K gMod (rI (fun _ j => 0 < j) fun i j => .int (i % j)) := by
  intro F H x y d e res Q hF rx ry hg q
  unfold gMod at hg
  split at hg
  · split at hg
    · cases hg
      rename_i hc
      cases rx.toInt
      cases ry.toInt
      exact ⟨_, _, rfl, rfl, hc, q _ _ (NewOk.dat (.int _))⟩
    · cases hg
  · cases hg
def gPow : D → D → Option Val
  | .int i, .int j => if CPow i j then some (.d (.int (i ^ j.toNat))) else none
  | _, _ => none
theorem g_pow {K : PySem.W.Frag} : Op2 K gPow (rI CPow fun i j => .int (i ^ j.toNat)) := by
  intro F H x y d e res Q hF rx ry hg q
  unfold gPow at hg
  split at hg
  · split at hg
    · cases hg
      rename_i hc
      cases rx.toInt
      cases ry.toInt
      exact ⟨_, _, rfl, rfl, hc, q _ _ (NewOk.dat (.int _))⟩
    · cases hg
  · cases hg
def gNeg : D → Option Val
  | .int i => some (.d (.int (-i)))
  | _ => none
theorem g_neg {K : PySem.W.Frag} : Op1 K gNeg (rU fun i => .int (-i)) := by
  intro F H x d res Q hF rx hg q
  unfold gNeg at hg
  split at hg
  · cases hg
    cases rx.toInt
    exact ⟨_, rfl, q _ _ (NewOk.dat (.int _))⟩
  · cases hg

/-! ### comparisons -/
def gCmp (p : Int → Int → Bool) : D → D → Option Val
  | .int i, .int j => some (.d (.bool (p i j)))
  | _, _ => none
theorem g_cmp {K : PySem.W.Frag} {p : Int → Int → Bool} : Op2 K (gCmp p) (rI0 fun i j => .bl (p i j)) := by
  intro F H x y d e res Q hF rx ry hg q
  unfold gCmp at hg
  split at hg
  · cases hg
    cases rx.toInt
    cases ry.toInt
    exact ⟨_, _, rfl, rfl, q _ _ (NewOk.dat (.bl _))⟩
  · cases hg
abbrev gLt : D → D → Option Val := gCmp fun i j => decide (i < j)
abbrev gLe : D → D → Option Val := gCmp fun i j => decide (i ≤ j)
abbrev gGt : D → D → Option Val := gCmp fun i j => decide (j < i)
abbrev gGe : D → D → Option Val := gCmp fun i j => decide (j ≤ i)
/-- == and != -/
def rEqP (K : PySem.W.Frag) (neg : Bool) : R2 := fun x y H Q => ∃ d e, Dp K H x d ∧ Dp K H y e ∧ d.plain = true ∧ e.plain = true ∧ d.depth ≤ 64 ∧ Q (.bl (if neg then !PyData.eqv d e else PyData.eqv d e)) H
theorem op_eqP {X : Cx} (hu : X.A.units + 64 < cLine) : OpR X (compareOp .Eq) (rEqP X.K false) := by
  intro pins s σ H x y v u Q I rx ry h
  obtain ⟨d, e, hd, he, sd, se, hz, q⟩ := h
  obtain ⟨as, r1⟩ := Dp.reads I d x v hd rx
  obtain ⟨bs, r2⟩ := Dp.reads I e y u he ry
  have q' : EP X pins σ Q (.bool (PyData.eqv d e)) s := ⟨.bl _, H, I, rfl, q⟩
  exact SeqAt.eq_plain r1 r2 sd se (Nat.lt_of_le_of_lt (Nat.add_le_add_left (Nat.le_trans (Nat.min_le_left _ _) hz) _) hu) q'
theorem op_neP {X : Cx} (hu : X.A.units + 64 < cLine) : OpR X (compareOp .NotEq) (rEqP X.K true) := by
  intro pins s σ H x y v u Q I rx ry h
  obtain ⟨d, e, hd, he, sd, se, hz, q⟩ := h
  obtain ⟨as, r1⟩ := Dp.reads I d x v hd rx
  obtain ⟨bs, r2⟩ := Dp.reads I e y u he ry
  have q' : EP X pins σ Q (.bool (!PyData.eqv d e)) s := ⟨.bl _, H, I, rfl, q⟩
  exact SeqAt.ne_plain r1 r2 sd se (Nat.lt_of_le_of_lt (Nat.add_le_add_left (Nat.le_trans (Nat.min_le_left _ _) hz) _) hu) q'
def gEq : D → D → Option Val := fun d e => if d.plain = true ∧ e.plain = true ∧ d.depth ≤ 64 then some (.d (.bool (PyData.eqv d e))) else none
def gNe : D → D → Option Val := fun d e => if d.plain = true ∧ e.plain = true ∧ d.depth ≤ 64 then some (.d (.bool (!PyData.eqv d e))) else none
theorem g_eq {K : PySem.W.Frag} : Op2 K gEq (rEqP K false) := by
  intro F H x y d e res Q hF rx ry hg q
  unfold gEq at hg
  split at hg
  · cases hg
    rename_i hc
    exact ⟨d, e, rx.dp hc.1, ry.dp hc.2.1, hc.1, hc.2.1, hc.2.2, q _ _ (NewOk.dat (.bl _))⟩
  · cases hg
theorem g_ne {K : PySem.W.Frag} : Op2 K gNe (rEqP K true) := by
  intro F H x y d e res Q hF rx ry hg q
  unfold gNe at hg
  split at hg
  · cases hg
    rename_i hc
    exact ⟨d, e, rx.dp hc.1, ry.dp hc.2.1, hc.1, hc.2.1, hc.2.2, q _ _ (NewOk.dat (.bl _))⟩
  · cases hg
/-! ### a place -/
def gIx : D → D → Option Val
  | .list xs, .int i => (atI xs i).map Val.d
  | .tuple xs, .int i => (atI xs i).map Val.d
  | .str z, .int i => if z.length ≤ line then (atI z.cps.toList i).map fun c => .d (.str ⟨#[c]⟩) else none
  | _, _ => none
theorem atI_rel {K : PySem.W.Frag} {F : Fb} {H : Hp} {ds : List D} {vs : List V} {i : Int} {d : D} (r : RelL K F H ds vs) (h : atI ds i = some d) : ∃ v, atI vs i = some v ∧ Rel K F H d v := by
  unfold atI at h ⊢
  rw [← r.length]
  cases e : ixN ds.length i with
  | none => rw [e] at h; cases h
  | some k =>
    rw [e] at h
    exact r.get h
theorem g_ix {K : PySem.W.Frag} : Op2 K gIx (rIx K) := by
  intro F H x y d e res Q hF rx ry hg q
  unfold gIx at hg
  split at hg
  · obtain ⟨a, xs, rfl, z, r⟩ := rx.toLst
    cases ry.toInt
    obtain ⟨d', h1, rfl⟩ := Option.map_eq_some_iff.mp hg
    obtain ⟨v, h2, rv⟩ := atI_rel r h1
    exact .inl ⟨a, xs, _, v, rfl, rfl, z, h2, q _ _ (NewOk.dat rv)⟩
  · obtain ⟨a, xs, rfl, z, r⟩ := rx.toTup
    cases ry.toInt
    obtain ⟨d', h1, rfl⟩ := Option.map_eq_some_iff.mp hg
    obtain ⟨v, h2, rv⟩ := atI_rel r h1
    exact .inr (.inl ⟨a, xs, _, v, rfl, rfl, z, h2, q _ _ (NewOk.dat rv)⟩)
  · split at hg
    · rename_i hl
      cases rx.toStr
      cases ry.toInt
      obtain ⟨c, h1, rfl⟩ := Option.map_eq_some_iff.mp hg
      exact .inr (.inr ⟨_, _, c, rfl, rfl, by rw [line_eq]; exact hl, h1, q _ _ (NewOk.dat (.str _))⟩)
    · cases hg
  · cases hg
end Nb
namespace Nb
open L2 PySem PySem.Spec PyProof.Rows

/-! ### in -/
def rInP (K : PySem.W.Frag) (neg : Bool) : R2 := fun x y H Q => ∃ d ds e, Dp K H x d ∧ Dp K H y e ∧ (e = .list ds ∨ e = .tuple ds) ∧ d.plain = true ∧ PyData.plainAll ds = true ∧ d.depth ≤ 60 ∧ Q (.bl (if neg then !(ds.any fun z => PyData.eqv z d) else ds.any fun z => PyData.eqv z d)) H
theorem op_inP {X : Cx} (hu : X.A.units + 64 < cLine) : OpR X (compareOp .In) (rInP X.K false) := by
  intro pins s σ H x y v u Q I rx ry h
  obtain ⟨d, ds, e, hd, he, hk, sd, se, hz, q⟩ := h
  obtain ⟨as, r1⟩ := Dp.reads I d x v hd rx
  obtain ⟨bs, r2⟩ := Dp.reads I e y u he ry
  have q' : EP X pins σ Q (.bool (ds.any fun z => PyData.eqv z d)) s := ⟨.bl _, H, I, rfl, q⟩
  have hm : X.A.units + 1 + min (PyData.depthAll ds) d.depth < cLine := by
    have := Nat.min_le_right (PyData.depthAll ds) d.depth
    omega
  rcases hk with rfl | rfl
  · exact SeqAt.in_list_data r2 r1 se sd hm q'
  · exact SeqAt.in_tuple_data r2 r1 se sd hm q'
theorem op_notInP {X : Cx} (hu : X.A.units + 64 < cLine) : OpR X (compareOp .NotIn) (rInP X.K true) := by
  intro pins s σ H x y v u Q I rx ry h
  obtain ⟨d, ds, e, hd, he, hk, sd, se, hz, q⟩ := h
  obtain ⟨as, r1⟩ := Dp.reads I d x v hd rx
  obtain ⟨bs, r2⟩ := Dp.reads I e y u he ry
  have q' : EP X pins σ Q (.bool (!ds.any fun z => PyData.eqv z d)) s := ⟨.bl _, H, I, rfl, q⟩
  have hm : X.A.units + 1 + min (PyData.depthAll ds) d.depth < cLine := by
    have := Nat.min_le_right (PyData.depthAll ds) d.depth
    omega
  rcases hk with rfl | rfl
  · exact SeqAt.notIn_list_data r2 r1 se sd hm q'
  · exact SeqAt.notIn_tuple_data r2 r1 se sd hm q'
def gIn (neg : Bool) : D → D → Option Val
  | d, .list ds => if d.plain = true ∧ PyData.plainAll ds = true ∧ d.depth ≤ 60 then some (.d (.bool (if neg then !(ds.any fun z => PyData.eqv z d) else ds.any fun z => PyData.eqv z d))) else none
  | d, .tuple ds => if d.plain = true ∧ PyData.plainAll ds = true ∧ d.depth ≤ 60 then some (.d (.bool (if neg then !(ds.any fun z => PyData.eqv z d) else ds.any fun z => PyData.eqv z d))) else none
  | _, _ => none
theorem g_in {K : PySem.W.Frag} {neg : Bool} : Op2 K (gIn neg) (rInP K neg) := by
  intro F H x y d e res Q hF rx ry hg q
  unfold gIn at hg
  split at hg
  · split at hg
    · cases hg
      rename_i hc
      exact ⟨d, _, _, rx.dp hc.1, ry.dp (by simpa [PyData.plain] using hc.2.1), .inl rfl, hc.1, hc.2.1, hc.2.2, q _ _ (NewOk.dat (.bl _))⟩
    · cases hg
  · split at hg
    · cases hg
      rename_i hc
      exact ⟨d, _, _, rx.dp hc.1, ry.dp (by simpa [PyData.plain] using hc.2.1), .inr rfl, hc.1, hc.2.1, hc.2.2, q _ _ (NewOk.dat (.bl _))⟩
    · cases hg
  · cases hg
/-- is None -/
def isNon : D → Bool
  | .none => true
  | _ => false
def gIsN (neg : Bool) : D → D → Option Val
  | d, .none => some (.d (.bool (if neg then !isNon d else isNon d)))
  | _, _ => none
theorem RelB.non_iff {K : PySem.W.Frag} {F : Fb} {H : Hp} {d : D} {v : V} (h : RelB K F H d v) : decide (v = V.non) = isNon d := by
  rcases h with h | ⟨a, c, e, e2, _⟩
  · cases h <;> rfl
  · subst e e2
    cases c <;> rfl
theorem g_isN {K : PySem.W.Frag} : Op2 K (gIsN false) (fun x y H Q => y = .non ∧ Q (.bl (decide (x = .non))) H) := by
  intro F H x y d e res Q hF rx ry hg q
  unfold gIsN at hg
  split at hg
  · cases hg
    refine ⟨ry.toNon, ?_⟩
    rw [rx.non_iff]
    exact q _ _ (NewOk.dat (.bl _))
  · cases hg
theorem g_notN {K : PySem.W.Frag} : Op2 K (gIsN true) (fun x y H Q => y = .non ∧ Q (.bl (!decide (x = .non))) H) := by
  intro F H x y d e res Q hF rx ry hg q
  unfold gIsN at hg
  split at hg
  · cases hg
    refine ⟨ry.toNon, ?_⟩
    rw [rx.non_iff]
    exact q _ _ (NewOk.dat (.bl _))
  · cases hg

/-! ### tests -/
def tru : D → Option Bool
  | .bool b => some b
  | _ => none
def ofB (m : M Bool) : M Val := fun env => (m env).bind fun b e => .ok (.d (.bool b)) e
def toB (m : M Val) : M Bool := fun env => (m env).bind fun a e => match view e a with
  | some (.bool b) => .ok b e
  | _ => .bad
def mAnd (a b : M Bool) : M Bool := fun env => (a env).bind fun x e => if x = true then b e else .ok false e
def mOr (a b : M Bool) : M Bool := fun env => (a env).bind fun x e => if x = true then .ok true e else b e
def mNot (a : M Bool) : M Bool := fun env => (a env).bind fun x e => .ok (!x) e
def mIf (t : M Bool) (a b : M Val) : M Val := fun env => (t env).bind fun x e => if x = true then a e else b e
/-- and, or as values -/
def mAndV (a b : M Val) : M Val := fun env => (a env).bind fun x e => match view e x with
  | some (.bool true) => b e
  | some (.bool false) => .ok (.d (.bool false)) e
  | _ => .bad
def mOrV (a b : M Val) : M Val := fun env => (a env).bind fun x e => match view e x with
  | some (.bool true) => .ok (.d (.bool true)) e
  | some (.bool false) => b e
  | _ => .bad
def mNotV (a : M Val) : M Val := fun env => (a env).bind fun x e => match view e x with
  | some (.bool c) => .ok (.d (.bool (!c))) e
  | _ => .bad
theorem bool_inv {env : Ev} {a : Val} {β : Type} {P : β → Prop} {f : Bool → β} {bad : β} (h : P (match view env a with
  | some (.bool b) => f b
  | _ => bad)) (hb : P bad → False) : ∃ b, view env a = some (.bool b) ∧ P (f b) := by
  split at h
  · exact ⟨_, by assumption, h⟩
  · exact (hb h).elim
section
variable {X : Cx} {G : Ct} {W : WX} {a b c : Expr} {rest : List Expr} {ma mb mc : M Val} {ta tb tc : M Bool} {pos : Pos}
theorem postE_sub {O O1 : Fb} {ad ad1 : Nat → Addr} {env env1 : Ev} {σ : L2.St} {H H1 : Hp} {Q : VK} {r : R Val} (hO : ∀ a, O a → O1 a) (hn : ∀ a, O1 a → O a ∨ H a = none) (k : Kr O (Fo O env ad) (Fo O env1 ad1) H H1) (p : PostE G W O ad env σ H Q r) :
    PostE G W O ad1 env1 σ H1 Q r := by
  cases r with
  | bad => exact p
  | ok val e' =>
    intro ad' v H' k' w
    refine p ad' v H' (k.trans k') ?_
    cases val with
    | d d => exact w
    | s i => exact w
    | f c => obtain ⟨p1, rfl, np, z⟩ := w; exact ⟨p1, rfl, k.none np, z⟩
  | ex x e' => exact fun ad' cls dx H' k' j r => p ad' cls dx H' (k.trans k') j r
theorem t_toB {e : Expr} {m : M Val} (h : PT X e (fun σ H Q => tE G W m σ H fun x H1 => ∃ c, x = .bl c ∧ Q c H1)) : PT X e (tT G W (toB m)) := imp_T h fun σ H Q ⟨O, ad, env, j, p⟩ => by
  refine mono_E (seqE (β := R Bool) (P := PostT G W O ad env σ H Q) xsT (fun _ z => z) (Kr.refl O (Fo O env ad) H) j p) fun x H1 ⟨ad2, env2, val2, k2, k3, w2, q2⟩ => ?_
  obtain ⟨b, e1, q3⟩ := bool_inv (P := PostT G W O ad env σ H Q) q2 fun z => z
  exact ⟨b, ((w2.vb (B := fun _ => False) fun _ z => z.elim).view w2.j e1).toBl, q3 ad2 H1 k2 w2.j0⟩
theorem t_val {e : Expr} {m : M Val} (h : PE X e (tE G W m)) (he : ∀ whole, isTrue e X.env whole = (do let v ← whole; standAt e.pos; holding [v] (truthy v)) := by intro _; rfl) : PT X e (tT G W (toB m)) := t_toB (pt_val h he)
theorem t_cmp {op : CmpOp} {g : D → D → Option Val} {r : R2} (ho : OpR X (compareOp op) r) (hr : Op2 G.K g r) (ha : PE X a (tE G W ma)) (hb : PE X b (tE G W mb)) (hm : behindInMarks op b = false) : PT X (.Compare a [op] [b] pos) (tT G W (toB (m2 g ma mb))) :=
  t_toB (imp_T (pt_cmpR ho ha hb hm) fun σ H Q h => by
    have h' := two hr h
    exact h')
theorem t_and1 (ha : PT X a (tT G W ta)) : PW X (.BoolOp .And [a] pos) (tT G W ta) := pw_and1 ha
theorem t_or1 (ha : PT X a (tT G W ta)) : PW X (.BoolOp .Or [a] pos) (tT G W ta) := pw_or1 ha
theorem postT_sub {O : Fb} {ad ad1 : Nat → Addr} {env env1 : Ev} {σ : L2.St} {H H1 : Hp} {Q : Bool → Hp → Prop} {r : R Bool} (k : Kr O (Fo O env ad) (Fo O env1 ad1) H H1) (p : PostT G W O ad env σ H Q r) :
    PostT G W O ad1 env1 σ H1 Q r := by
  cases r with
  | bad => exact p
  | ok val e' => exact fun ad' H' k' w => p ad' H' (k.trans k') w
  | ex x e' => exact fun ad' cls dx H' k' j r => p ad' cls dx H' (k.trans k') j r
theorem t_and (ha : PT X a (tT G W ta)) (hb : PW X (.BoolOp .And (b :: rest) pos) (tT G W tb)) : PW X (.BoolOp .And (a :: b :: rest) pos) (tT G W (mAnd ta tb)) := imp_W (pw_and ha hb) fun σ H Q ⟨O, ad, env, j, p⟩ => by
  refine mono_T (seqT (β := R Bool) xsT (fun _ z => z) (Kr.refl O (Fo O env ad) H) j p) fun c H1 ⟨ad2, env2, k2, k3, j2, q2⟩ => ?_
  cases c with
  | true => exact iteT ⟨O, ad2, env2, j2, postT_sub k2 q2⟩
  | false => exact iteF (q2 ad2 H1 k2 j2)
theorem t_or (ha : PT X a (tT G W ta)) (hb : PW X (.BoolOp .Or (b :: rest) pos) (tT G W tb)) : PW X (.BoolOp .Or (a :: b :: rest) pos) (tT G W (mOr ta tb)) := imp_W (pw_or ha hb) fun σ H Q ⟨O, ad, env, j, p⟩ => by
  refine mono_T (seqT (β := R Bool) xsT (fun _ z => z) (Kr.refl O (Fo O env ad) H) j p) fun c H1 ⟨ad2, env2, k2, k3, j2, q2⟩ => ?_
  cases c with
  | true => exact iteT (q2 ad2 H1 k2 j2)
  | false => exact iteF ⟨O, ad2, env2, j2, postT_sub k2 q2⟩
theorem t_not (ha : PT X a (tT G W ta)) : PT X (.UnaryOp .Not a pos) (tT G W (mNot ta)) := imp_T (pt_not ha) fun σ H Q ⟨O, ad, env, j, p⟩ =>
  mono_T (seqT (β := R Bool) xsT (fun _ z => z) (Kr.refl O (Fo O env ad) H) j p) fun c H1 ⟨ad2, env2, k2, k3, j2, q2⟩ => q2 ad2 H1 k2 j2
theorem e_if (ht : PT X c (tT G W tc)) (ha : PE X a (tE G W ma)) (hb : PE X b (tE G W mb)) : PE X (.IfExp c a b pos) (tE G W (mIf tc ma mb)) := imp_E (pe_ifExp ht ha hb) fun σ H Q ⟨O, ad, env, j, p⟩ => by
  refine mono_T (seqT (β := R Val) xsE (fun _ z => z) (Kr.refl O (Fo O env ad) H) j p) fun c H1 ⟨ad2, env2, k2, k3, j2, q2⟩ => ?_
  cases c with
  | true => exact iteT ⟨O, ad2, env2, j2, postE_sub (O1 := O) (fun _ z => z) (fun _ z => .inl z) k2 q2⟩
  | false => exact iteF ⟨O, ad2, env2, j2, postE_sub (O1 := O) (fun _ z => z) (fun _ z => .inl z) k2 q2⟩
theorem boolV_inv {env : Ev} {a : Val} {P : R Val → Prop} {x y : R Val} (h : P (match view env a with
  | some (.bool true) => x
  | some (.bool false) => y
  | _ => .bad)) (hb : P .bad → False) : ∃ b, view env a = some (.bool b) ∧ P (if b = true then x else y) := by
  split at h
  · exact ⟨true, by assumption, h⟩
  · exact ⟨false, by assumption, h⟩
  · exact (hb h).elim
theorem e_one {op} (h : PE X a (tE G W ma)) : PE X (.BoolOp op [a] pos) (tE G W ma) := pe_one h
theorem e_and (ha : PE X a (tE G W ma)) (hb : PE X (.BoolOp .And (b :: rest) pos) (tE G W mb)) : PE X (.BoolOp .And (a :: b :: rest) pos) (tE G W (mAndV ma mb)) := imp_E (pe_and ha hb) fun σ H Q ⟨O, ad, env, j, p⟩ => by
  refine mono_E (seqE (β := R Val) xsE (fun _ z => z) (Kr.refl O (Fo O env ad) H) j p) fun x H1 ⟨ad2, env2, val2, k2, k3, w2, q2⟩ => ?_
  obtain ⟨b, e1, q3⟩ := boolV_inv (P := PostE G W O ad env σ H Q) q2 fun z => z
  refine ⟨b, ((w2.vb (B := fun _ => False) fun _ z => z.elim).view w2.j e1).toBl, ?_⟩
  cases b with
  | true => exact iteT ⟨O, ad2, env2, w2.j0, postE_sub (O1 := O) (fun _ z => z) (fun _ z => .inl z) k2 q3⟩
  | false => exact iteF (q3 ad2 _ H1 k2 ⟨w2.j0, .bl _⟩)
theorem e_or (ha : PE X a (tE G W ma)) (hb : PE X (.BoolOp .Or (b :: rest) pos) (tE G W mb)) : PE X (.BoolOp .Or (a :: b :: rest) pos) (tE G W (mOrV ma mb)) := imp_E (pe_or ha hb) fun σ H Q ⟨O, ad, env, j, p⟩ => by
  refine mono_E (seqE (β := R Val) xsE (fun _ z => z) (Kr.refl O (Fo O env ad) H) j p) fun x H1 ⟨ad2, env2, val2, k2, k3, w2, q2⟩ => ?_
  obtain ⟨b, e1, q3⟩ := boolV_inv (P := PostE G W O ad env σ H Q) q2 fun z => z
  refine ⟨b, ((w2.vb (B := fun _ => False) fun _ z => z.elim).view w2.j e1).toBl, ?_⟩
  cases b with
  | true => exact iteT (q3 ad2 _ H1 k2 ⟨w2.j0, .bl _⟩)
  | false => exact iteF ⟨O, ad2, env2, w2.j0, postE_sub (O1 := O) (fun _ z => z) (fun _ z => .inl z) k2 q3⟩
theorem e_not (ha : PE X a (tE G W ma)) : PE X (.UnaryOp .Not a pos) (tE G W (mNotV ma)) := imp_E (pe_not ha) fun σ H Q ⟨O, ad, env, j, p⟩ => by
  refine mono_E (seqE (β := R Val) xsE (fun _ z => z) (Kr.refl O (Fo O env ad) H) j p) fun x H1 ⟨ad2, env2, val2, k2, k3, w2, q2⟩ => ?_
  obtain ⟨b, e1, q3⟩ := bool_inv (P := PostE G W O ad env σ H Q) q2 fun z => z
  exact ⟨b, ((w2.vb (B := fun _ => False) fun _ z => z.elim).view w2.j e1).toBl, q3 ad2 _ H1 k2 ⟨w2.j0, .bl _⟩⟩
/-- a < b < c -/
def m3 (g g' : D → D → Option Val) (ma mb mc : M Val) : M Val := fun env => (ma env).bind fun a e1 => (mb e1).bind fun b e2 => (ap2 g e2 a b).bind fun x e3 => match view e3 x with
  | some (.bool true) => (mc e3).bind fun c e4 => ap2 g' e4 b c
  | some (.bool false) => .ok (.d (.bool false)) e3
  | _ => .bad
end
end Nb
namespace Nb
open L2 PySem PySem.Spec PyProof.Rows

/-! ### several values -/
def mNil : M (List Val) := fun env => .ok [] env
def mCons (ma : M Val) (ms : M (List Val)) : M (List Val) := fun env => (ma env).bind fun a e1 => (ms e1).bind fun as e2 => .ok (a :: as) e2
section
variable {G : Ct} {W : WX} {B B' O O1 O2 : Fb} {ad ad1 ad2 : Nat → Addr} {env env1 env2 : Ev} {σ : L2.St} {H H1 H2 : Hp} {val : Val} {v : V}
/-- an older value, where more became outer -/
theorem VB.later' (h : VB G B O1 ad1 env1 σ H1 val v) (k : Kr O1 (Fo O1 env1 ad1) (Fo O1 env2 ad2) H1 H2) (hl : ∀ a, O1 a → O2 a) (hn : ∀ a, O2 a → O1 a ∨ H1 a = none) : VB G B O2 ad2 env2 σ H2 val v := by
  refine h.keep ⟨k.kq.kp.tup, k.kq.kp.frz, fun a o e n => ?_⟩ k.kq.out hl
  obtain ⟨e2, n2⟩ := k.kq.kp.obj a o e n
  refine ⟨e2, fun z => ?_⟩
  rcases z with z | z
  · rcases hn a z with z | z
    · exact n2 (.inl z)
    · rw [e] at z; cases z
  · exact n2 (.inr z)
theorem valO_new {O : Fb} {H' : Hp} (w : ValOk G O H ad env σ H' val v) : ∀ a, valO O val v a → O a ∨ H a = none := fun a z => by
  cases val with
  | d d => exact .inl z
  | s i => exact .inl z
  | f c =>
    obtain ⟨p, rfl, np, _⟩ := w
    rcases z with z | z
    · exact .inl z
    · rw [z]; exact .inr np
end
section
variable {X : Cx} {G : Ct} {W : WX} {e : Expr} {es : List Expr} {ma : M Val} {ms : M (List Val)} {pos : Pos}
theorem a_nil : PA X [] (tA G W mNil) := imp_A pa_nil fun σ H Q ⟨O, ad, env, j, p⟩ => p O ad [] H (fun _ z => z) (fun _ z => .inl z) (Kr.refl _ _ _) j trivial
theorem a_cons (ha : PE X e (tE G W ma)) (hr : PA X es (tA G W ms)) (hs : starEach (e :: es) X.env = (false, eval e X.env) :: starEach es X.env := by rfl) : PA X (e :: es) (tA G W (mCons ma ms)) := imp_A (pa_cons ha hr hs) fun σ H Q ⟨O, ad, env, j, p⟩ => by
  refine mono_E (seqE (β := R (List Val)) xsA (fun _ z => z) (Kr.refl O (Fo O env ad) H) j p) fun x H1 ⟨ad2, env2, val2, k2, k3, w2, q2⟩ => ?_
  refine mono_A (seqA (β := R (List Val)) xsA (valO_le val2 x) k2 w2.j q2) fun xs H4 ⟨O5, ad5, env5, vals, h1, h2, k5, k6, j5, w5, q5⟩ => ?_
  refine q5 O5 ad5 (x :: xs) H4 (fun a z => h1 a (valO_le _ _ _ z)) (fun a z => ?_) k5 j5 ⟨?_, w5⟩
  · rcases h2 a z with z | z
    · exact valO_new w2 a z
    · exact .inr (k2.none z)
  · exact (w2.vb (B := O) fun _ z => z).later' k6 h1 h2
end

/-! ### displays -/
def apTup (env : Ev) (vals : List Val) : R Val := match asDs env vals with
  | some (ds, e2) => if ds.length ≤ line then .ok (.d (.tuple ds)) e2 else .bad
  | none => .bad
def mTup (ms : M (List Val)) : M Val := fun env => (ms env).bind fun vals e1 => apTup e1 vals
def apLst (env : Ev) (vals : List Val) : R Val := match asDs env vals with
  | some (ds, e2) => if ds.length ≤ line then .ok (.f (.lst ds)) e2 else .bad
  | none => .bad
def mLst (ms : M (List Val)) : M Val := fun env => (ms env).bind fun vals e1 => apLst e1 vals
section
variable {X : Cx} {G : Ct} {W : WX} {es : List Expr} {ms : M (List Val)} {pos : Pos}
theorem apTup_inv {env : Ev} {vals : List Val} {P : R Val → Prop} (h : P (apTup env vals)) (hb : P .bad → False) : ∃ ds e2, asDs env vals = some (ds, e2) ∧ ds.length ≤ line ∧ P (.ok (.d (.tuple ds)) e2) := by
  unfold apTup at h
  split at h
  · split at h
    · exact ⟨_, _, by assumption, by assumption, h⟩
    · exact (hb h).elim
  · exact (hb h).elim
theorem apLst_inv {env : Ev} {vals : List Val} {P : R Val → Prop} (h : P (apLst env vals)) (hb : P .bad → False) : ∃ ds e2, asDs env vals = some (ds, e2) ∧ ds.length ≤ line ∧ P (.ok (.f (.lst ds)) e2) := by
  unfold apLst at h
  split at h
  · split at h
    · exact ⟨_, _, by assumption, by assumption, h⟩
    · exact (hb h).elim
  · exact (hb h).elim
def tTupF (t : TA) : TE := fun σ H Q => t σ H fun xs H1 => xs.length ≤ sizeLine ∧ ToT H1 xs Q
theorem pe_tupF {X : Cx} {es : List Expr} {t : TA} {pos : Pos} {x1} (h : PA X es t) : PE X (.Tuple es x1 pos) (tTupF t) :=
  ⟨fun pins s σ H Q I hq => wpAny_Tuple_spliced (thn (h.run pos pins s σ H _ I hq) fun us s1 ⟨xs, H1, I1, r, z, q⟩ => ⟨by rw [← r.length]; exact z, newT_ep (tk := s1.toks) I1 r z q⟩)⟩
theorem e_tup {x1} (h : PA X es (tA G W ms)) : PE X (.Tuple es x1 pos) (tE G W (mTup ms)) := imp_E (pe_tupF h) fun σ H Q ⟨O, ad, env, j, p⟩ => by
  refine mono_A (seqA (β := R Val) xsE (fun _ z => z) (Kr.refl O (Fo O env ad) H) j p) fun xs H4 ⟨O5, ad5, env5, vals, h1, h2, k5, k6, j5, w5, q5⟩ => ?_
  obtain ⟨ds, e2, ea, hl, q6⟩ := apTup_inv (P := PostE G W O ad env σ H Q) q5 fun z => z
  obtain ⟨j6, _, k7, r⟩ := asDs_ok h1 j5 w5 ea
  exact ⟨by rw [← r.length, line_eq]; exact hl, fun q _ np => finE (fun _ z => z) (k5.trans k7) (j6.less h1) q6 (NewOk.tup np r)⟩
theorem e_lst (h : PA X es (tA G W ms)) : PE X (.List es pos) (tE G W (mLst ms)) := imp_E (pe_lst h) fun σ H Q ⟨O, ad, env, j, p⟩ => by
  refine mono_A (seqA (β := R Val) xsE (fun _ z => z) (Kr.refl O (Fo O env ad) H) j p) fun xs H4 ⟨O5, ad5, env5, vals, h1, h2, k5, k6, j5, w5, q5⟩ => ?_
  obtain ⟨ds, e2, ea, hl, q6⟩ := apLst_inv (P := PostE G W O ad env σ H Q) q5 fun z => z
  obtain ⟨j6, _, k7, r⟩ := asDs_ok h1 j5 w5 ea
  exact ⟨by rw [← r.length, line_eq]; exact hl, fun q np => finE (fun _ z => z) (k5.trans k7) (j6.less h1) q6 (NewOk.lst np r)⟩
end

/-! ### calls of what is built in -/
def views (env : Ev) : List Val → Option (List D)
  | [] => some []
  | a :: as => match view env a, views env as with
    | some d, some ds => some (d :: ds)
    | _, _ => none
inductive RelBs (K : PySem.W.Frag) (F : Fb) (H : Hp) : List D → List V → Prop
  | nil : RelBs K F H [] []
  | cons {d : D} {v : V} {ds : List D} {vs : List V} : RelB K F H d v → RelBs K F H ds vs → RelBs K F H (d :: ds) (v :: vs)
def apA (g : List D → Option Val) (env : Ev) (vals : List Val) : R Val := match views env vals with
  | some ds => match g ds with
    | some r => .ok r env
    | none => .bad
  | none => .bad
def mA (g : List D → Option Val) (ms : M (List Val)) : M Val := fun env => (ms env).bind fun vals e1 => apA g e1 vals
def OpA (K : PySem.W.Frag) (g : List D → Option Val) (r : List V → Hp → VK → Prop) : Prop := ∀ (F : Fb) (H : Hp) (vs : List V) (ds : List D) (res : Val) (Q : VK), (∀ a, F a → H a ≠ none) → RelBs K F H ds vs → g ds = some res →
  (∀ v H', NewOk K F H H' res v → Q v H') → r vs H Q
section
variable {X : Cx} {G : Ct} {W : WX} {e : Expr} {es : List Expr} {ms : M (List Val)} {ma : M Val} {pos p apos : Pos} {x : Str} {id T name : String} {r : List V → Hp → VK → Prop} {g : List D → Option Val} {env : Ev}
theorem ValsOk.views {B O : Fb} {ad : Nat → Addr} {σ : L2.St} {H : Hp} (j : J G O ad env σ H) : ∀ {vals : List Val} {vs : List V} {ds : List D}, ValsOk G B O ad env σ H vals vs → views env vals = some ds → RelBs G.K (Fo O env ad) H ds vs
  | [], [], _, _, e => by cases e; exact .nil
  | [], _ :: _, _, h, _ => h.elim
  | _ :: _, [], _, h, _ => h.elim
  | a :: as, v :: vs, ds, h, e => by
    simp only [Nb.views] at e
    split at e
    · cases e
      exact .cons (h.1.view j (by assumption)) (ValsOk.views j h.2 (by assumption))
    · cases e
theorem apA_inv {vals : List Val} {P : R Val → Prop} (h : P (apA g env vals)) (hb : P .bad → False) : ∃ ds res, views env vals = some ds ∧ g ds = some res ∧ P (.ok res env) := by
  unfold apA at h
  split at h
  · split at h
    · exact ⟨_, _, by assumption, by assumption, h⟩
    · exact (hb h).elim
  · exact (hb h).elim
theorem many (hr : OpA G.K g r) {σ : L2.St} {H : Hp} {Q : VK} (h : tE G W (mA g ms) σ H Q) : tA G W ms σ H fun vs H1 => r vs H1 Q := by
  obtain ⟨O, ad, env, j, p⟩ := h
  refine mono_A (seqA (β := R Val) xsE (fun _ z => z) (Kr.refl O (Fo O env ad) H) j p) fun xs H4 ⟨O5, ad5, env5, vals, h1, h2, k5, k6, j5, w5, q5⟩ => ?_
  obtain ⟨ds, res, e1, e2, q6⟩ := apA_inv (P := PostE G W O ad env σ H Q) q5 fun z => z
  exact hr _ H4 xs ds res Q j5.fo (w5.views j5 e1) e2 fun v H' n => finE h1 k5 j5 q6 n
theorem e_callB (hc : CallR X (.builtin id) r) (hr : OpA G.K g r) (hg : Gl X x) (hm : X.mg x = none) (hv : bootBuiltins x = some (.builtin id)) (ha : PA X (e :: es) (tA G W ms)) (hn : x ≠ "__name__" := by decide) (hdb : (x == ("__debug__" : Str)) = false := by decide)
    (he : starEach (e :: es) X.env = (false, eval e X.env) :: starEach es X.env := by rfl) (hpl : (backTo pos (starEach es X.env)).any (·.1) = false := by rfl) : PE X (.Call (.Name x p) (e :: es) [] pos) (tE G W (mA g ms)) :=
  imp_E (pe_callB hc hg hm hv ha hn hdb he hpl) fun _ _ _ h => many hr h
theorem e_callTy (hc : CallR X (.type T) r) (hr : OpA G.K g r) (hg : Gl X x) (hm : X.mg x = none) (hv : bootBuiltins x = some (.type T)) (ha : PA X (e :: es) (tA G W ms)) (hn : x ≠ "__name__" := by decide) (hdb : (x == ("__debug__" : Str)) = false := by decide)
    (he : starEach (e :: es) X.env = (false, eval e X.env) :: starEach es X.env := by rfl) (hpl : (backTo pos (starEach es X.env)).any (·.1) = false := by rfl) : PE X (.Call (.Name x p) (e :: es) [] pos) (tE G W (mA g ms)) :=
  imp_E (pe_callTy hc hg hm hv ha hn hdb he hpl) fun _ _ _ h => many hr h
end
end Nb
namespace Nb
open L2 PySem PySem.Spec PyProof.Rows

/-! ### statements -/
def Out.next (o : Out) (k : Ev → Out) : Out := match o with
  | .nx e => k e
  | o => o
@[simp] theorem Out.next_nx (e : Ev) (k : Ev → Out) : (Out.nx e).next k = k e := rfl
def mSeq (a b : S) : S := fun env => (a env).next b
def mNop : S := fun env => .nx env
section
variable {X : Cx} {G : Ct} {W : WX} {st : Stmt} {rest : List Stmt} {a b : S} {e : Expr} {me : M Val} {pos : Pos}
theorem postS_sub {O : Fb} {ad ad1 : Nat → Addr} {env env1 : Ev} {H H1 : Hp} {E : Ends} {o : Out} (k : Kr O (Fo O env ad) (Fo O env1 ad1) H H1) (p : PostS G W O ad env H E o) : PostS G W O ad1 env1 H1 E o := by
  cases o with
  | bad => exact p
  | nx e' => exact fun ad' σ' H' k' w => p ad' σ' H' (k.trans k') w
  | bk e' => exact fun ad' σ' H' k' w => p ad' σ' H' (k.trans k') w
  | ct e' => exact fun ad' σ' H' k' w => p ad' σ' H' (k.trans k') w
  | rt d e' => exact fun ad' v σ' H' k' w => p ad' v σ' H' (k.trans k') w
  | rto c e' => exact fun ad' p1 σ' H' k' w => p ad' p1 σ' H' (k.trans k') w
  | rtt d c e' => exact fun ad' p1 v q σ' H' k' w => p ad' p1 v q σ' H' (k.trans k') w
  | ex x e' => exact fun ad' cls dx σ' H' k' w => p ad' cls dx σ' H' (k.trans k') w
/-- only what follows differs -/
theorem postS_nx {O : Fb} {ad : Nat → Addr} {env : Ev} {H : Hp} {E E' : Ends} {o : Out} {k : Ev → Out} (hb : E'.bk = E.bk) (hc : E'.ct = E.ct) (hr : E'.rt = E.rt) (p : PostS G W O ad env H E (o.next k))
    (h : ∀ e', PostS G W O ad env H E (k e') → ∀ ad' σ' H', Kr O (Fo O env ad) (Fo O e' ad') H H' → J G O ad' e' σ' H' → E'.nx σ' H') : PostS G W O ad env H E' o := by
  cases o with
  | bad => exact p
  | nx e' => exact h e' p
  | bk e' => intro ad' σ' H' k' w; rw [hb]; exact p ad' σ' H' k' w
  | ct e' => intro ad' σ' H' k' w; rw [hc]; exact p ad' σ' H' k' w
  | rt d e' => intro ad' v σ' H' k' w r; rw [hr]; exact p ad' v σ' H' k' w r
  | rto c e' => intro ad' p1 σ' H' k' w r j x; rw [hr]; exact p ad' p1 σ' H' k' w r j x
  | rtt d c e' => intro ad' p1 v q σ' H' k' w r j x y z; rw [hr]; exact p ad' p1 v q σ' H' k' w r j x y z
  | ex x e' => exact p
theorem s_nil : PSs X [] (tS G W mNop) := imp_Ss pss_nil fun E σ H ⟨O, ad, env, j, p⟩ => p ad σ H (Kr.refl _ _ _) j
theorem s_cons (h1 : PS X st (tS G W a)) (h2 : PSs X rest (tS G W b)) : PSs X (st :: rest) (tS G W (mSeq a b)) := imp_Ss (pss_cons h1 h2) fun E σ H ⟨O, ad, env, j, p⟩ =>
  ⟨O, ad, env, j, postS_nx (E := E) (k := b) rfl rfl rfl p fun e' q ad' σ' H' k j' => ⟨O, ad', e', j', postS_sub k q⟩⟩
theorem s_one (h1 : PS X st (tS G W a)) : PSs X [st] (tS G W a) := pss_one h1
def mBrk : S := fun env => .bk env
def mCnt : S := fun env => .ct env
theorem s_pass : PS X (.Pass pos) (tS G W mNop) := imp_S ps_pass fun E σ H ⟨O, ad, env, j, p⟩ => p ad σ H (Kr.refl _ _ _) j
theorem s_break : PS X (.Break pos) (tS G W mBrk) := imp_S ps_break fun E σ H ⟨O, ad, env, j, p⟩ => p ad σ H (Kr.refl _ _ _) j
theorem s_cont : PS X (.Continue pos) (tS G W mCnt) := imp_S ps_continue fun E σ H ⟨O, ad, env, j, p⟩ => p ad σ H (Kr.refl _ _ _) j
theorem s_doc {x k pos pos'} : PS X (.Expr (.Constant (.str x) k pos) pos') (tS G W mNop) := imp_S ps_doc fun E σ H ⟨O, ad, env, j, p⟩ => p ad σ H (Kr.refl _ _ _) j
/-- what is never done -/
def mBad : S := fun _ => .bad
theorem s_never : PS X st (tS G W mBad) := imp_S ps_never fun E σ H ⟨O, ad, env, j, p⟩ => p
def mExpr (me : M Val) : S := fun env => (me env).out fun _ e1 => .nx e1
theorem s_expr (he : PE X e (tE G W me)) (hs : swapsWith e none pos.line X.env = pure false := by rfl) : PS X (.Expr e pos) (tS G W (mExpr me)) := imp_S (ps_expr he hs) fun E σ H ⟨O, ad, env, j, p⟩ =>
  mono_E (seqE (β := Out) (P := PostS G W O ad env H E) xsS (fun _ z => z) (Kr.refl O (Fo O env ad) H) j p) fun x H1 ⟨ad2, env2, val2, k2, k3, w2, q2⟩ => q2 ad2 σ H1 k2 w2.j0
def mIfS (t : M Bool) (a b : S) : S := fun env => (t env).out fun c e1 => if c = true then a e1 else b e1
theorem s_if {c : Expr} {p q : List Stmt} {tc : M Bool} (ht : PT X c (tT G W tc)) (ha : PSs X p (tS G W a)) (hb : PSs X q (tS G W b)) : PS X (.If c p q pos) (tS G W (mIfS tc a b)) := imp_S (ps_if ht ha hb) fun E σ H ⟨O, ad, env, j, p⟩ => by
  refine mono_T (seqT (β := Out) (P := PostS G W O ad env H E) xsS (fun _ z => z) (Kr.refl O (Fo O env ad) H) j p) fun c H1 ⟨ad2, env2, k2, k3, j2, q2⟩ => ?_
  cases c with
  | true => exact iteT ⟨O, ad2, env2, j2, postS_sub k2 q2⟩
  | false => exact iteF ⟨O, ad2, env2, j2, postS_sub k2 q2⟩
/-- return -/
def apRet (env : Ev) (a : Val) : Out := match a with
  | .d d => .rt d env
  | .f c => .rto c env
  | .s i => match env[i]? with
    | some (.o c) => .rto c (env.set i .no)
    | some (.v d) => .rt d env
    | _ => .bad
def mRet (me : M Val) : S := fun env => (me env).out fun a e1 => apRet e1 a
def mRetN : S := fun env => .rt .none env
end

section
variable {G : Ct} {W : WX} {O : Fb} {ad : Nat → Addr} {env : Ev} {σ : L2.St} {H : Hp}
theorem getD_set {σ : L2.St} {i k : Nat} {v : Option V} (h : i < σ.length) : (σ.set i v).getD k none = if k = i then v else σ.getD k none := by
  rw [List.getD_eq_getElem?_getD, List.getD_eq_getElem?_getD]
  by_cases e : k = i
  · subst e; rw [List.getElem?_set_self h, if_pos rfl]; rfl
  · rw [List.getElem?_set_ne (Ne.symm e), if_neg e]
/-- a slot that holds no outer thing is forgotten, or holds other things -/
theorem J.put (j : J G O ad env σ H) {i : Nat} {s t : Sl} {ad' : Nat → Addr} {x : Option V} {O' : Fb} (e : env[i]? = some s) (ns : isIo s = false) (nt : isIo t = false) (had : ∀ k, k ≠ i → ad' k = ad k)
    (ho : ∀ a, O' a → O a) (hi : isC t = true → (∀ k s', k ≠ i → env[k]? = some s' → isC s' = true → ad k ≠ ad' i) ∧ ¬ O' (ad' i) ∧ G.H0 (ad' i) = none)
    (ht : ∀ F', (∀ a, F' a → Fo O env ad a ∨ (isC t = true ∧ a = ad' i)) → Kp (Fo O env ad) F' H H → SlOk G F' H (ad' i) x t)
    (kp : Kp (Fo O env ad) (Fo O' (env.set i t) ad') H H) : J G O' ad' (env.set i t) (σ.set i x) H := by
  have hl : i < env.length := (List.getElem?_eq_some_iff.mp e).1
  have hσ : i < σ.length := by rw [j.len]; exact hl
  have nio : ∀ {k c}, env[k]? = some (.io c) → k ≠ i := fun {k c} q z => by subst z; rw [e] at q; cases q; cases ns
  refine ⟨by rw [List.length_set, List.length_set]; exact j.len, fun a b s1 s2 e1 c1 e2 c2 h => ?_, fun a s1 e1 c1 => ?_, fun a z => j.outs a (ho a z), fun a c e1 => ?_, fun a => ?_, fun a c e1 cc ci => ?_, j.mi, j.fr, fun a s1 e1 => ?_⟩
  · rcases get_set_sl e1 with ⟨q1, t1, _⟩ | ⟨n1, f1⟩
    · rcases get_set_sl e2 with ⟨q2, t2, _⟩ | ⟨n2, f2⟩
      · rw [q1, q2]
      · rw [q1, had b n2] at h; exact absurd h.symm ((hi (t1 ▸ c1)).1 b s2 n2 f2 c2)
    · rcases get_set_sl e2 with ⟨q2, t2, _⟩ | ⟨n2, f2⟩
      · rw [q2, had a n1] at h; exact absurd h ((hi (t2 ▸ c2)).1 a s1 n1 f1 c1)
      · rw [had a n1, had b n2] at h; exact j.inj a b s1 s2 f1 c1 f2 c2 h
  · rcases get_set_sl e1 with ⟨rfl, rfl, _⟩ | ⟨n1, e1⟩
    · exact (hi c1).2.1
    · rw [had a n1]; exact fun z => j.out a s1 e1 c1 (ho _ z)
  · rcases get_set_sl e1 with ⟨_, q, _⟩ | ⟨n1, e1⟩
    · rw [← q] at nt; cases nt
    · rw [had a n1]; exact j.io a c e1
  · rw [j.ix a]
    constructor
    · rintro ⟨c, q⟩
      exact ⟨c, by rw [List.getElem?_set_ne (Ne.symm (nio q))]; exact q⟩
    · rintro ⟨c, q⟩
      rcases get_set_sl q with ⟨_, q, _⟩ | ⟨_, q⟩
      · rw [← q] at nt; cases nt
      · exact ⟨c, q⟩
  · rcases get_set_sl e1 with ⟨rfl, q, _⟩ | ⟨n1, e1⟩
    · exact (hi (by rw [← q]; exact cc)).2.2
    · rw [had a n1]; exact j.own a c e1 cc ci
  · rw [getD_set hσ]
    rcases get_set_sl e1 with ⟨rfl, rfl, _⟩ | ⟨n1, e1⟩
    · rw [if_pos rfl]
      refine ht _ (fun b z => ?_) kp
      rcases z with z | ⟨k, s', e2, c2, z⟩
      · exact .inl (.inl (ho b z))
      · rcases get_set_sl e2 with ⟨rfl, rfl, _⟩ | ⟨n2, e2⟩
        · exact .inr ⟨c2, z.symm⟩
        · rw [had k n2] at z; exact .inl (.inr ⟨k, s', e2, c2, z⟩)
    · rw [if_neg n1, had a n1]
      exact (j.at_ a s1 e1).keep kp fun _ _ h => h
/-- data into a slot -/
theorem J.put_v (j : J G O ad env σ H) {i : Nat} {s : Sl} {d : D} {v : V} (e : env[i]? = some s) (ns : isIo s = false) (r : Rel G.K (Fo O env ad) H d v) :
    J G O ad (env.set i (.v d)) (σ.set i (some v)) H ∧ Kr O (Fo O env ad) (Fo O (env.set i (.v d)) ad) H H :=
  ⟨j.put e ns rfl (fun _ _ => rfl) (fun _ z => z) (fun q => by cases q) (fun F' _ k => ⟨v, rfl, r.keep k⟩) (Kp.weak fo_freeze), ⟨⟨Kp.weak fo_freeze, fun _ _ _ h => h⟩, fun _ h => h⟩⟩
theorem fo_put {i : Nat} {t : Sl} {ad' : Nat → Addr} (had : ∀ k, k ≠ i → ad' k = ad k) : ∀ a, Fo O (env.set i t) ad' a → Fo O env ad a ∨ (isC t = true ∧ a = ad' i) := fun a z => by
  rcases z with z | ⟨k, s, e, c, z⟩
  · exact .inl (.inl z)
  · rcases get_set_sl e with ⟨rfl, rfl, _⟩ | ⟨n, e⟩
    · exact .inr ⟨c, z.symm⟩
    · rw [had k n] at z; exact .inl (.inr ⟨k, s, e, c, z⟩)
/-- a new thing into a slot -/
theorem J.put_o {p : Addr} (j : J G (Add O p) ad env σ H) (nO : ¬ O p) (n0 : G.H0 p = none) {i : Nat} {s : Sl} {c : Cl} (e : env[i]? = some s) (ns : isIo s = false) (x : ClOk G.K (Fo (Add O p) env ad) H p c) :
    J G O (fun k => if k = i then p else ad k) (env.set i (.o c)) (σ.set i (some (.ref p))) H := by
  have had : ∀ k, k ≠ i → (if k = i then p else ad k) = ad k := fun k h => if_neg h
  have hp : (if i = i then p else ad i) = p := if_pos rfl
  have wk : ∀ a, Fo O (env.set i (.o c)) (fun k => if k = i then p else ad k) a → Fo (Add O p) env ad a := fun a z => by
    rcases fo_put (t := .o c) (ad' := fun k => if k = i then p else ad k) had a z with z | ⟨_, z⟩
    · rcases z with z | z
      · exact .inl (.inl z)
      · exact .inr z
    · exact .inl (.inr (by rw [z]; exact hp))
  refine j.put e ns rfl had (fun a z => .inl z) (fun _ => ⟨fun k s' n e' c' => ?_, ?_, ?_⟩) (fun F' hF k => ?_) (Kp.weak wk)
  · rw [hp]; exact fun z => j.out k s' e' c' (.inr z)
  · rw [hp]; exact nO
  · rw [hp]; exact n0
  · show some (V.ref p) = some (V.ref (if i = i then p else ad i)) ∧ ClOk G.K F' H (if i = i then p else ad i) c
    rw [hp]
    exact ⟨rfl, x.keep k fun _ h => h⟩

/-! ### a name is given a value -/
def store (i : Nat) (env : Ev) (a : Val) : Option Ev := match env[i]? with
  | none => none
  | some (.io _) => none
  | some _ => match a with
    | .d d => some (env.set i (.v d))
    | .f c => some (env.set i (.o c))
    | .s k => match asD env (.s k) with
      | some (d, e2) => some (e2.set i (.v d))
      | none => none
theorem Kr.add {p : Addr} {F F0 F1 : Fb} {H H2 : Hp} (k : Kr O F0 F H H2) (np : H p = Option.none) (h : ∀ a, F1 a → F a ∨ a = p) : Kr O F0 F1 H H2 :=
  ⟨⟨⟨k.kq.kp.tup, k.kq.kp.frz, fun a o e n => by
    obtain ⟨e2, n2⟩ := k.kq.kp.obj a o e n
    refine ⟨e2, fun z => ?_⟩
    rcases h a z with z | z
    · exact n2 z
    · rw [z] at e; rw [e] at np; cases np⟩, k.kq.out⟩, k.dom⟩
theorem asD_shape {k : Nat} {d : D} {e2 : Ev} (h : asD env (.s k) = some (d, e2)) : ∀ (i : Nat) (s : Sl), env[i]? = some s → ∃ s' : Sl, e2[i]? = some s' ∧ (isIo s = false → isIo s' = false) := fun i s e => by
  simp only [asD] at h
  split at h
  · cases h
    by_cases q : i = k
    · subst q
      exact ⟨_, List.getElem?_set_self (List.getElem?_eq_some_iff.mp e).1, fun _ => rfl⟩
    · exact ⟨s, by rw [List.getElem?_set_ne (Ne.symm q)]; exact e, fun z => z⟩
  · cases h; exact ⟨s, e, fun z => z⟩
  · cases h
theorem store_ok {H0 : Hp} {F0 : Fb} {i : Nat} {val : Val} {v : V} {e3 : Ev} (fr : ∀ p, H0 p = none → G.H0 p = none) (k : Kr O F0 (Fo O env ad) H0 H) (w : ValOk G O H0 ad env σ H val v) (h : store i env val = some e3) :
    ∃ ad3, Kr O F0 (Fo O e3 ad3) H0 H ∧ J G O ad3 e3 (σ.set i (some v)) H := by
  unfold store at h
  split at h
  · cases h
  · cases h
  · rename_i s hio e
    have ns : isIo s = false := by
      cases s with
      | io c => exact (hio c rfl).elim
      | _ => rfl
    split at h
    · cases h
      obtain ⟨j', k'⟩ := w.1.put_v e ns w.2
      exact ⟨ad, k.trans k', j'⟩
    · cases h
      obtain ⟨p, rfl, np, nO, j, x⟩ := w
      refine ⟨fun k => if k = i then p else ad k, k.add np fun a z => ?_, j.put_o nO (fr p np) e ns x⟩
      rcases fo_put (ad' := fun k => if k = i then p else ad k) (fun k h => if_neg h) a z with z | ⟨_, z⟩
      · exact .inl z
      · exact .inr (by rw [z]; exact if_pos rfl)
    · split at h
      · rename_i k0 _ d e2 ea
        cases h
        obtain ⟨j2, _, k2, r⟩ := asD_ok (B := O) w.1 (fun _ z => z) (show VB G O O ad env σ H (.s k0) v from w.2) ea
        obtain ⟨s', e', n'⟩ := asD_shape ea i s e
        obtain ⟨j3, k3⟩ := j2.put_v e' (n' ns) r
        exact ⟨ad, (k.trans k2).trans k3, j3⟩
      · cases h
end
section
variable {X : Cx} {G : Ct} {W : WX} {e : Expr} {me : M Val} {pos : Pos}
def mSet (i : Nat) (me : M Val) : S := fun env => (me env).out fun a e1 => (store i e1 a).elim .bad .nx
theorem opt_inv {α β : Type} {P : β → Prop} {o : Option α} {f : α → β} {bad : β} (h : P (o.elim bad f)) (hb : P bad → False) : ∃ b, o = some b ∧ P (f b) := by
  cases o with
  | some b => exact ⟨b, rfl, h⟩
  | none => exact (hb h).elim
theorem s_set {i : Nat} {x : Str} {pos' : Pos} (hN : X.N.Nodup) (hi : X.N[i]? = some x) (hx : Loc X.env.scope x) (he : PE X e (tE G W me)) (hs : swapsWith e (some (.Name x pos')) pos.line X.env = pure false := by rfl) (hf : X.fn x = true ∨ X.env.scope.names.lookup x = some .local := by first | exact .inl rfl | exact .inr rfl | assumption) :
    PS X (.Assign [.Name x pos'] e pos) (tS G W (mSet i me)) := imp_S (ps_set hN hi hx he hs hf) fun E σ H ⟨O, ad, env, j, p⟩ => by
  refine mono_E (seqE (β := Out) (P := PostS G W O ad env H E) xsS (fun _ z => z) (Kr.refl O (Fo O env ad) H) j p) fun x H1 ⟨ad2, env2, val2, k2, k3, w2, q2⟩ => ?_
  obtain ⟨e3, e4, q3⟩ := opt_inv (P := PostS G W O ad env H E) q2 fun z => z
  obtain ⟨ad3, k4, j4⟩ := store_ok (fun p np => (j.fresh np).2) k2 w2 e4
  exact q3 ad3 _ H1 k4 j4
end
end Nb
namespace Nb
open L2 PySem PySem.Spec PyProof.Rows

/-! ### return -/
section
variable {G : Ct} {W : WX} {O : Fb} {ad : Nat → Addr} {env : Ev} {σ : L2.St} {H : Hp}
theorem J.release (j : J G O ad env σ H) {i : Nat} {c : Cl} (e : env[i]? = some (.o c)) : J G (Add O (ad i)) ad (env.set i .no) σ H ∧ ClOk G.K (Fo (Add O (ad i)) (env.set i .no) ad) H (ad i) c ∧ G.H0 (ad i) = none ∧ ¬ O (ad i) ∧ σ.getD i none = some (.ref (ad i)) ∧
    (∀ a, Fo O (env.set i .no) ad a → Fo O env ad a) := by
  obtain ⟨e1, x⟩ := j.at_ i _ e
  have w0 : ∀ a, Fo O (env.set i .no) ad a → Fo O env ad a := fun a z => by
    rcases fo_put (t := .no) (ad' := ad) (fun _ _ => rfl) a z with z | ⟨q, _⟩
    · exact z
    · cases q
  have wk : ∀ a, Fo (Add O (ad i)) (env.set i .no) ad a → Fo O env ad a := fun a z => by
    rcases z with (z | z) | z
    · exact .inl z
    · rw [z]; exact .inr ⟨i, _, e, rfl, rfl⟩
    · exact w0 a (.inr z)
  have kp : Kp (Fo O env ad) (Fo (Add O (ad i)) (env.set i .no) ad) H H := Kp.weak wk
  refine ⟨⟨by rw [List.length_set]; exact j.len, fun a b s1 s2 e1 c1 e2 c2 h => ?_, fun a s1 e1 c1 => ?_, fun a z => ?_, fun a c e1 => ?_, fun a => ?_, fun a c e1 cc ci => ?_, j.mi, j.fr, fun a s1 e1 => ?_⟩, x.keep kp fun _ h => h, j.own i _ e rfl rfl, j.out i _ e rfl, e1, w0⟩
  · rcases get_set_sl e1 with ⟨_, t1, _⟩ | ⟨n1, f1⟩
    · rw [t1] at c1; cases c1
    · rcases get_set_sl e2 with ⟨_, t2, _⟩ | ⟨n2, f2⟩
      · rw [t2] at c2; cases c2
      · exact j.inj a b s1 s2 f1 c1 f2 c2 h
  · rcases get_set_sl e1 with ⟨_, t1, _⟩ | ⟨n1, f1⟩
    · rw [t1] at c1; cases c1
    · intro z
      rcases z with z | z
      · exact j.out a s1 f1 c1 z
      · exact n1 (j.inj a i s1 _ f1 c1 e rfl z)
  · rcases z with z | z
    · exact j.outs a z
    · rw [z]; exact j.fo _ (.inr ⟨i, _, e, rfl, rfl⟩)
  · rcases get_set_sl e1 with ⟨_, t1, _⟩ | ⟨n1, f1⟩
    · cases t1
    · exact j.io a c f1
  · rw [j.ix a]
    constructor
    · rintro ⟨c', q⟩
      exact ⟨c', by rw [List.getElem?_set_ne (fun z => by subst z; rw [e] at q; cases q)]; exact q⟩
    · rintro ⟨c', q⟩
      rcases get_set_sl q with ⟨_, t1, _⟩ | ⟨_, q⟩
      · cases t1
      · exact ⟨c', q⟩
  · rcases get_set_sl e1 with ⟨_, t1, _⟩ | ⟨n1, f1⟩
    · rw [t1] at cc; cases cc
    · exact j.own a c f1 cc ci
  · rcases get_set_sl e1 with ⟨_, t1, _⟩ | ⟨n1, f1⟩
    · subst t1; trivial
    · exact (j.at_ a s1 f1).keep kp fun _ _ h => h
end
section
variable {X : Cx} {G : Ct} {W : WX} {e : Expr} {me : M Val} {pos : Pos}
theorem s_ret (he : PE X e (tE G W me)) : PS X (.Return (some e) pos) (tS G W (mRet me)) := imp_S (ps_ret he) fun E σ H ⟨O, ad, env, j, p⟩ => by
  refine mono_E (seqE (β := Out) (P := PostS G W O ad env H E) xsS (fun _ z => z) (Kr.refl O (Fo O env ad) H) j p) fun x H1 ⟨ad2, env2, val2, k2, k3, w2, q2⟩ => ?_
  cases val2 with
  | d d => exact q2 ad2 x σ H1 k2 w2.1 w2.2
  | f c =>
    obtain ⟨p1, rfl, np, nO, j1, x1⟩ := w2
    exact q2 ad2 p1 σ H1 k2 (j.fresh np).2 nO j1 x1
  | s i =>
    simp only [apRet] at q2
    cases q : env2[i]? with
    | none => rw [q] at q2; exact q2.elim
    | some s =>
      have z := w2.1.at_ i s q
      rw [show σ.getD i none = some x from w2.2] at z
      rw [q] at q2
      cases s with
      | no => exact q2.elim
      | io c => exact q2.elim
      | x y => exact q2.elim
      | n y => exact q2.elim
      | v d =>
        obtain ⟨v, e1, r⟩ := z
        cases e1
        exact q2 ad2 _ σ H1 k2 w2.1 r
      | o c =>
        obtain ⟨j1, x1, n1, n2, e1, w0⟩ := w2.1.release q
        have e2 : x = .ref (ad2 i) := by
          have := w2.2.symm.trans e1
          exact Option.some.inj this
        subst e2
        exact q2 ad2 _ σ H1 (k2.trans ⟨⟨Kp.weak w0, fun _ _ _ h => h⟩, fun _ h => h⟩) n1 n2 j1 x1
theorem s_retN : PS X (.Return none pos) (tS G W mRetN) := imp_S ps_retN fun E σ H ⟨O, ad, env, j, p⟩ => p ad .non σ H (Kr.refl _ _ _) j .non
end

/-! ### what a def does -/
def ioOnly : Sl → Sl
  | .io c => .io c
  | _ => .no
def outsOf : Nat → Ev → List Sl
  | 0, _ => []
  | n + 1, [] => .no :: outsOf n []
  | n + 1, s :: e => ioOnly s :: outsOf n e
theorem outsOf_get : ∀ (n : Nat) (env : Ev) (i : Nat), i < n → (outsOf n env)[i]? = some (ioOnly (env.getD i .no))
  | 0, _, _, h => absurd h (Nat.not_lt_zero _)
  | n + 1, [], 0, _ => rfl
  | n + 1, [], i + 1, h => outsOf_get n [] i (Nat.lt_of_succ_lt_succ h)
  | n + 1, s :: e, 0, _ => rfl
  | n + 1, s :: e, i + 1, h => outsOf_get n e i (Nat.lt_of_succ_lt_succ h)
theorem outsOf_len : ∀ (n : Nat) (env : Ev), (outsOf n env).length = n
  | 0, _ => rfl
  | n + 1, [] => congrArg (· + 1) (outsOf_len n [])
  | n + 1, _ :: e => congrArg (· + 1) (outsOf_len n e)
def putIo1 (a o : Sl) : Sl := match a with
  | .io _ => o
  | a => a
def putIo (args os : List Sl) : List Sl := args.zipWith putIo1 os
def fnDen (n N : Nat) (body : S) : Fn := fun args => if args.length = n then
    match body (args ++ List.replicate (N - n) .no) with
    | .nx e => .ok .none (outsOf n e)
    | .rt d e => .ok d (outsOf n e)
    | .rto c e => .oko c (outsOf n e)
    | .rtt d c e => .okt d c (outsOf n e)
    | .ex x e => .ex x (outsOf n e)
    | _ => .bad
  else .bad
/-- the end of a def -/
def PostF (G : Ct) (O : Fb) (ad : Nat → Addr) (args : List Sl) (vs : List V) (H : Hp) (Q : VK) (E : XK) : FOut → Prop
  | .ok d os => ∀ v H', J G O ad (putIo args os) (vs.map some) H' → (∀ a, H a ≠ none → H' a ≠ none) → Rel G.K (Fo O args ad) H' d v → Q v H'
  | .oko c os => ∀ p H', J G (Add O p) ad (putIo args os) (vs.map some) H' → (∀ a, H a ≠ none → H' a ≠ none) → H p = none → ¬ O p → ClOk G.K (Fo (Add O p) args ad) H' p c → Q (.ref p) H'
  | .okt d c os => ∀ p v q H', J G (Add O q) ad (putIo args os) (vs.map some) H' → (∀ a, H a ≠ none → H' a ≠ none) → H q = none → ¬ O q → PairAt G.K H' p v q → Rel G.K (Fo (Add O q) args ad) H' d v → ClOk G.K (Fo (Add O q) args ad) H' q c → Q (.ref p) H'
  | .ex x os => ∀ cls dx H', J G O ad (putIo args os) (vs.map some) H' → (∀ a, H a ≠ none → H' a ≠ none) → RelX G.K G.mg (Fo O args ad) H' x cls dx → E cls dx H'
  | .bad => False
def spX (xa : Option (Addr × Value × Option Addr)) (K : PySem.W.Frag) (mg : Str → Option Value) (n : Nat) (den : Fn) : Sp := fun vs H Q E => vs.length = n ∧ ∃ M P I O ad args, J ⟨K, mg, H, M, P, I, xa⟩ O ad args (vs.map some) H ∧ PostF ⟨K, mg, H, M, P, I, xa⟩ O ad args vs H Q E (den args)
abbrev spI := spX none
section
variable {G : Ct} {O O1 : Fb} {ad ad' : Nat → Addr} {args env : Ev} {σ : L2.St} {H H' : Hp} {vs : List V}
/-- more slots, of nothing -/
theorem J.pad (j : J G O ad args (vs.map some) H) (m : Nat) : J G O ad (args ++ List.replicate m .no) (vs.map some ++ List.replicate m none) H ∧ (∀ a, Fo O (args ++ List.replicate m .no) ad a ↔ Fo O args ad a) := by
  have get : ∀ {i : Nat} {s : Sl}, (args ++ List.replicate m .no)[i]? = some s → (args[i]? = some s ∧ i < args.length) ∨ (s = .no ∧ args.length ≤ i) := fun {i s} e => by
    by_cases h : i < args.length
    · rw [List.getElem?_append_left h] at e; exact .inl ⟨e, h⟩
    · rw [List.getElem?_append_right (Nat.le_of_not_lt h), List.getElem?_replicate] at e
      split at e
      · cases e; exact .inr ⟨rfl, Nat.le_of_not_lt h⟩
      · cases e
  have put : ∀ {i : Nat} {s : Sl}, args[i]? = some s → (args ++ List.replicate m .no)[i]? = some s := fun {i s} e => by
    rw [List.getElem?_append_left (List.getElem?_eq_some_iff.mp e).1]; exact e
  have hF : ∀ a, Fo O (args ++ List.replicate m .no) ad a ↔ Fo O args ad a := fun a => by
    constructor
    · rintro (z | ⟨i, s, e, c, z⟩)
      · exact .inl z
      · rcases get e with ⟨e, _⟩ | ⟨rfl, _⟩
        · exact .inr ⟨i, s, e, c, z⟩
        · cases c
    · rintro (z | ⟨i, s, e, c, z⟩)
      · exact .inl z
      · exact .inr ⟨i, s, put e, c, z⟩
  refine ⟨⟨?_, fun a b s1 s2 e1 c1 e2 c2 h => ?_, fun a s1 e1 c1 => ?_, j.outs, fun a c e1 => ?_, fun a => ?_, fun a c e1 cc ci => ?_, j.mi, j.fr, fun a s1 e1 => ?_⟩, hF⟩
  · rw [List.length_append, List.length_append, List.length_replicate, List.length_replicate, j.len]
  · rcases get e1 with ⟨e1, _⟩ | ⟨rfl, _⟩
    · rcases get e2 with ⟨e2, _⟩ | ⟨rfl, _⟩
      · exact j.inj a b s1 s2 e1 c1 e2 c2 h
      · cases c2
    · cases c1
  · rcases get e1 with ⟨e1, _⟩ | ⟨rfl, _⟩
    · exact j.out a s1 e1 c1
    · cases c1
  · rcases get e1 with ⟨e1, _⟩ | ⟨q, _⟩
    · exact j.io a c e1
    · cases q
  · rw [j.ix a]
    constructor
    · rintro ⟨c, q⟩; exact ⟨c, put q⟩
    · rintro ⟨c, q⟩
      rcases get q with ⟨q, _⟩ | ⟨q, _⟩
      · exact ⟨c, q⟩
      · cases q
  · rcases get e1 with ⟨e1, _⟩ | ⟨q, _⟩
    · exact j.own a c e1 cc ci
    · rw [q] at cc; cases cc
  · rcases get e1 with ⟨e1, hl⟩ | ⟨q, _⟩
    · have e2 : (vs.map some ++ List.replicate m none).getD a none = (vs.map some).getD a none := by
        rw [List.getD_eq_getElem?_getD, List.getD_eq_getElem?_getD, List.getElem?_append_left (by rw [j.len]; exact hl)]
      rw [e2]
      exact (j.at_ a s1 e1).keep (Kp.weak fun a z => (hF a).mp z) fun _ _ h => h
    · subst q; trivial
theorem get_putIo {os : List Sl} {i : Nat} {s : Sl} (e : (putIo args os)[i]? = some s) : ∃ a o, args[i]? = some a ∧ os[i]? = some o ∧ s = putIo1 a o := by
  unfold putIo at e
  rw [List.getElem?_zipWith] at e
  split at e
  · cases e; exact ⟨_, _, by assumption, by assumption, rfl⟩
  · cases e
/-- at the end, as the caller sees it -/
theorem J.exit {N : Nat} (j0 : J G O ad args (vs.map some) H) (hH : G.H0 = H) (hO : ∀ a, O a → O1 a) (hn : ∀ a, O1 a → O a ∨ H a = none) (k : Kr O (Fo O args ad) (Fo O env ad') H H') (j : J G O1 ad' env σ H') :
    J G O1 ad (putIo args (outsOf args.length env)) (vs.map some) H' ∧ (∀ a, Fo O1 args ad a → Fo O1 env ad' a) := by
  have own' : ∀ (i : Nat) (s : Sl), args[i]? = some s → isC s = true → isIo s = false → False := fun i s e cc ci => by
    have z := j0.own i s e cc ci
    rw [hH] at z
    exact j0.fo _ (.inr ⟨i, _, e, cc, rfl⟩) z
  have own : ∀ (i : Nat) (c : Cl), args[i]? ≠ some (Sl.o c) := fun i c e => by
    have z := j0.own i _ e rfl rfl
    rw [hH] at z
    exact j0.fo _ (.inr ⟨i, _, e, rfl, rfl⟩) z
  have ioE : ∀ {i : Nat} {c : Cl}, args[i]? = some (.io c) → ∃ c', env[i]? = some (.io c') ∧ ad' i = ad i := fun {i c} e => by
    obtain ⟨c', e'⟩ := (j.ix i).mp ((j0.ix i).mpr ⟨c, e⟩)
    exact ⟨c', e', (j.io i c' e').trans (j0.io i c e).symm⟩
  have get : ∀ {i : Nat} {s : Sl}, (putIo args (outsOf args.length env))[i]? = some s → (∃ c c', args[i]? = some (.io c) ∧ env[i]? = some (.io c') ∧ s = .io c' ∧ ad' i = ad i) ∨ (args[i]? = some s ∧ isC s = false) := fun {i s} e => by
    obtain ⟨a, o, e1, e2, rfl⟩ := get_putIo e
    cases a with
    | io c =>
      obtain ⟨c', e', q⟩ := ioE e1
      have hi : i < args.length := (List.getElem?_eq_some_iff.mp e1).1
      rw [outsOf_get _ _ _ hi, List.getD_eq_getElem?_getD, e'] at e2
      cases e2
      exact .inl ⟨c, c', e1, e', rfl, q⟩
    | o c => exact absurd e1 (own i c)
    | no => exact .inr ⟨e1, rfl⟩
    | v d => exact .inr ⟨e1, rfl⟩
    | x y => exact .inr ⟨e1, rfl⟩
    | n y => exact (own' _ _ e1 rfl rfl).elim
  have put : ∀ {i : Nat} {s : Sl}, args[i]? = some s → ∃ s' : Sl, (putIo args (outsOf args.length env))[i]? = some s' ∧ (isIo s = true → ∃ c', env[i]? = some (.io c') ∧ s' = .io c') ∧ (isIo s = false → s' = s) := fun {i s} e => by
    have hi : i < args.length := (List.getElem?_eq_some_iff.mp e).1
    have e2 := outsOf_get args.length env i hi
    refine ⟨putIo1 s (ioOnly (env.getD i .no)), ?_, fun z => ?_, fun z => ?_⟩
    · unfold putIo; rw [List.getElem?_zipWith, e, e2]
    · cases s with
      | io c =>
        obtain ⟨c', e', _⟩ := ioE e
        exact ⟨c', e', by rw [List.getD_eq_getElem?_getD, e']; rfl⟩
      | _ => cases z
    · cases s with
      | io c => cases z
      | _ => rfl
  have wk : ∀ a, Fo O1 (putIo args (outsOf args.length env)) ad a → Fo O1 env ad' a := fun a z => by
    rcases z with z | ⟨i, s, e, c, z⟩
    · exact .inl z
    · rcases get e with ⟨c1, c2, _, e2, rfl, q⟩ | ⟨_, q⟩
      · exact .inr ⟨i, _, e2, rfl, q.trans z⟩
      · rw [q] at c; cases c
  have wk2 : ∀ a, Fo O1 args ad a → Fo O1 env ad' a := fun a z => by
    rcases z with z | ⟨i, s, e, c, z⟩
    · exact .inl z
    · cases s with
      | io c1 => obtain ⟨c', e', q⟩ := ioE e; exact .inr ⟨i, _, e', rfl, q.trans z⟩
      | o c1 => exact absurd e (own i c1)
      | n y => exact (own' _ _ e rfl rfl).elim
      | _ => cases c
  have kp : Kp (Fo O args ad) (Fo O1 (putIo args (outsOf args.length env)) ad) H H' := ⟨k.kq.kp.tup, k.kq.kp.frz, fun a o e n => by
    obtain ⟨e2, n2⟩ := k.kq.kp.obj a o e n
    refine ⟨e2, fun z => ?_⟩
    rcases wk a z with z | z
    · rcases hn a z with z | z
      · exact n2 (.inl z)
      · rw [e] at z; cases z
    · exact n2 (.inr z)⟩
  refine ⟨⟨?_, fun a b s1 s2 e1 c1 e2 c2 h => ?_, fun a s1 e1 c1 => ?_, fun a z => ?_, fun a c e1 => ?_, fun a => ?_, fun a c e1 cc ci => ?_, j.mi, j.fr, fun a s1 e1 => ?_⟩, wk2⟩
  · rw [j0.len]
    unfold putIo
    rw [List.length_zipWith, outsOf_len]
    omega
  · rcases get e1 with ⟨_, _, f1, _, rfl, q1⟩ | ⟨_, q⟩
    · rcases get e2 with ⟨_, _, f2, _, rfl, q2⟩ | ⟨_, q⟩
      · exact j0.inj a b _ _ f1 rfl f2 rfl h
      · rw [q] at c2; cases c2
    · rw [q] at c1; cases c1
  · rcases get e1 with ⟨_, _, f1, f2, rfl, q1⟩ | ⟨_, q⟩
    · rw [← q1]; exact j.out a _ f2 rfl
    · rw [q] at c1; cases c1
  · exact j.outs a z
  · rcases get e1 with ⟨_, _, f1, f2, q0, q1⟩ | ⟨f1, q⟩
    · rw [← q1]; exact j.io a _ f2
    · cases q
  · rw [j0.ix a]
    constructor
    · rintro ⟨c, q⟩
      obtain ⟨s', h1, h2, _⟩ := put q
      obtain ⟨c', _, rfl⟩ := h2 rfl
      exact ⟨c', h1⟩
    · rintro ⟨c, q⟩
      rcases get q with ⟨c1, _, f1, _⟩ | ⟨_, q⟩
      · exact ⟨c1, f1⟩
      · cases q
  · rcases get e1 with ⟨_, _, f1, f2, q, q1⟩ | ⟨_, q⟩
    · rw [q] at ci; cases ci
    · rw [q] at cc; cases cc
  · rcases get e1 with ⟨c1, c2, f1, f2, rfl, q1⟩ | ⟨f1, q⟩
    · obtain ⟨z1, _⟩ := j0.at_ a _ f1
      obtain ⟨_, z2⟩ := j.at_ a _ f2
      rw [q1] at z2
      exact ⟨z1, z2.keep (Kp.weak wk) fun _ h => h⟩
    · exact (j0.at_ a s1 f1).keep kp fun z => by rw [q] at z; cases z
end
/-- a body that does so keeps the promise -/
theorem sp_body {xa : Option (Addr × Value × Option Addr)} {K : PySem.W.Frag} {mg : Str → Option Value} {N ps : List Str} {body : S} {vs : List V} {H : Hp} {Q : VK} {E : XK} (h : spX xa K mg ps.length (fnDen ps.length N.length body) vs H Q E) :
    ∃ M P I, tS ⟨K, mg, H, M, P, I, xa⟩ (fun cls d _ H => E cls d H) body { nx := fun _ H' => Q .non H', rt := Q } (start N vs) H := by
  obtain ⟨hv, M, P0, I, O, ad, args, j, p⟩ := h
  refine ⟨M, P0, I, ?_⟩
  have la : args.length = ps.length := by rw [← j.len, List.length_map]; exact hv
  obtain ⟨j1, hF⟩ := j.pad (N.length - vs.length)
  have hk : Kr O (Fo O args ad) (Fo O (args ++ List.replicate (N.length - vs.length) .no) ad) H H := ⟨⟨Kp.weak fun a z => (hF a).mp z, fun _ _ _ h => h⟩, fun _ h => h⟩
  have hk2 : ∀ {O2 : Fb} {e' : Ev} {ad' : Nat → Addr} {H' : Hp}, Kr O (Fo O (args ++ List.replicate (N.length - vs.length) .no) ad) (Fo O e' ad') H H' → Kr O (Fo O args ad) (Fo O e' ad') H H' := fun {O2 e' ad' H'} k => hk.trans k
  refine ⟨O, ad, _, j1, ?_⟩
  unfold fnDen at p
  rw [if_pos la, ← hv] at p
  revert p
  cases eb : body (args ++ List.replicate (N.length - vs.length) .no) with
  | bad => exact fun p => p
  | bk e => exact fun p => p.elim
  | ct e => exact fun p => p.elim
  | nx e =>
    intro p ad' σ' H' k' j'
    obtain ⟨j2, w2⟩ := J.exit (N := 0) j rfl (fun _ z => z) (fun _ z => .inl z) (hk2 (O2 := O) k') j'
    rw [la, ← hv] at j2
    exact p .non H' j2 k'.dom .non
  | rt d e =>
    intro p ad' v σ' H' k' j' r
    obtain ⟨j2, w2⟩ := J.exit (N := 0) j rfl (fun _ z => z) (fun _ z => .inl z) (hk2 (O2 := O) k') j'
    rw [la, ← hv] at j2
    exact p v H' j2 k'.dom (r.keep (Kp.weak w2))
  | rto c e =>
    intro p ad' p1 σ' H' k' n1 n2 j' r
    obtain ⟨j2, w2⟩ := J.exit (N := 0) (O1 := Add O p1) j rfl (fun _ z => .inl z) (fun a z => by
      rcases z with z | z
      · exact .inl z
      · rw [z]; exact .inr n1) (hk2 (O2 := O) k') j'
    rw [la, ← hv] at j2
    exact p p1 H' j2 k'.dom n1 n2 (r.keep (Kp.weak w2) fun _ h => h)
  | rtt d c e =>
    intro p ad' p1 v q1 σ' H' k' n1 n2 j' y r1 r
    obtain ⟨j2, w2⟩ := J.exit (N := 0) (O1 := Add O q1) j rfl (fun _ z => .inl z) (fun a z => by
      rcases z with z | z
      · exact .inl z
      · rw [z]; exact .inr n1) (hk2 (O2 := O) k') j'
    rw [la, ← hv] at j2
    exact p p1 v q1 H' j2 k'.dom n1 n2 y (r1.keep (Kp.weak w2)) (r.keep (Kp.weak w2) fun _ h => h)
  | ex y e =>
    intro p ad' cls dx σ' H' k' j' r
    obtain ⟨j2, w2⟩ := J.exit (N := 0) j rfl (fun _ z => z) (fun _ z => .inl z) (hk2 (O2 := O) k') j'
    rw [la, ← hv] at j2
    exact p cls dx H' j2 k'.dom (r.keep (Kp.weak w2))

/-- THE RULE for a def -/
theorem fn_den {P : Program} {w : World} {K : PySem.W.Frag} {mg : Str → Option Value} {base : Heap} {x qual : Str} {st : Stmt} {f : Addr} {fd : FuncData} {N ps : List Str} {k : Nat} {body : S} (F : Fun K x qual st f fd) (S0 : FnScope N ps (defScope st))
    (hbody : ∀ (cdv : Value) (A : Around) (outer : List Env) (s : Shared) (H : Hp) (E : XK) (G : Ct), G.K = K → G.mg = mg → G.xa = none → Room k (A.deeper (envOfC qual (defScope st) s.heap.objs.size f cdv)) →
      PSs (cxOf (L2N.CX P w) P w K mg base N qual (defScope st) f cdv A outer s H E) (defBody st) (tS G (fun cls d _ H => E cls d H) body)) :
    FnOk P w K mg base (L2N.CX P w) (k + 1) f fd ps (spI K mg ps.length (fnDen ps.length N.length body)) := by
  obtain ⟨oc, od, kV, doc, pm, an, cdv, ct, osl, rfl, lk, hcd⟩ := F.ex
  exact fn_of lk hcd S0 (fun vs H Q E h => h.1) fun A outer s H vs Q E hr h => let ⟨M, P0, I, z⟩ := sp_body h; ⟨_, hbody cdv A outer s H E ⟨K, mg, H, M, P0, I, none⟩ rfl rfl rfl hr, z⟩
end Nb
namespace Nb
open L2 PySem PySem.Spec PyProof.Rows

/-! ### a def is called -/
/-- what is handed over: data; a name's thing, to be changed; an exception -/
inductive Ag where
  | v (d : D) | i (k : Nat) | x (e : Ex)
def exAt (env : Ev) : Val → Option Ex
  | .s i => match env[i]? with
    | some (.x e) => some e
    | _ => none
  | _ => none
def prep (env : Ev) : List Bool → List Val → Option (List Ag × Ev)
  | [], [] => some ([], env)
  | true :: ks, .s i :: vs => match prep env ks vs with
    | some (as, e) => some (.i i :: as, e)
    | none => none
  | false :: ks, a :: vs => match exAt env a with
    | some x => match prep env ks vs with
      | some (as, e) => some (.x x :: as, e)
      | none => none
    | none => match asD env a with
      | some (d, e1) => match prep e1 ks vs with
        | some (as, e) => some (.v d :: as, e)
        | none => none
      | none => none
  | _, _ => none
def cellsOf (env : Ev) : List Ag → Option (List Sl)
  | [] => some []
  | .v d :: as => match cellsOf env as with
    | some l => some (.v d :: l)
    | none => none
  | .x e :: as => match cellsOf env as with
    | some l => some (.x e :: l)
    | none => none
  | .i k :: as => match cellOf env k, cellsOf env as with
    | some c, some l => some (.io c :: l)
    | _, _ => none
def slots : List Ag → List Nat
  | [] => []
  | .i k :: as => k :: slots as
  | _ :: as => slots as
def setC (env : Ev) (i : Nat) (c : Cl) : Ev := match env[i]? with
  | some (.o _) => env.set i (.o c)
  | some (.io _) => env.set i (.io c)
  | _ => env
def putBack (env : Ev) : List Ag → List Sl → Ev
  | .i k :: as, .io c :: os => putBack (setC env k c) as os
  | _ :: as, _ :: os => putBack env as os
  | _, _ => env
def apF (den : Fn) (ks : List Bool) (env : Ev) (vals : List Val) : R Val := (prep env ks vals).elim .bad fun p =>
  (cellsOf p.2 p.1).elim .bad fun args => if (slots p.1).Nodup then
    match den args with
    | .ok d os => .ok (.d d) (putBack p.2 p.1 os)
    | .oko c os => .ok (.f c) (putBack p.2 p.1 os)
    | .okt d c os => .ok (.d (.tuple [d, clD c])) (putBack p.2 p.1 os)
    | .ex x os => .ex x (putBack p.2 p.1 os)
    | .bad => .bad
  else .bad
def mF (den : Fn) (ks : List Bool) (ms : M (List Val)) : M Val := fun env => (ms env).bind fun vals e1 => apF den ks e1 vals

/-! ### what comes back -/
def newC (as : List Ag) (os : List Sl) (k : Nat) : Option Cl := match as, os with
  | .i i :: as, .io c :: os => if i = k then some c else newC as os k
  | _ :: as, _ :: os => newC as os k
  | _, _ => none
def updC (o : Option Cl) (s : Sl) : Sl := match o, s with
  | some c, .o _ => .o c
  | some c, .io _ => .io c
  | _, s => s
theorem setC_get {env : Ev} {i k : Nat} {c : Cl} : (setC env i c)[k]? = if i = k then (env[k]?).map (updC (some c)) else env[k]? := by
  unfold setC
  by_cases h : i = k
  · subst h
    rw [if_pos rfl]
    cases e : env[i]? with
    | none => simp [e]
    | some s =>
      have hl := (List.getElem?_eq_some_iff.mp e).1
      cases s with
      | o c' => simp [updC, hl]
      | io c' => simp [updC, hl]
      | no => exact e
      | v d => exact e
      | x y => exact e
      | n y => exact e
  · rw [if_neg h]
    split
    · rw [List.getElem?_set_ne h]
    · rw [List.getElem?_set_ne h]
    · rfl
theorem newC_none : ∀ {as : List Ag} {os : List Sl} {k : Nat}, k ∉ slots as → newC as os k = none
  | [], _, _, _ => rfl
  | .v _ :: as, [], _, _ => rfl
  | .x _ :: as, [], _, _ => rfl
  | .i _ :: as, [], _, _ => rfl
  | .v _ :: as, _ :: os, k, h => newC_none (as := as) (os := os) (by simpa [slots] using h)
  | .x _ :: as, _ :: os, k, h => newC_none (as := as) (os := os) (by simpa [slots] using h)
  | .i i :: as, o :: os, k, h => by
    have h' : k ≠ i ∧ k ∉ slots as := by simpa [slots] using h
    have ih := newC_none (as := as) (os := os) h'.2
    cases o with
    | io c => show (if i = k then some c else newC as os k) = none; rw [if_neg (Ne.symm h'.1), ih]
    | no => exact ih
    | v d => exact ih
    | o c => exact ih
    | x e => exact ih
    | n e => exact ih
theorem putBack_get : ∀ {as : List Ag} {os : List Sl} {env : Ev} (k : Nat), (slots as).Nodup → (putBack env as os)[k]? = (env[k]?).map (updC (newC as os k))
  | [], os, env, k, _ => by cases os <;> (show env[k]? = (env[k]?).map (updC none); cases env[k]? <;> rfl)
  | .v _ :: as, [], env, k, _ => by show env[k]? = (env[k]?).map (updC none); cases env[k]? <;> rfl
  | .x _ :: as, [], env, k, _ => by show env[k]? = (env[k]?).map (updC none); cases env[k]? <;> rfl
  | .i _ :: as, [], env, k, _ => by show env[k]? = (env[k]?).map (updC none); cases env[k]? <;> rfl
  | .v _ :: as, o :: os, env, k, n => putBack_get (as := as) (os := os) (env := env) k (by simpa [slots] using n)
  | .x _ :: as, o :: os, env, k, n => putBack_get (as := as) (os := os) (env := env) k (by simpa [slots] using n)
  | .i i :: as, o :: os, env, k, n => by
    have n' : i ∉ slots as ∧ (slots as).Nodup := by simpa [slots] using n
    have ih := fun env => putBack_get (as := as) (os := os) (env := env) k n'.2
    cases o with
    | io c =>
      show (putBack (setC env i c) as os)[k]? = (env[k]?).map (updC (if i = k then some c else newC as os k))
      rw [ih, setC_get]
      by_cases h : i = k
      · subst h
        rw [if_pos rfl, if_pos rfl, newC_none n'.1]
        cases env[i]? <;> rfl
      · rw [if_neg h, if_neg h]
    | no => exact ih env
    | v d => exact ih env
    | o c => exact ih env
    | x e => exact ih env
    | n e => exact ih env
/-- the j-th thing that is handed over stands at the slot -/
theorem cellsOf_get {env : Ev} : ∀ {as : List Ag} {l : List Sl}, cellsOf env as = some l → l.length = as.length ∧ ∀ (j : Nat) (s : Sl), l[j]? = some s →
    (∃ d, as[j]? = some (.v d) ∧ s = .v d) ∨ (∃ e, as[j]? = some (.x e) ∧ s = .x e) ∨ ∃ k c, as[j]? = some (.i k) ∧ s = .io c ∧ cellOf env k = some c
  | [], l, h => by cases h; exact ⟨rfl, fun j s e => by simp at e⟩
  | a :: as, l, h => by
    have step : ∀ {l' : List Sl} {s0 : Sl}, cellsOf env as = some l' → l = s0 :: l' → ((∃ d, a = .v d ∧ s0 = .v d) ∨ (∃ e, a = .x e ∧ s0 = .x e) ∨ ∃ k c, a = .i k ∧ s0 = .io c ∧ cellOf env k = some c) →
        l.length = (a :: as).length ∧ ∀ (j : Nat) (s : Sl), l[j]? = some s → (∃ d, (a :: as)[j]? = some (.v d) ∧ s = .v d) ∨ (∃ e, (a :: as)[j]? = some (.x e) ∧ s = .x e) ∨ ∃ k c, (a :: as)[j]? = some (.i k) ∧ s = .io c ∧ cellOf env k = some c := fun {l' s0} h1 h2 h3 => by
      obtain ⟨ih1, ih2⟩ := cellsOf_get h1
      subst h2
      refine ⟨by rw [List.length_cons, List.length_cons, ih1], fun j s e => ?_⟩
      cases j with
      | zero =>
        have : s0 = s := by simpa using e
        subst this
        rcases h3 with ⟨d, rfl, rfl⟩ | ⟨d, rfl, rfl⟩ | ⟨k, c, rfl, rfl, q⟩
        · exact .inl ⟨d, rfl, rfl⟩
        · exact .inr (.inl ⟨d, rfl, rfl⟩)
        · exact .inr (.inr ⟨k, c, rfl, rfl, q⟩)
      | succ j => exact ih2 j s (by simpa using e)
    cases a with
    | v d =>
      simp only [cellsOf] at h
      split at h
      · cases h; exact step (by assumption) rfl (.inl ⟨d, rfl, rfl⟩)
      · cases h
    | x d =>
      simp only [cellsOf] at h
      split at h
      · cases h; exact step (by assumption) rfl (.inr (.inl ⟨d, rfl, rfl⟩))
      · cases h
    | i k =>
      simp only [cellsOf] at h
      split at h
      · cases h; exact step (by assumption) rfl (.inr (.inr ⟨k, _, rfl, rfl, by assumption⟩))
      · cases h
/-- the values of what is handed over -/
def AgOk (G : Ct) (F : Fb) (σ : L2.St) (H : Hp) : Ag → V → Prop
  | .v d, v => Rel G.K F H d v
  | .i k, v => σ.getD k none = some v
  | .x e, v => ∃ b cls dx, v = .ref b ∧ RelX G.K G.mg F H e cls dx ∧ G.xa = some (b, cls, dx)
theorem AgOk.keep {G : Ct} {F F' : Fb} {σ : L2.St} {H : Hp} {a : Ag} {v : V} (k : Kp F F' H H) (h : AgOk G F σ H a v) : AgOk G F' σ H a v := by
  cases a with
  | v d => exact Rel.keep k h
  | i k => exact h
  | x e =>
    obtain ⟨b, cls, dx, e1, r, q⟩ := h
    exact ⟨b, cls, dx, e1, r.keep k, q⟩
section
variable {G : Ct} {O : Fb} {ad : Nat → Addr} {σ : L2.St} {H : Hp}
theorem prep_ok : ∀ {ks : List Bool} {vals : List Val} {vs : List V} {B : Fb} {env env' : Ev} {as : List Ag}, (∀ a, B a → O a) → J G O ad env σ H → ValsOk G B O ad env σ H vals vs → prep env ks vals = some (as, env') →
    J G O ad env' σ H ∧ Kp (Fo O env ad) (Fo O env' ad) H H ∧ Kr B (Fo B env ad) (Fo B env' ad) H H ∧ Paired (AgOk G (Fo B env' ad) σ H) as vs
  | [], [], [], B, env, _, _, _, j, _, e => by cases e; exact ⟨j, Kp.refl _ _, Kr.refl _ _ _, .nil⟩
  | [], [], _ :: _, _, _, _, _, _, _, h, _ => h.elim
  | [], _ :: _, _, _, _, _, _, _, _, _, e => by cases e
  | true :: _, [], _, _, _, _, _, _, _, _, e => by cases e
  | false :: _, [], _, _, _, _, _, _, _, _, e => by cases e
  | true :: ks, .d _ :: _, _, _, _, _, _, _, _, _, e => by cases e
  | true :: ks, .f _ :: _, _, _, _, _, _, _, _, _, e => by cases e
  | true :: ks, .s i :: vals, [], _, _, _, _, _, _, h, _ => h.elim
  | true :: ks, .s i :: vals, v :: vs, B, env, env', as, hB, j, h, e => by
    simp only [prep] at e
    split at e
    · cases e
      rename_i as' e' ep
      obtain ⟨j2, k2, r2, x2⟩ := prep_ok hB j h.2 ep
      exact ⟨j2, k2, r2, .cons h.1 x2⟩
    · cases e
  | false :: ks, a :: vals, [], _, _, _, _, _, _, h, _ => h.elim
  | false :: ks, a :: vals, v :: vs, B, env, env', as, hB, j, h, e => by
    simp only [prep] at e
    have wk : ∀ {e : Ev} a, Fo B e ad a → Fo O e ad a := fun {e} a z => by
      rcases z with z | z
      · exact .inl (hB a z)
      · exact .inr z
    split at e
    · rename_i x ex
      split at e
      · cases e
        rename_i as' e' ep
        obtain ⟨j2, k2, r2, x2⟩ := prep_ok hB j (h.2.base (valO_le _ _)) ep
        refine ⟨j2, k2, r2, .cons (AgOk.keep r2.kq.kp ?_) x2⟩
        cases a with
        | d d => cases ex
        | f c => cases ex
        | s i =>
          simp only [exAt] at ex
          split at ex
          · cases ex
            rename_i e1
            obtain ⟨b, cls, dx, z1, z2, z3⟩ := j.at_ i _ e1
            have z0 : σ.getD i none = some v := h.1
            rw [z0] at z1
            cases z1
            exact ⟨b, cls, dx, rfl, z2.keep (Kp.weak wk), z3⟩
          · cases ex
      · cases e
    · split at e
      · rename_i d e1 ea
        split at e
        · cases e
          rename_i as' e' ep
          obtain ⟨j1, k1, r1, x1⟩ := asD_ok j hB h.1 ea
          obtain ⟨j2, k2, r2, x2⟩ := prep_ok hB j1 ((h.2.base (valO_le _ _)).keep k1) ep
          exact ⟨j2, k1.trans k2, r1.trans r2, .cons (show AgOk G _ σ H (.v d) v from x1.keep r2.kq.kp) x2⟩
        · cases e
      · cases e
theorem cellOf_inv {env : Ev} {k : Nat} {c : Cl} (h : cellOf env k = some c) : env[k]? = some (.o c) ∨ env[k]? = some (.io c) := by
  unfold cellOf at h
  split at h
  · cases h; exact .inl (by assumption)
  · cases h; exact .inr (by assumption)
  · cases h
theorem Paired.get {α β : Type} {R : α → β → Prop} : ∀ {as : List α} {bs : List β} {j : Nat} {a : α}, Paired R as bs → as[j]? = some a → ∃ b, bs[j]? = some b ∧ R a b
  | _, _, _, _, .nil, e => by simp at e
  | _, _, 0, _, .cons r _, e => by simp at e; subst e; exact ⟨_, rfl, r⟩
  | _, _, j + 1, a, .cons _ t, e => by
    obtain ⟨b, h1, h2⟩ := Paired.get (j := j) (a := a) t (by simpa using e)
    exact ⟨b, by simpa using h1, h2⟩
theorem slots_mem : ∀ {as : List Ag} {j k : Nat}, as[j]? = some (.i k) → k ∈ slots as
  | [], _, _, e => by simp at e
  | .i i :: as, 0, k, e => by simp at e; subst e; simp [slots]
  | .v _ :: as, 0, k, e => by simp at e
  | .x _ :: as, 0, k, e => by simp at e
  | .i i :: as, j + 1, k, e => by simp only [slots]; exact List.mem_cons_of_mem _ (slots_mem (j := j) (by simpa using e))
  | .v _ :: as, j + 1, k, e => slots_mem (as := as) (j := j) (by simpa using e)
  | .x _ :: as, j + 1, k, e => slots_mem (as := as) (j := j) (by simpa using e)
theorem slots_inj : ∀ {as : List Ag} {j l k : Nat}, (slots as).Nodup → as[j]? = some (.i k) → as[l]? = some (.i k) → j = l
  | [], _, _, _, _, e, _ => by simp at e
  | a :: as, 0, 0, _, _, _, _ => rfl
  | a :: as, 0, l + 1, k, n, e1, e2 => by
    have : a = .i k := by simpa using e1
    subst this
    have n' : k ∉ slots as ∧ (slots as).Nodup := by simpa [slots] using n
    exact absurd (slots_mem (j := l) (by simpa using e2)) n'.1
  | a :: as, j + 1, 0, k, n, e1, e2 => by
    have : a = .i k := by simpa using e2
    subst this
    have n' : k ∉ slots as ∧ (slots as).Nodup := by simpa [slots] using n
    exact absurd (slots_mem (j := j) (by simpa using e1)) n'.1
  | a :: as, j + 1, l + 1, k, n, e1, e2 => by
    have n' : (slots as).Nodup := by
      cases a with
      | i i => exact (List.nodup_cons.mp (by simpa [slots] using n)).2
      | v d => simpa [slots] using n
      | x d => simpa [slots] using n
    rw [slots_inj (j := j) (l := l) n' (by simpa using e1) (by simpa using e2)]
theorem newC_some : ∀ {as : List Ag} {os : List Sl} {k : Nat} {c : Cl}, newC as os k = some c → ∃ j : Nat, as[j]? = some (.i k) ∧ os[j]? = some (.io c)
  | [], _, _, _, h => by cases h
  | .v _ :: as, [], _, _, h => by cases h
  | .x _ :: as, [], _, _, h => by cases h
  | .i _ :: as, [], _, _, h => by cases h
  | .v _ :: as, _ :: os, k, c, h => by
    obtain ⟨j, h1, h2⟩ := newC_some (as := as) (os := os) h
    exact ⟨j + 1, by simpa using h1, by simpa using h2⟩
  | .x _ :: as, _ :: os, k, c, h => by
    obtain ⟨j, h1, h2⟩ := newC_some (as := as) (os := os) h
    exact ⟨j + 1, by simpa using h1, by simpa using h2⟩
  | .i i :: as, o :: os, k, c, h => by
    have more : newC as os k = some c → ∃ j : Nat, (Ag.i i :: as)[j]? = some (.i k) ∧ (o :: os)[j]? = some (.io c) := fun h => by
      obtain ⟨j, h1, h2⟩ := newC_some (as := as) (os := os) h
      exact ⟨j + 1, by simpa using h1, by simpa using h2⟩
    cases o with
    | io c' =>
      have h' : (if i = k then some c' else newC as os k) = some c := h
      by_cases e : i = k
      · subst e
        rw [if_pos rfl] at h'
        cases h'
        exact ⟨0, rfl, rfl⟩
      · rw [if_neg e] at h'; exact more h'
    | no => exact more h
    | v d => exact more h
    | o c => exact more h
    | x e => exact more h
    | n e => exact more h
theorem newC_at : ∀ {as : List Ag} {os : List Sl} {j k : Nat} {c : Cl}, (slots as).Nodup → as[j]? = some (.i k) → os[j]? = some (.io c) → newC as os k = some c := fun {as os j k c} n h1 h2 => by
  have : ∃ c', newC as os k = some c' := by
    clear n
    induction as generalizing os j with
    | nil => simp at h1
    | cons a as ih =>
      cases os with
      | nil => simp at h2
      | cons o os =>
        cases j with
        | zero =>
          have e1 : a = .i k := by simpa using h1
          have e2 : o = .io c := by simpa using h2
          subst e1 e2
          exact ⟨c, if_pos rfl⟩
        | succ j =>
          obtain ⟨c', h'⟩ := ih (os := os) (j := j) (by simpa using h1) (by simpa using h2)
          cases a with
          | v d => exact ⟨c', h'⟩
          | x d => exact ⟨c', h'⟩
          | i i =>
            cases o with
            | io c2 =>
              by_cases e : i = k
              · exact ⟨c2, if_pos e⟩
              · exact ⟨c', (if_neg e).trans h'⟩
            | no => exact ⟨c', h'⟩
            | v d => exact ⟨c', h'⟩
            | o c => exact ⟨c', h'⟩
            | x e => exact ⟨c', h'⟩
            | n e => exact ⟨c', h'⟩
  obtain ⟨c', h'⟩ := this
  obtain ⟨l, e1, e2⟩ := newC_some h'
  have := slots_inj n h1 e1
  subst this
  rw [h2] at e2
  cases e2
  exact h'
end
end Nb
namespace Nb
open L2 PySem PySem.Spec PyProof.Rows

def slotAt (as : List Ag) (j : Nat) : Option Nat := match as[j]? with
  | some (.i k) => some k
  | _ => none
section
variable {G : Ct} {O : Fb} {ad : Nat → Addr} {env : Ev} {σ : L2.St} {H H' : Hp} {as : List Ag} {args : List Sl} {vs : List V}
/-- the callee's own names of what is handed over -/
def adC (as : List Ag) (ad : Nat → Addr) (j : Nat) : Addr := match slotAt as j with
  | some k => ad k
  | none => 0
def OutC (O : Fb) (env : Ev) (ad : Nat → Addr) (as : List Ag) : Fb := fun a => Fo O env ad a ∧ ∀ k, k ∈ slots as → ad k ≠ a
def CtC (G : Ct) (H : Hp) (as : List Ag) (ad : Nat → Addr) : Ct := ⟨G.K, G.mg, H, fun a => ∃ k, k ∈ slots as ∧ ad k = a, adC as ad, fun j => (slotAt as j).isSome, G.xa⟩
theorem slotAt_iff {j k : Nat} : slotAt as j = some k ↔ as[j]? = some (.i k) := by
  unfold slotAt
  constructor
  · intro h
    split at h
    · cases h; assumption
    · cases h
  · intro h; rw [h]
theorem slots_at : ∀ {as : List Ag} {k : Nat}, k ∈ slots as → ∃ j : Nat, as[j]? = some (.i k)
  | [], _, h => by simp [slots] at h
  | .i i :: as, k, h => by
    have h' : k = i ∨ k ∈ slots as := by simpa [slots] using h
    rcases h' with rfl | h'
    · exact ⟨0, rfl⟩
    · obtain ⟨j, e⟩ := slots_at h'
      exact ⟨j + 1, by simpa using e⟩
  | .v _ :: as, k, h => by
    obtain ⟨j, e⟩ := slots_at (as := as) (by simpa [slots] using h)
    exact ⟨j + 1, by simpa using e⟩
  | .x _ :: as, k, h => by
    obtain ⟨j, e⟩ := slots_at (as := as) (by simpa [slots] using h)
    exact ⟨j + 1, by simpa using e⟩
theorem adC_at {j k : Nat} (h : as[j]? = some (.i k)) : adC as ad j = ad k := by unfold adC; rw [slotAt_iff.mpr h]
theorem callee (j : J G O ad env σ H)
    (hp : Paired (AgOk G (Fo O env ad) σ H) as vs) (hc : cellsOf env as = some args) (nd : (slots as).Nodup) :
    J (CtC G H as ad) (OutC O env ad as) (adC as ad) args (vs.map some) H ∧ (∀ a, Fo (OutC O env ad as) args (adC as ad) a ↔ Fo O env ad a) ∧ args.length = as.length := by
  obtain ⟨hl, get⟩ := cellsOf_get hc
  have cell : ∀ {i : Nat} {s : Sl}, args[i]? = some s → isC s = true → ∃ k c, as[i]? = some (.i k) ∧ s = .io c ∧ cellOf env k = some c := fun {i s} e c => by
    rcases get i s e with ⟨d, _, rfl⟩ | ⟨d, _, rfl⟩ | h
    · cases c
    · cases c
    · exact h
  have there : ∀ {k : Nat}, k ∈ slots as → ∃ (i : Nat) (c : Cl), as[i]? = some (.i k) ∧ args[i]? = some (.io c) ∧ cellOf env k = some c := fun {k} h => by
    obtain ⟨i, e⟩ := slots_at h
    have hi : i < args.length := by rw [hl]; exact (List.getElem?_eq_some_iff.mp e).1
    rcases get i args[i] (List.getElem?_eq_getElem hi) with ⟨d, e1, _⟩ | ⟨d, e1, _⟩ | ⟨k', c, e1, e2, e3⟩
    · rw [e] at e1; cases e1
    · rw [e] at e1; cases e1
    · rw [e] at e1; cases e1
      exact ⟨i, c, e, by rw [← e2]; exact List.getElem?_eq_getElem hi, e3⟩
  have inFo : ∀ {k : Nat}, k ∈ slots as → Fo O env ad (ad k) := fun {k} h => by
    obtain ⟨i, c, _, _, e⟩ := there h
    rcases cellOf_inv e with e | e
    · exact .inr ⟨k, _, e, rfl, rfl⟩
    · exact .inr ⟨k, _, e, rfl, rfl⟩
  have hF : ∀ a, Fo (OutC O env ad as) args (adC as ad) a ↔ Fo O env ad a := fun a => by
    constructor
    · rintro (z | ⟨i, s, e, c, rfl⟩)
      · exact z.1
      · obtain ⟨k, c', e1, _, _⟩ := cell e c
        rw [adC_at e1]; exact inFo (slots_mem e1)
    · intro z
      by_cases h : ∃ k, k ∈ slots as ∧ ad k = a
      · obtain ⟨k, hk, rfl⟩ := h
        obtain ⟨i, c, e1, e2, _⟩ := there hk
        exact .inr ⟨i, _, e2, rfl, adC_at e1⟩
      · exact .inl ⟨z, fun k hk q => h ⟨k, hk, q⟩⟩
  refine ⟨⟨?_, fun a b s1 s2 e1 c1 e2 c2 h => ?_, fun a s1 e1 c1 z => ?_, fun a z => j.fo a z.1, fun a c e1 => rfl, fun a => ?_, fun a c e1 cc ci => ?_, fun a => ?_, fun a o e _ => e, fun a s1 e1 => ?_⟩, hF, hl⟩
  · rw [List.length_map, ← hp.length, hl]
  · obtain ⟨k1, _, f1, _, g1⟩ := cell e1 c1
    obtain ⟨k2, _, f2, _, g2⟩ := cell e2 c2
    rw [adC_at f1, adC_at f2] at h
    have hk : k1 = k2 := by
      rcases cellOf_inv g1 with g1 | g1 <;> rcases cellOf_inv g2 with g2 | g2 <;> exact j.inj k1 k2 _ _ g1 rfl g2 rfl h
    subst hk
    exact slots_inj nd f1 f2
  · obtain ⟨k1, _, f1, _, g1⟩ := cell e1 c1
    exact z.2 k1 (slots_mem f1) (adC_at f1).symm
  · show (slotAt as a).isSome = true ↔ _
    constructor
    · intro h
      obtain ⟨k, hk⟩ := Option.isSome_iff_exists.mp h
      have e := slotAt_iff.mp hk
      have hi : a < args.length := by rw [hl]; exact (List.getElem?_eq_some_iff.mp e).1
      rcases get a args[a] (List.getElem?_eq_getElem hi) with ⟨d, e1, _⟩ | ⟨d, e1, _⟩ | ⟨k', c, e1, e2, e3⟩
      · rw [e] at e1; cases e1
      · rw [e] at e1; cases e1
      · exact ⟨c, by rw [← e2]; exact List.getElem?_eq_getElem hi⟩
    · rintro ⟨c, e⟩
      obtain ⟨k, _, f, _⟩ := cell e rfl
      rw [slotAt_iff.mpr f]; rfl
  · obtain ⟨k, _, _, q, _⟩ := cell e1 cc
    rw [q] at ci
    cases ci
  · show (∃ k, k ∈ slots as ∧ ad k = a) ↔ ∃ i, (slotAt as i).isSome = true ∧ adC as ad i = a
    constructor
    · rintro ⟨k, hk, rfl⟩
      obtain ⟨i, e⟩ := slots_at hk
      exact ⟨i, by rw [slotAt_iff.mpr e]; rfl, adC_at e⟩
    · rintro ⟨i, h, rfl⟩
      obtain ⟨k, hk⟩ := Option.isSome_iff_exists.mp h
      have e := slotAt_iff.mp hk
      exact ⟨k, slots_mem e, (adC_at e).symm⟩
  · have kp : Kp (Fo O env ad) (Fo (OutC O env ad as) args (adC as ad)) H H := Kp.weak fun a z => (hF a).mp z
    rcases get a s1 e1 with ⟨d, f1, rfl⟩ | ⟨d, f1, rfl⟩ | ⟨k, c, f1, rfl, f2⟩
    · obtain ⟨v, g1, g2⟩ := Nb.Paired.get hp f1
      exact ⟨v, by rw [List.getD_eq_getElem?_getD, List.getElem?_map, g1]; rfl, Rel.keep kp g2⟩
    · obtain ⟨v, g1, b, cls, dx, z1, z2, z3⟩ := Nb.Paired.get hp f1
      exact ⟨b, cls, dx, by rw [List.getD_eq_getElem?_getD, List.getElem?_map, g1, z1]; rfl, z2.keep kp, z3⟩
    · obtain ⟨v, g1, g2⟩ := Nb.Paired.get hp f1
      have g3 : σ.getD k none = some v := g2
      have g4 : (vs.map some).getD a none = some v := by rw [List.getD_eq_getElem?_getD, List.getElem?_map, g1]; rfl
      rw [adC_at f1, g4]
      rcases cellOf_inv f2 with f2 | f2
      · obtain ⟨z1, z2⟩ := j.at_ k _ f2
        rw [g3] at z1
        exact ⟨z1, z2.keep kp fun _ h => h⟩
      · obtain ⟨z1, z2⟩ := j.at_ k _ f2
        rw [g3] at z1
        exact ⟨z1, z2.keep kp fun _ h => h⟩
theorem updC_C {o : Option Cl} {s : Sl} : isC (updC o s) = isC s ∧ isIo (updC o s) = isIo s := by
  cases o with
  | none => exact ⟨rfl, rfl⟩
  | some c => cases s <;> exact ⟨rfl, rfl⟩
theorem setC_len {env : Ev} {i : Nat} {c : Cl} : (setC env i c).length = env.length := by
  unfold setC
  split <;> simp
theorem putBack_len : ∀ {as : List Ag} {os : List Sl} {env : Ev}, (putBack env as os).length = env.length
  | [], os, env => by cases os <;> rfl
  | .v _ :: as, [], env => rfl
  | .x _ :: as, [], env => rfl
  | .i _ :: as, [], env => rfl
  | .v _ :: as, o :: os, env => putBack_len (as := as) (os := os) (env := env)
  | .x _ :: as, o :: os, env => putBack_len (as := as) (os := os) (env := env)
  | .i i :: as, o :: os, env => by
    cases o with
    | io c => exact (putBack_len (as := as) (os := os) (env := setC env i c)).trans setC_len
    | no => exact putBack_len (as := as) (os := os) (env := env)
    | v d => exact putBack_len (as := as) (os := os) (env := env)
    | o c => exact putBack_len (as := as) (os := os) (env := env)
    | x e => exact putBack_len (as := as) (os := os) (env := env)
    | n e => exact putBack_len (as := as) (os := os) (env := env)
/-- behind the call -/
theorem back {os : List Sl} {E : Fb} (j : J G O ad env σ H) (hp : Paired (AgOk G (Fo O env ad) σ H) as vs) (hc : cellsOf env as = some args) (nd : (slots as).Nodup)
    (hE : ∀ a, E a → H a = none) (jc : J (CtC G H as ad) (fun a => OutC O env ad as a ∨ E a) (adC as ad) (putIo args os) (vs.map some) H') (dom : ∀ a, H a ≠ none → H' a ≠ none) :
    J G (fun a => O a ∨ E a) ad (putBack env as os) σ H' ∧ Kr O (Fo O env ad) (Fo O (putBack env as os) ad) H H' ∧
      (∀ a, Fo (fun a => O a ∨ E a) (putBack env as os) ad a → Fo (fun a => OutC O env ad as a ∨ E a) args (adC as ad) a) := by
  obtain ⟨j0, hF, hl⟩ := callee j hp hc nd
  obtain ⟨_, get⟩ := cellsOf_get hc
  have pb := fun k => putBack_get (as := as) (os := os) (env := env) k nd
  -- slots of the same kind
  have down : ∀ {k : Nat} {s' : Sl}, (putBack env as os)[k]? = some s' → ∃ s, env[k]? = some s ∧ s' = updC (newC as os k) s := fun {k s'} e => by
    rw [pb] at e
    obtain ⟨s, h1, h2⟩ := Option.map_eq_some_iff.mp e
    exact ⟨s, h1, h2.symm⟩
  have up : ∀ {k : Nat} {s : Sl}, env[k]? = some s → (putBack env as os)[k]? = some (updC (newC as os k) s) := fun {k s} e => by rw [pb, e]; rfl
  have fo2 : ∀ {E' : Fb} a, Fo (fun a => O a ∨ E' a) (putBack env as os) ad a → Fo O env ad a ∨ E' a := fun {E'} a z => by
    rcases z with (z | z) | ⟨k, s', e, c, z⟩
    · exact .inl (.inl z)
    · exact .inr z
    · obtain ⟨s, e1, rfl⟩ := down e
      rw [updC_C.1] at c
      exact .inl (.inr ⟨k, s, e1, c, z⟩)
  have fo3 : ∀ a, Fo O (putBack env as os) ad a → Fo O env ad a := fun a z => by
    rcases z with z | ⟨k, s', e, c, z⟩
    · exact .inl z
    · obtain ⟨s, e1, rfl⟩ := down e
      rw [updC_C.1] at c
      exact .inr ⟨k, s, e1, c, z⟩
  have passed : ∀ {k : Nat}, k ∈ slots as → ∃ (i : Nat) (c' : Cl) (v : V), as[i]? = some (.i k) ∧ (putIo args os)[i]? = some (.io c') ∧ newC as os k = some c' ∧ vs[i]? = some v ∧ σ.getD k none = some v := fun {k} h => by
    obtain ⟨i, e⟩ := slots_at h
    have hi : (CtC G H as ad).I i = true := by show (slotAt as i).isSome = true; rw [slotAt_iff.mpr e]; rfl
    obtain ⟨c', e'⟩ := (jc.ix i).mp hi
    obtain ⟨a0, o0, f1, f2, f3⟩ := get_putIo e'
    obtain ⟨c0, f4⟩ := (j0.ix i).mp hi
    rw [f1] at f4; cases f4
    have f3' : o0 = .io c' := f3.symm
    rw [f3'] at f2
    obtain ⟨v, g1, g2⟩ := Nb.Paired.get hp e
    exact ⟨i, c', v, e, e', newC_at nd e f2, g1, g2⟩
  have cellO : ∀ {k : Nat}, k ∈ slots as → ∃ c, env[k]? = some (.o c) ∨ env[k]? = some (.io c) := fun {k} h => by
    obtain ⟨i, e⟩ := slots_at h
    have hi : i < args.length := by rw [hl]; exact (List.getElem?_eq_some_iff.mp e).1
    rcases get i args[i] (List.getElem?_eq_getElem hi) with ⟨d, e1, _⟩ | ⟨d, e1, _⟩ | ⟨k', c, e1, e2, e3⟩
    · rw [e] at e1; cases e1
    · rw [e] at e1; cases e1
    · rw [e] at e1; cases e1
      exact ⟨c, cellOf_inv e3⟩
  have cellK : ∀ {k : Nat}, k ∈ slots as → ∃ s, env[k]? = some s ∧ isC s = true := fun {k} h => by
    obtain ⟨i, e⟩ := slots_at h
    have hi : i < args.length := by rw [hl]; exact (List.getElem?_eq_some_iff.mp e).1
    rcases get i args[i] (List.getElem?_eq_getElem hi) with ⟨d, e1, _⟩ | ⟨d, e1, _⟩ | ⟨k', c, e1, e2, e3⟩
    · rw [e] at e1; cases e1
    · rw [e] at e1; cases e1
    · rw [e] at e1; cases e1
      rcases cellOf_inv e3 with e3 | e3
      · exact ⟨_, e3, rfl⟩
      · exact ⟨_, e3, rfl⟩
  have fr : ∀ a o, H a = some o → (∀ k, k ∈ slots as → ad k ≠ a) → H' a = some o := fun a o e n => jc.fr a o e fun ⟨k, hk, q⟩ => n k hk q
  have lstP : ∀ {k : Nat}, k ∈ slots as → ∃ o, H (ad k) = some o ∧ ((∃ xs, o = .lst xs) ∨ (∃ xs, o = .dK xs) ∨ (∃ xs, o = .dT xs) ∨ ∃ f, o = .ext f) := fun {k} h => by
    obtain ⟨s, e, c⟩ := cellK h
    exact ((j.at_ k s e).there c).2
  have kp : Kp (Fo O env ad) (Fo (fun a => O a ∨ E a) (putBack env as os) ad) H H' := by
    refine ⟨fun a xs e => fr a _ e fun k hk q => ?_, fun a o u e => fr a _ e fun k hk q => ?_, fun a o e n => ⟨fr a o e fun k hk q => ?_, fun z => ?_⟩⟩
    · obtain ⟨o, e2, m⟩ := lstP hk
      rw [q, e] at e2; cases e2
      rcases m with ⟨_, m⟩ | ⟨_, m⟩ | ⟨_, m⟩ | ⟨_, m⟩ <;> cases m
    · obtain ⟨o, e2, m⟩ := lstP hk
      rw [q, e] at e2; cases e2
      rcases m with ⟨_, m⟩ | ⟨_, m⟩ | ⟨_, m⟩ | ⟨_, m⟩ <;> cases m
    · obtain ⟨s, e1, c1⟩ := cellK hk
      exact n (.inr ⟨k, s, e1, c1, q⟩)
    · rcases fo2 a z with z | z
      · exact n z
      · rw [hE a z] at e; cases e
  have kr : Kr O (Fo O env ad) (Fo O (putBack env as os) ad) H H' := ⟨⟨⟨kp.tup, kp.frz, fun a o e n => ⟨(kp.obj a o e n).1, fun z => n (fo3 a z)⟩⟩, fun a o z e => fr a o e fun k hk q => by
    obtain ⟨s, e1, c1⟩ := cellK hk
    exact j.out k s e1 c1 (by rw [q]; exact z)⟩, dom⟩
  have wk : ∀ a, Fo (fun a => O a ∨ E a) (putBack env as os) ad a → Fo (fun a => OutC O env ad as a ∨ E a) (putIo args os) (adC as ad) a := fun a z => by
    rcases fo2 a z with z | z
    · by_cases h : ∃ k, k ∈ slots as ∧ ad k = a
      · obtain ⟨k, hk, rfl⟩ := h
        obtain ⟨i, c', v, e1, e2, _⟩ := passed hk
        exact .inr ⟨i, _, e2, rfl, adC_at e1⟩
      · exact .inl (.inl ⟨z, fun k hk q => h ⟨k, hk, q⟩⟩)
    · exact .inl (.inr z)
  have wk2 : ∀ a, Fo (fun a => O a ∨ E a) (putBack env as os) ad a → Fo (fun a => OutC O env ad as a ∨ E a) args (adC as ad) a := fun a z => by
    rcases fo2 a z with z | z
    · rcases (hF a).mpr z with z | z
      · exact .inl (.inl z)
      · exact .inr z
    · exact .inl (.inr z)
  refine ⟨⟨?_, fun a b s1 s2 e1 c1 e2 c2 h => ?_, fun a s1 e1 c1 => ?_, fun a z => ?_, fun a c e1 => ?_, fun a => ?_, fun a c e1 cc ci => ?_, j.mi, fun a o e m => ?_, fun a s1 e1 => ?_⟩, kr, wk2⟩
  · rw [putBack_len]; exact j.len
  · obtain ⟨t1, f1, rfl⟩ := down e1
    obtain ⟨t2, f2, rfl⟩ := down e2
    rw [updC_C.1] at c1 c2
    exact j.inj a b t1 t2 f1 c1 f2 c2 h
  · obtain ⟨t1, f1, rfl⟩ := down e1
    rw [updC_C.1] at c1
    intro z
    rcases z with z | z
    · exact j.out a t1 f1 c1 z
    · exact j.fo _ (.inr ⟨a, t1, f1, c1, rfl⟩) (hE _ z)
  · rcases z with z | z
    · exact dom a (j.outs a z)
    · exact jc.outs a (.inr z)
  · obtain ⟨t1, f1, q⟩ := down e1
    have : isIo t1 = true := by rw [← (updC_C (o := newC as os a) (s := t1)).2, ← q]; rfl
    cases t1 with
    | io c1 => exact j.io a c1 f1
    | _ => cases this
  · rw [j.ix a]
    constructor
    · rintro ⟨c, q⟩
      have z := up q
      cases hn : newC as os a with
      | none => rw [hn] at z; exact ⟨c, z⟩
      | some c2 => rw [hn] at z; exact ⟨c2, z⟩
    · rintro ⟨c, q⟩
      obtain ⟨t1, f1, q⟩ := down q
      have : isIo t1 = true := by rw [← (updC_C (o := newC as os a) (s := t1)).2, ← q]; rfl
      cases t1 with
      | io c1 => exact ⟨c1, f1⟩
      | _ => cases this
  · obtain ⟨t1, f1, q⟩ := down e1
    cases t1 with
    | o c1 => exact j.own a _ f1 rfl rfl
    | n c1 => exact j.own a _ f1 rfl rfl
    | io c1 => rw [q, (updC_C).2] at ci; cases ci
    | no => rw [q, (updC_C).1] at cc; cases cc
    | v d => rw [q, (updC_C).1] at cc; cases cc
    | x d => rw [q, (updC_C).1] at cc; cases cc
  · refine fr a o (j.fr a o e m) fun k hk q => ?_
    obtain ⟨s, e1, c1⟩ := cellK hk
    cases s with
    | o c => have := j.own k _ e1 rfl rfl; rw [q, e] at this; cases this
    | n c => have := j.own k _ e1 rfl rfl; rw [q, e] at this; cases this
    | io c => exact m ((j.mi a).mpr ⟨k, (j.ix k).mpr ⟨c, e1⟩, (j.io k c e1).symm.trans q⟩)
    | _ => cases c1
  · obtain ⟨t1, f1, q⟩ := down e1
    by_cases h : a ∈ slots as
    · obtain ⟨i, c', v, g1, g2, g3, g4, g5⟩ := passed h
      obtain ⟨z1, z2⟩ := jc.at_ i _ g2
      rw [adC_at g1] at z1 z2
      have z3 : (vs.map some).getD i none = some v := by rw [List.getD_eq_getElem?_getD, List.getElem?_map, g4]; rfl
      rw [z3] at z1
      have z2' : ClOk G.K (Fo (fun a => O a ∨ E a) (putBack env as os) ad) H' (ad a) c' := z2.keep (Kp.weak wk) fun _ h => h
      rw [g3] at q
      obtain ⟨s, e2, c2⟩ := cellK h
      rw [f1] at e2; cases e2
      cases t1 with
      | o c => subst q; exact ⟨g5.trans z1, z2'⟩
      | io c => subst q; exact ⟨g5.trans z1, z2'⟩
      | n y =>
        obtain ⟨c, z | z⟩ := cellO h
        · rw [f1] at z; cases z
        · rw [f1] at z; cases z
      | _ => cases c2
    · rw [newC_none h] at q
      have q' : s1 = t1 := q
      subst q'
      refine (j.at_ a s1 f1).keep kp fun c o e => fr _ o e fun k hk z => ?_
      obtain ⟨s, e2, c2⟩ := cellK hk
      have := j.inj k a s s1 e2 c2 f1 c z
      subst this
      exact h hk
end

section
variable {X : Cx} {G : Ct} {W : WX} {CX : CXT} {k n : Nat} {f : Addr} {fd : FuncData} {ps : List Str} {den : Fn} {x : Str} {p pos : Pos} {e : Expr} {es : List Expr} {ms : M (List Val)} {ks : List Bool}
theorem apF_inv {env : Ev} {vals : List Val} {P : R Val → Prop} (h : P (apF den ks env vals)) (hb : P .bad → False) :
    ∃ as env2 args, prep env ks vals = some (as, env2) ∧ cellsOf env2 as = some args ∧ (slots as).Nodup ∧
      ((∃ d os, den args = .ok d os ∧ P (.ok (.d d) (putBack env2 as os))) ∨ (∃ c os, den args = .oko c os ∧ P (.ok (.f c) (putBack env2 as os))) ∨ (∃ d c os, den args = .okt d c os ∧ P (.ok (.d (.tuple [d, clD c])) (putBack env2 as os))) ∨ ∃ x os, den args = .ex x os ∧ P (.ex x (putBack env2 as os))) := by
  unfold apF at h
  obtain ⟨⟨as, env2⟩, e1, h⟩ := opt_inv h hb
  obtain ⟨args, e2, h⟩ := opt_inv h hb
  by_cases hn : (slots as).Nodup
  · dsimp only at h
    rw [if_pos hn] at h
    refine ⟨as, env2, args, e1, e2, hn, ?_⟩
    cases e3 : den args with
    | ok d os => rw [e3] at h; exact .inl ⟨d, os, rfl, h⟩
    | oko c os => rw [e3] at h; exact .inr (.inl ⟨c, os, rfl, h⟩)
    | okt d c os => rw [e3] at h; exact .inr (.inr (.inl ⟨d, c, os, rfl, h⟩))
    | ex x os => rw [e3] at h; exact .inr (.inr (.inr ⟨x, os, rfl, h⟩))
    | bad => rw [e3] at h; exact (hb h).elim
  · dsimp only at h
    rw [if_neg hn] at h
    exact (hb h).elim
/-- a new pair, as data -/
theorem pair_rel {O : Fb} {env : Ev} {ad : Nat → Addr} {σ : L2.St} {H' : Hp} {p q : Addr} {v : V} {d : D} {c : Cl} (j : J G (Add O q) ad env σ H') (nO : ¬ O q) (y : PairAt G.K H' p v q) (r1 : Rel G.K (Fo (Add O q) env ad) H' d v) (r : ClOk G.K (Fo (Add O q) env ad) H' q c) :
    J G O ad env σ H' ∧ Rel G.K (Fo O env ad) H' (.tuple [d, clD c]) (.ref p) := by
  have le : ∀ a, Fo O env ad a → Fo (Add O q) env ad a := fun a z => by
    rcases z with z | z
    · exact .inl (.inl z)
    · exact .inr z
  have nq : ¬ Fo O env ad q := fun z => by
    rcases z with z | ⟨i, s, e, c1, z⟩
    · exact nO z
    · exact j.out i s e c1 (.inr z)
  refine ⟨j.less fun _ z => .inl z, .tup y.1 y.2 (.cons (r1.keep (Kp.weak le)) (.cons ?_ .nil))⟩
  exact (r.keep (Kp.weak le) fun _ h => h).rel nq
/-- what is promised serves at the call -/
theorem call_sp (hK : G.K = X.K) (hM : G.mg = X.mg) (hn : ∀ args, args.length ≠ ps.length → den args = .bad) {σ : L2.St} {H : Hp} {Q : VK} (h : tE G W (mF den ks ms) σ H Q) :
    tA G W ms σ H fun vs H1 => spX G.xa X.K X.mg ps.length den vs H1 Q (WE W σ) := by
  obtain ⟨O, ad, env, j, p⟩ := h
  refine mono_A (seqA (β := R Val) xsE (fun _ z => z) (Kr.refl O (Fo O env ad) H) j p) fun xs H4 ⟨O5, ad5, env5, vals, h1, h2, k5, k6, j5, w5, q5⟩ => ?_
  obtain ⟨as, env6, args, e1, e2, nd, q6⟩ := apF_inv (P := PostE G W O ad env σ H Q) q5 fun z => z
  obtain ⟨j6, _, k7, pr⟩ := prep_ok h1 j5 w5 e1
  have j7 : J G O ad5 env6 σ H4 := j6.less h1
  obtain ⟨jc, hF, hl2⟩ := callee j7 pr e2 nd
  have bk := fun (os : List Sl) (E : Fb) H' => back (os := os) (E := E) (H' := H') j7 pr e2 nd
  have hlen : xs.length = ps.length := by
    have z := jc.len
    rw [List.length_map] at z
    rw [z]
    by_cases h : args.length = ps.length
    · exact h
    · have := hn args h
      rcases q6 with ⟨d, os, e3, _⟩ | ⟨d, os, e3, _⟩ | ⟨d, c, os, e3, _⟩ | ⟨d, os, e3, _⟩ <;> (rw [e3] at this; cases this)
  have kr := k5.trans k7
  refine ⟨hlen, (CtC G H4 as ad5).M, (CtC G H4 as ad5).P, (CtC G H4 as ad5).I, OutC O env6 ad5 as, adC as ad5, args, ?_⟩
  rw [← hK, ← hM]
  refine ⟨jc, ?_⟩
  rcases q6 with ⟨d, os, e3, q⟩ | ⟨d, os, e3, q⟩ | ⟨d, c, os, e3, q⟩ | ⟨d, os, e3, q⟩
  · rw [e3]
    intro v H' j' dom r
    obtain ⟨b1, b2, b3⟩ := bk os (fun _ => False) H' (fun _ z => z.elim) (j'.less fun _ z => z.elim id False.elim) dom
    exact q ad5 v H' (kr.trans b2) ⟨b1.less fun _ z => .inl z, r.keep (Kp.weak fun a z => by
      have z' := b3 a (by
        rcases z with z | z
        · exact .inl (.inl z)
        · exact .inr z)
      rcases z' with (z' | z') | z'
      · exact .inl z'
      · exact z'.elim
      · exact .inr z')⟩
  · rw [e3]
    intro p1 H' j' dom np nO r
    obtain ⟨b1, b2, b3⟩ := bk os (fun a => a = p1) H' (fun a z => by rw [z]; exact np) j' dom
    exact q ad5 _ H' (kr.trans b2) ⟨p1, rfl, kr.none np, fun z => j7.outs p1 z np, b1, r.keep (Kp.weak b3) fun _ h => h⟩
  · rw [e3]
    intro p1 v1 q1 H' j' dom np nO y r1 r
    obtain ⟨b1, b2, b3⟩ := bk os (fun a => a = q1) H' (fun a z => by rw [z]; exact np) j' dom
    exact q ad5 _ H' (kr.trans b2) (pair_rel b1 (fun z => j7.outs q1 z np) y (r1.keep (Kp.weak b3)) (r.keep (Kp.weak b3) fun _ h => h))
  · rw [e3]
    intro cls dx H' j' dom r
    obtain ⟨b1, b2, b3⟩ := bk os (fun _ => False) H' (fun _ z => z.elim) (j'.less fun _ z => z.elim id False.elim) dom
    exact q ad5 cls dx H' (kr.trans b2) (b1.less fun _ z => .inl z) (r.keep (Kp.weak fun a z => by
      have z' := b3 a (by
        rcases z with z | z
        · exact .inl (.inl z)
        · exact .inr z)
      rcases z' with (z' | z') | z'
      · exact .inl z'
      · exact z'.elim
      · exact .inr z'))
theorem e_call (F : FnOk X.prog X.w X.K X.mg X.base (L2N.CX X.prog X.w) k f fd ps (spI X.K X.mg ps.length den)) (hr : Room k X.A) (hg : Gl X x) (hm : X.mg x = some (.ref f)) (hk : PySem.W.keepIn X.K (.ref f) = true) (hb : Binds X.K fd ps [])
    (tk : L2N.Takes X W) (hx : G.xa = none) (hK : G.K = X.K) (hM : G.mg = X.mg) (hn : ∀ args, args.length ≠ ps.length → den args = .bad)
    (ha : PA X (e :: es) (tA G W ms)) (hdb : (x == ("__debug__" : Str)) = false := by decide) (he : starEach (e :: es) X.env = (false, eval e X.env) :: starEach es X.env := by rfl) (hpl : (backTo pos (starEach es X.env)).any (·.1) = false := by rfl) :
    PE X (.Call (.Name x p) (e :: es) [] pos) (tE G W (mF den ks ms)) := imp_E (pe_callS F hr hg hm hk hb (fun σ => L2N.passAt tk σ) ha hdb he hpl) fun σ H Q h => by
  have z := call_sp (ps := ps) hK hM hn h
  rw [hx] at z
  exact z
theorem fnDen_len {n N : Nat} {body : S} : ∀ args, args.length ≠ n → fnDen n N body args = .bad := fun args h => by unfold fnDen; rw [if_neg h]
end
end Nb
namespace Nb
open L2 PySem PySem.Spec PyProof.Rows

/-! ### targets -/
abbrev Tg := D → Ev → Option Ev
/-- the slots but these stay -/
def Agr (T : List Nat) (σ σ' : L2.St) : Prop := σ'.length = σ.length ∧ ∀ k, k ∉ T → σ'[k]? = σ[k]?
theorem Agr.refl (T : List Nat) (σ : L2.St) : Agr T σ σ := ⟨rfl, fun _ _ => rfl⟩
theorem Agr.trans {T : List Nat} {a b c : L2.St} (x : Agr T a b) (y : Agr T b c) : Agr T a c := ⟨y.1.trans x.1, fun k h => (y.2 k h).trans (x.2 k h)⟩
theorem Agr.set {T : List Nat} {σ : L2.St} {i : Nat} {v : Option V} (h : i ∈ T) : Agr T σ (σ.set i v) := ⟨List.length_set .., fun k hk => List.getElem?_set_ne fun z => hk (by rw [← z]; exact h)⟩
def tGK (wk : Bool) (G : Ct) (T : List Nat) (g : Tg) : TG := fun v σ H Q => ∃ O ad env d, J G O ad env σ H ∧ RelK wk G.K (Fo O env ad) H d v ∧ match g d env with
  | some e' => ∀ ad' σ' H', Kr O (Fo O env ad) (Fo O e' ad') H H' → J G O ad' e' σ' H' → Agr T σ σ' → Q σ' H'
  | none => False
abbrev tG := tGK false
def tGs (G : Ct) (T : List Nat) (g : List D → Ev → Option Ev) : TGs := fun vs σ H Q => ∃ O ad env ds, J G O ad env σ H ∧ RelL G.K (Fo O env ad) H ds vs ∧ match g ds env with
  | some e' => ∀ ad' σ' H', Kr O (Fo O env ad) (Fo O e' ad') H H' → J G O ad' e' σ' H' → Agr T σ σ' → Q σ' H'
  | none => False
def gNm (i : Nat) : Tg := fun d env => store i env (.d d)
def gsNil : List D → Ev → Option Ev
  | [], env => some env
  | _, _ => none
def gsCons (g : Tg) (gs : List D → Ev → Option Ev) : List D → Ev → Option Ev
  | d :: ds, env => (g d env).bind fun e => gs ds e
  | _, _ => none
def gTp (n : Nat) (gs : List D → Ev → Option Ev) : Tg
  | .tuple ds, env => if ds.length = n then gs ds env else none
  | _, _ => none
section
variable {X : Cx} {G : Ct} {W : WX} {pos : Pos} {T : List Nat}
theorem imp_G {e : Expr} {t t' : TG} (h : PG X e t) (f : ∀ v σ H Q, t' v σ H Q → t v σ H Q) : PG X e t' := ⟨fun pins s σ H v u Q I r q => h.run pins s σ H v u Q I r (f v σ H Q q)⟩
theorem imp_Gs {e : List Expr} {t t' : TGs} (h : PGs X e t) (f : ∀ v σ H Q, t' v σ H Q → t v σ H Q) : PGs X e t' := ⟨fun pins s σ H v u Q I r q => h.run pins s σ H v u Q I r (f v σ H Q q)⟩
theorem g_name {i : Nat} {x : Str} (hN : X.N.Nodup) (hi : X.N[i]? = some x) (hx : Loc X.env.scope x) (hT : i ∈ T) (hf : X.fn x = true ∨ X.env.scope.names.lookup x = some .local := by first | exact .inl rfl | exact .inr rfl | assumption) : PG X (.Name x pos) (tG G T (gNm i)) :=
  imp_G (pg_name hN hi hx hf) fun v σ H Q ⟨O, ad, env, d, j, r, q⟩ => by
    cases e : gNm i d env with
    | none => rw [e] at q; exact q.elim
    | some e' =>
      rw [e] at q
      obtain ⟨ad3, k3, j3⟩ := store_ok (F0 := Fo O env ad) (val := .d d) (fun p np => (j.fresh np).2) (Kr.refl _ _ _) ⟨j, r⟩ e
      exact q ad3 _ H k3 j3 (.set hT)
theorem gs_nil : PGs X [] (tGs G T gsNil) := imp_Gs pgs_nil fun vs σ H Q ⟨O, ad, env, ds, j, r, q⟩ => by
  cases ds with
  | nil => cases r; exact ⟨rfl, q ad σ H (Kr.refl _ _ _) j (.refl _ _)⟩
  | cons d ds => exact q.elim
theorem gs_cons {e : Expr} {es : List Expr} {g : Tg} {gs : List D → Ev → Option Ev} (h1 : PG X e (tG G T g)) (h2 : PGs X es (tGs G T gs)) (hs : (assignEach (e :: es) X.env).map (·.2) = assign e X.env :: (assignEach es X.env).map (·.2) := by rfl) :
    PGs X (e :: es) (tGs G T (gsCons g gs)) := imp_Gs (pgs_cons h1 h2 hs) fun vs σ H Q ⟨O, ad, env, ds, j, r, q⟩ => by
  cases r with
  | nil => exact q.elim
  | @cons d v ds vs r rs =>
    refine ⟨_, _, rfl, O, ad, env, d, j, r, ?_⟩
    simp only [gsCons] at q
    cases e1 : g d env with
    | none => rw [e1] at q; exact q.elim
    | some e' =>
      rw [e1] at q
      intro ad' σ' H' k' j' a'
      refine ⟨O, ad', e', ds, j', rs.keep k'.kq.kp, ?_⟩
      cases e2 : gs ds e' with
      | none => simp only [Option.bind_some, e2] at q
      | some e3 =>
        simp only [Option.bind_some, e2] at q
        exact fun ad2 σ2 H2 k2 j2 a2 => q ad2 σ2 H2 (k'.trans k2) j2 (a'.trans a2)
theorem g_tup {wk : Bool} {es : List Expr} {k n : Nat} {gs : List D → Ev → Option Ev} (hK : G.K = X.K) (hc : X.calm = true) (h : PGs X es (tGs G T gs)) (hn : (assignEach es X.env).length = n := by rfl) (hst : (assignEach es X.env).findIdx? (·.1) = none := by rfl) :
    PG X (.Tuple es k pos) (tGK wk G T (gTp n gs)) := imp_G (pg_tup hc h hn hst) fun v σ H Q ⟨O, ad, env, d, j, r, q⟩ => by
  unfold gTp at q
  split at q
  · rename_i e' ee
    split at ee
    · split at ee
      · rename_i hl
        obtain ⟨a, xs, rfl, h1, h2⟩ := r.w.toTup
        rw [hK] at h1
        refine ⟨a, xs, rfl, h1, by rw [← h2.length]; exact hl, O, ad, env, _, j, h2, ?_⟩
        rw [ee]
        exact q
      · cases ee
    · cases ee
  · exact q.elim
/-- target = value -/
def mAsg (g : Tg) (me : M Val) : S := fun env => (me env).out fun a e1 => (asD e1 a).elim .bad fun p => (g p.1 p.2).elim .bad .nx
theorem asD_val {O : Fb} {H H' : Hp} {ad : Nat → Addr} {env env' : Ev} {σ : L2.St} {val : Val} {v : V} {d : D} (w : ValOk G O H ad env σ H' val v) (e : asD env val = some (d, env')) :
    J G O ad env' σ H' ∧ Kr O (Fo O env ad) (Fo O env' ad) H' H' ∧ Rel G.K (Fo O env' ad) H' d v := by
  obtain ⟨j1, _, k1, r1⟩ := asD_ok w.j (valO_le val v) (w.vb (B := O) fun _ z => z) e
  exact ⟨j1.less (valO_le val v), k1, r1⟩
theorem s_asg {tg e : Expr} {me : M Val} {g : Tg} (he : PE X e (tE G W me)) (hg : PG X tg (tG G T g)) (hs : swapsWithSole [tg] e pos.line X.env = pure false := by rfl) (hw : swappedStores [tg] e X.env = pure none := by rfl)
    (h1 : (assignEach [tg] X.env).map (·.2) = [assign tg X.env] := by rfl) : PS X (.Assign [tg] e pos) (tS G W (mAsg g me)) := imp_S (ps_asg he hg hs hw h1) fun E σ H ⟨O, ad, env, j, p⟩ => by
  refine mono_E (seqE (β := Out) (P := PostS G W O ad env H E) xsS (fun _ z => z) (Kr.refl O (Fo O env ad) H) j p) fun x H1 ⟨ad2, env2, val2, k2, k3, w2, q2⟩ => ?_
  obtain ⟨⟨d, e1⟩, ea, q3⟩ := opt_inv (P := PostS G W O ad env H E) q2 fun z => z
  obtain ⟨e4, eg, q4⟩ := opt_inv (P := PostS G W O ad env H E) q3 fun z => z
  obtain ⟨j1, k1, r1⟩ := asD_val w2 ea
  refine ⟨O, ad2, e1, d, j1, r1, ?_⟩
  rw [eg]
  exact fun ad' σ' H' k' j' _ => q4 ad' σ' H' ((k2.trans k1).trans k') j'
/-- a, b = x, y -/
def mPar (i j : Nat) (ms : M (List Val)) : S := fun env => (ms env).out fun vals e1 => match vals with
  | [a, b] => (asDs e1 [a, b]).elim .bad fun p => match p.1 with
    | [d, e] => (store i p.2 (.d d)).elim .bad fun e2 => (store j e2 (.d e)).elim .bad .nx
    | _ => .bad
  | _ => .bad
end

/-! ### for -/
/-- what a loop walks, as data -/
structure Src (wk : Bool) (K : PySem.W.Frag) (O F1 : Fb) (H1 : Hp) (Jt : It) (items : List D) : Prop where
  stop : ∀ F2 H2, Kr O F1 F2 H1 H2 → Jt.stop items.length H2
  go : ∀ F2 H2 i d, Kr O F1 F2 H1 H2 → items[i]? = some d → Jt.go i H2
  yld : ∀ F2 H2 i d x H3, Kr O F1 F2 H1 H2 → items[i]? = some d → Jt.yld i H2 x H3 → Same H2 H3 ∧ RelK wk K F2 H3 d x
def PostI (wk : Bool) (G : Ct) (W : WX) (O : Fb) (ad : Nat → Addr) (env : Ev) (σ : L2.St) (H : Hp) (R0 : It → Hp → Prop) : R (List D) → Prop
  | .ok items e' => ∀ ad' Jt H', Kr O (Fo O env ad) (Fo O e' ad') H H' → J G O ad' e' σ H' → Src wk G.K O (Fo O e' ad') H' Jt items → R0 Jt H'
  | .ex x e' => ∀ ad' cls dx H', Kr O (Fo O env ad) (Fo O e' ad') H H' → J G O ad' e' σ H' → RelX G.K G.mg (Fo O e' ad') H' x cls dx → W cls dx σ H'
  | .bad => False
def tIt (wk : Bool) (G : Ct) (W : WX) (m : M (List D)) : TI := fun σ H R0 => ∃ O ad env, J G O ad env σ H ∧ PostI wk G W O ad env σ H R0 (m env)
theorem xsI {wk : Bool} {G : Ct} {W : WX} {O : Fb} {ad : Nat → Addr} {env : Ev} {σ : L2.St} {H : Hp} {R0 : It → Hp → Prop} : Xs G W O ad env σ H (PostI wk G W O ad env σ H R0) .ex .bad := ⟨fun _ _ h => h, fun h => h⟩
theorem seqI {wk : Bool} {G : Ct} {W : WX} {O O1 : Fb} {ad ad1 : Nat → Addr} {env env1 : Ev} {σ : L2.St} {H H1 : Hp} {β : Type} {P : β → Prop} {kx : Ex → Ev → β} {kb : β} {mb : M (List D)} {mk : List D → Ev → β} (hx : Xs G W O ad env σ H P kx kb) (hO : ∀ a, O a → O1 a)
    (k : Kr O (Fo O env ad) (Fo O env1 ad1) H H1) (j : J G O1 ad1 env1 σ H1) (p : P ((mb env1).elim mk kx kb)) :
    tIt wk G W mb σ H1 fun Jt H2 => ∃ ad2 env2 items, Kr O (Fo O env ad) (Fo O env2 ad2) H H2 ∧ Kr O1 (Fo O1 env1 ad1) (Fo O1 env2 ad2) H1 H2 ∧ J G O1 ad2 env2 σ H2 ∧ Src wk G.K O1 (Fo O1 env2 ad2) H2 Jt items ∧ P (mk items env2) := by
  refine ⟨O1, ad1, env1, j, ?_⟩
  cases e : mb env1 with
  | ok items e' =>
    rw [e] at p
    exact fun ad' Jt H' k' w s => ⟨ad', e', items, k.trans (k'.less hO w), k', w, s, p⟩
  | ex x e' =>
    rw [e] at p
    exact fun ad' cls dx H' k' j' r => hx.1 x e' p ad' cls dx H' (k.trans (k'.less hO j')) (j'.less hO) (r.keep (Kp.weak fun a z => by
      rcases z with z | z
      · exact .inl (hO a z)
      · exact .inr z))
  | bad => rw [e] at p; exact hx.2 p
theorem mono_I {wk : Bool} {G : Ct} {W : WX} {m : M (List D)} {σ : L2.St} {H : Hp} {Q Q' : It → Hp → Prop} (h : tIt wk G W m σ H Q) (f : ∀ v H', Q v H' → Q' v H') : tIt wk G W m σ H Q' := by
  obtain ⟨O, ad, env, j, p⟩ := h
  refine ⟨O, ad, env, j, ?_⟩
  revert p
  cases m env with
  | bad => exact fun z => z
  | ex x e => exact fun z => z
  | ok v1 e1 => exact fun z ad' v H' k w s => f v H' (z ad' v H' k w s)
theorem imp_I {X : Cx} {tg e : Expr} {t t' : TI} (h : PI X tg e t) (f : ∀ σ H Q, t' σ H Q → t σ H Q) : PI X tg e t' := ⟨fun pins s σ H Q I q => h.run pins s σ H Q I (f σ H Q q)⟩
def loopO (k : Ev → Out) (o : Out) : Out := match o with
  | .nx e => k e
  | .ct e => k e
  | .bk e => .nx e
  | o => o
@[simp] theorem loopO_nx (k : Ev → Out) (e : Ev) : loopO k (.nx e) = k e := rfl
@[simp] theorem loopO_ct (k : Ev → Out) (e : Ev) : loopO k (.ct e) = k e := rfl
@[simp] theorem loopO_bk (k : Ev → Out) (e : Ev) : loopO k (.bk e) = .nx e := rfl
@[simp] theorem loopO_rt (k : Ev → Out) (d : D) (e : Ev) : loopO k (.rt d e) = .rt d e := rfl
@[simp] theorem loopO_rtt (k : Ev → Out) (d : D) (c : Cl) (e : Ev) : loopO k (.rtt d c e) = .rtt d c e := rfl
@[simp] theorem loopO_rto (k : Ev → Out) (d : Cl) (e : Ev) : loopO k (.rto d e) = .rto d e := rfl
@[simp] theorem loopO_ex (k : Ev → Out) (d : Ex) (e : Ev) : loopO k (.ex d e) = .ex d e := rfl
@[simp] theorem loopO_bad (k : Ev → Out) : loopO k .bad = .bad := rfl
def forD (g : Tg) (body : S) : List D → Ev → Out
  | [], env => .nx env
  | d :: ds, env => (g d env).elim .bad fun e1 => loopO (forD g body ds) (body e1)
def mFor (mi : M (List D)) (g : Tg) (body : S) : S := fun env => (mi env).out fun items e1 => forD g body items e1
section
variable {X : Cx} {G : Ct} {W : WX} {pos : Pos} {tg iter : Expr} {body : List Stmt} {mi : M (List D)} {g : Tg} {mb : S} {T : List Nat}
theorem s_for {wk : Bool} (hp : PassesOwn (model X.prog X.w) X.A X.env X.xe) (hc : X.calm = true) (hi : PI X tg iter (tIt wk G W mi)) (hg : PG X tg (tGK wk G T g)) (hb : PSs X body (tS G W mb)) (hs : ∀ x, foldedSetIterable iter X.env x = pure x := by intro _; rfl) :
    PS X (.For tg iter body [] pos) (tS G W (mFor mi g mb)) := imp_S (ps_for hp hc hi hg hb hs) fun E σ H ⟨O, ad, env, j, p⟩ => by
  refine mono_I (seqI (β := Out) (P := PostS G W O ad env H E) xsS (fun _ z => z) (Kr.refl O (Fo O env ad) H) j p) fun Jt H1 ⟨ad1, env1, items, k1, _, j1, src, p1⟩ => ?_
  refine ⟨fun i m σ2 H2 => m = items.length - i ∧ i ≤ items.length ∧ ∃ ad2 env2, Kr O (Fo O env1 ad1) (Fo O env2 ad2) H1 H2 ∧ J G O ad2 env2 σ2 H2 ∧ PostS G W O ad env H E (forD g mb (items.drop i) env2),
    ⟨items.length, by simp, Nat.zero_le _, ad1, env1, Kr.refl _ _ _, j1, by simpa using p1⟩, ?_⟩
  rintro i m σ2 H2 ⟨rfl, hle, ad2, env2, k2, j2, p2⟩
  by_cases hlt : i < items.length
  · have hd : items[i]? = some items[i] := List.getElem?_eq_getElem hlt
    have hdrop : items.drop i = items[i] :: items.drop (i + 1) := List.drop_eq_getElem_cons hlt
    rw [hdrop] at p2
    unfold forD at p2
    obtain ⟨e3, eg, p3⟩ := opt_inv (P := PostS G W O ad env H E) p2 fun z => z
    refine .inr ⟨src.go _ H2 i _ k2 hd, fun σ' H' => ∃ ad4 env4, Kr O (Fo O env1 ad1) (Fo O env4 ad4) H1 H' ∧ J G O ad4 env4 σ' H' ∧ PostS G W O ad env H E (forD g mb (items.drop (i + 1)) env4), fun σ' H' ⟨ad4, env4, k4, j4, p4⟩ => ⟨items.length - (i + 1), by omega, rfl, hlt, ad4, env4, k4, j4, p4⟩, fun x H3 y => ?_⟩
    obtain ⟨sm, r3⟩ := src.yld _ H2 i _ x H3 k2 hd y
    refine ⟨O, ad2, env2, items[i], j2.same sm, r3, ?_⟩
    rw [eg]
    intro ad3 σ3 H4 k3 j3 _
    have kk := k2.trans ((Kr.same sm).trans k3)
    refine ⟨O, ad3, e3, j3, ?_⟩
    revert p3
    cases eb : mb e3 with
    | bad => exact fun z => z
    | nx e4 => exact fun z ad5 σ5 H5 k5 j5 => ⟨ad5, e4, kk.trans k5, j5, z⟩
    | ct e4 => exact fun z ad5 σ5 H5 k5 j5 => ⟨ad5, e4, kk.trans k5, j5, z⟩
    | bk e4 => exact fun z ad5 σ5 H5 k5 j5 => z ad5 σ5 H5 (k1.trans (kk.trans k5)) j5
    | rt d e4 => exact fun z ad5 v σ5 H5 k5 j5 r => z ad5 v σ5 H5 (k1.trans (kk.trans k5)) j5 r
    | rto c e4 => exact fun z ad5 v σ5 H5 k5 n1 n2 j5 r => z ad5 v σ5 H5 (k1.trans (kk.trans k5)) n1 n2 j5 r
    | rtt d c e4 => exact fun z ad5 p5 v q5 σ5 H5 k5 n1 n2 j5 r => z ad5 p5 v q5 σ5 H5 (k1.trans (kk.trans k5)) n1 n2 j5 r
    | ex y e4 => exact fun z ad5 cls dx σ5 H5 k5 j5 r => z ad5 cls dx σ5 H5 (k1.trans (kk.trans k5)) j5 r
  · have e : i = items.length := by omega
    subst e
    rw [List.drop_length] at p2
    exact .inl ⟨src.stop _ H2 k2, p2 ad2 σ2 H2 (k1.trans k2) j2⟩
end

/-! ### while -/
def loopN (k : Ev → Option Out) (o : Out) : Option Out := match o with
  | .nx e => k e
  | .ct e => k e
  | .bk e => some (.nx e)
  | o => some o
def whileN (c : M Bool) (b : S) : Nat → Ev → Option Out
  | 0, _ => none
  | n + 1, env => (c env).elim (fun t e1 => if t = true then loopN (whileN c b n) (b e1) else some (.nx e1)) (fun x e1 => some (.ex x e1)) (some .bad)
theorem whileN_s {c : M Bool} {b : S} {n : Nat} {env : Ev} : whileN c b (n + 1) env = (c env).elim (fun t e1 => if t = true then loopN (whileN c b n) (b e1) else some (.nx e1)) (fun x e1 => some (.ex x e1)) (some .bad) := rfl
theorem whileN_more {c : M Bool} {b : S} : ∀ {n : Nat} {env : Ev} {o : Out} (m : Nat), whileN c b n env = some o → whileN c b (n + m) env = some o
  | 0, _, _, _, h => by cases h
  | n + 1, env, o, m, h => by
    rw [Nat.succ_add]
    rw [whileN_s] at h ⊢
    cases ec : c env with
    | bad => rw [ec] at h; exact h
    | ex x e1 => rw [ec] at h; exact h
    | ok t e1 =>
      rw [ec] at h
      cases t with
      | false => exact h
      | true =>
        have h' : loopN (whileN c b n) (b e1) = some o := h
        show loopN (whileN c b (n + m)) (b e1) = some o
        revert h'
        cases b e1 with
        | nx e2 => exact fun z => whileN_more m z
        | ct e2 => exact fun z => whileN_more m z
        | _ => exact fun z => z
open Classical in
noncomputable def mWhile (c : M Bool) (b : S) : S := fun env => if h : ∃ o n, whileN c b n env = some o then h.choose else .bad
theorem mWhile_of {c : M Bool} {b : S} {n : Nat} {env : Ev} {o : Out} (h : whileN c b n env = some o) : mWhile c b env = o := by
  unfold mWhile
  have hx : ∃ o n, whileN c b n env = some o := ⟨o, n, h⟩
  rw [dif_pos hx]
  obtain ⟨m, hm⟩ := hx.choose_spec
  have h1 := whileN_more m h
  have h2 := whileN_more n hm
  rw [Nat.add_comm] at h2
  exact Option.some.inj (h2.symm.trans h1)
theorem mWhile_step {c : M Bool} {b : S} {env : Ev} : mWhile c b env = (c env).elim (fun t e1 => if t = true then loopO (mWhile c b) (b e1) else .nx e1) .ex .bad := by
  have one : ∀ {o : Out}, whileN c b 1 env = some o → mWhile c b env = o := fun h => mWhile_of h
  have rec_ : ∀ {e1 e2 : Ev}, c env = .ok true e1 → (b e1 = .nx e2 ∨ b e1 = .ct e2) → mWhile c b env = mWhile c b e2 := fun {e1 e2} h1 h2 => by
    have step : ∀ n, whileN c b (n + 1) env = whileN c b n e2 := fun n => by
      rw [whileN_s, h1]
      rcases h2 with h2 | h2 <;> (show loopN (whileN c b n) (b e1) = _; rw [h2]; rfl)
    by_cases h : ∃ o n, whileN c b n e2 = some o
    · obtain ⟨o, n, hn⟩ := h
      rw [mWhile_of hn, mWhile_of (n := n + 1) ((step n).trans hn)]
    · have h' : ¬ ∃ o n, whileN c b n env = some o := fun ⟨o, n, hn⟩ => by
        cases n with
        | zero => cases hn
        | succ n => rw [step] at hn; exact h ⟨o, n, hn⟩
      unfold mWhile
      rw [dif_neg h, dif_neg h']
  cases hc : c env with
  | ok t e1 =>
    cases t with
    | true =>
      show mWhile c b env = loopO (mWhile c b) (b e1)
      cases hb : b e1 with
      | nx e2 => exact rec_ hc (.inl hb)
      | ct e2 => exact rec_ hc (.inr hb)
      | _ => exact one (by rw [whileN_s, hc]; show loopN (whileN c b 0) (b e1) = _; rw [hb]; rfl)
    | false => exact one (by rw [whileN_s, hc]; rfl)
  | ex x e1 => exact one (by rw [whileN_s, hc]; rfl)
  | bad => exact one (by rw [whileN_s, hc]; rfl)
section
variable {X : Cx} {G : Ct} {W : WX} {pos : Pos} {c : Expr} {body : List Stmt} {mc : M Bool} {mb : S}
theorem s_while (hp : PassesOwn (model X.prog X.w) X.A X.env X.xe) (hc : PT X c (tT G W mc)) (hb : PSs X body (tS G W mb)) : PS X (.While c body [] pos) (tS G W (mWhile mc mb)) := imp_S (ps_while hp hc hb) fun E σ H ⟨O, ad, env, j, p⟩ => by
  unfold mWhile at p
  by_cases h : ∃ o n, whileN mc mb n env = some o
  · rw [dif_pos h] at p
    obtain ⟨n0, h0⟩ := h.choose_spec
    generalize h.choose = o at p h0
    refine ⟨fun n σ2 H2 => ∃ ad2 env2, Kr O (Fo O env ad) (Fo O env2 ad2) H H2 ∧ J G O ad2 env2 σ2 H2 ∧ whileN mc mb n env2 = some o, ⟨n0, ad, env, Kr.refl _ _ _, j, h0⟩, ?_⟩
    rintro n σ2 H2 ⟨ad2, env2, k2, j2, h2⟩
    cases n with
    | zero => cases h2
    | succ n =>
      rw [whileN_s] at h2
      refine ⟨O, ad2, env2, j2, ?_⟩
      cases ec : mc env2 with
      | bad => rw [ec] at h2; cases h2; exact p
      | ex x e1 => rw [ec] at h2; cases h2; exact fun ad' cls dx H' k' j' r => p ad' cls dx σ2 H' (k2.trans k') j' r
      | ok t e1 =>
        rw [ec] at h2
        intro ad3 H3 k3 j3
        cases t with
        | false => cases h2; exact iteF (p ad3 σ2 H3 (k2.trans k3) j3)
        | true =>
          refine iteT ⟨fun σ' H' => ∃ ad4 env4, Kr O (Fo O env ad) (Fo O env4 ad4) H H' ∧ J G O ad4 env4 σ' H' ∧ whileN mc mb n env4 = some o, fun σ' H' ⟨ad4, env4, k4, j4, h4⟩ => ⟨n, Nat.lt_succ_self n, ad4, env4, k4, j4, h4⟩, O, ad3, e1, j3, ?_⟩
          have kk := k2.trans k3
          have h3 : loopN (whileN mc mb n) (mb e1) = some o := h2
          clear h2
          revert h3
          cases eb : mb e1 with
          | bad => intro h3; cases h3; exact p
          | nx e4 => exact fun z ad5 σ5 H5 k5 j5 => ⟨ad5, e4, kk.trans k5, j5, z⟩
          | ct e4 => exact fun z ad5 σ5 H5 k5 j5 => ⟨ad5, e4, kk.trans k5, j5, z⟩
          | bk e4 => intro h3; cases h3; exact fun ad5 σ5 H5 k5 j5 => p ad5 σ5 H5 (kk.trans k5) j5
          | rt d e4 => intro h3; cases h3; exact fun ad5 v σ5 H5 k5 j5 r => p ad5 v σ5 H5 (kk.trans k5) j5 r
          | rto c e4 => intro h3; cases h3; exact fun ad5 v σ5 H5 k5 n1 n2 j5 r => p ad5 v σ5 H5 (kk.trans k5) n1 n2 j5 r
          | rtt d c e4 => intro h3; cases h3; exact fun ad5 p5 v q5 σ5 H5 k5 n1 n2 j5 r => p ad5 p5 v q5 σ5 H5 (kk.trans k5) n1 n2 j5 r
          | ex y e4 => intro h3; cases h3; exact fun ad5 cls dx σ5 H5 k5 j5 r => p ad5 cls dx σ5 H5 (kk.trans k5) j5 r
  · rw [dif_neg h] at p
    exact p.elim
end
end Nb
namespace Nb
open L2 PySem PySem.Spec PyProof.Rows

/-! ### enumerate of a tuple -/
theorem enum_newB {v : Value} {o : Obj} {Hh : Heap → Prop} (B : Begins v o Hh) :
    Meets (Builtin.«enumerate.__new__» ⟨[.type "enumerate", v], []⟩) (fun _ R s => Hh s.heap ∧ R (.ok (.ret (.ref (s.heap.push o).objs.size)))
      { s with heap := (s.heap.push o).push { cls := .type "enumerate", data := .fields #[.none, .bool false, .ref s.heap.objs.size, rawInt 0, .none, .none] } }) :=
  .of_wp fun prog w A R s h => by
    obtain ⟨hp, g, d, tk, os⟩ := s
    obtain ⟨h1, h⟩ := h
    have sub0 := sub_enumerate
    have it0 : ∀ {A' : Around} {E Q : Value → Shared → Prop}, Q (.ref hp.objs.size) ⟨hp.push o, g, d, tk, os⟩ → wpAny (model prog w) A' (pyIter v) Q E ⟨hp, g, d, tk, os⟩ :=
      fun q => B.iter prog w _ _ ⟨hp, g, d, tk, os⟩ _ h1 q
    wp_walk using it0
    refine wpAny_stack_any fun st => wpAny_pure ?_
    split
    · rename_i c _ _ _ _ _
      cases (c == Value.type "enumerate") <;> (wp_walk using it0; exact ⟨_, rfl, h⟩)
    · wp_walk using it0
      exact ⟨_, rfl, h⟩
theorem call_enumB {prog : Program} {w : World} {A : Around} {E : Value → Shared → Prop} {s : Shared} {v : Value} {o : Obj} {Hh : Heap → Prop} {Q : Value → Shared → Prop} (B : Begins v o Hh) (h1 : Hh s.heap)
    (h : ∀ h', IsEnum h' (s.heap.objs.size + 1) s.heap.objs.size 0 .none → h'.get? s.heap.objs.size = some o → (∀ b ob, s.heap.get? b = some ob → h'.get? b = some ob) → Q (.ref (s.heap.objs.size + 1)) { s with heap := h' }) :
    wpAny (model prog w) A (call (.type "enumerate") [v]) Q E s := by
  refine callType_new F.called_enumerate (by decide) (F.typeCall_enumerate_1 _) (F.newCall_enumerate_1 _) (fun obj => F.args_object_init_2 obj _) F.entry_enumerate_new (enum_newB B) ⟨h1, ?_⟩
  have hz : (s.heap.push o).objs.size = s.heap.objs.size + 1 := Heap.size_push ..
  show _ ∧ _
  rw [hz]
  have he : IsEnum ((s.heap.push o).push { cls := .type "enumerate", data := .fields #[.none, .bool false, .ref s.heap.objs.size, rawInt 0, .none, .none] }) (s.heap.objs.size + 1) s.heap.objs.size 0 .none := by
    have z := Heap.get?_push_size (s.heap.push o) (o := { cls := .type "enumerate", data := .fields #[.none, .bool false, .ref s.heap.objs.size, rawInt 0, .none, .none] }) rfl
    rw [hz] at z
    exact z
  exact ⟨⟨_, he, rfl⟩, h _ he (Heap.get?_push_of_some _ (Heap.get?_push_size _ B.free)) fun b ob x => Heap.get?_push_of_some _ (Heap.get?_push_of_some _ x)⟩

def IteT (K : PySem.W.Frag) (a : Addr) : It :=
  ⟨fun i H => ∃ xs x, SqT K H a xs ∧ xs[i]? = some x, fun i H v H' => ∃ T x, v = .ref T ∧ H T = none ∧ H' = upd H T (.tup [.int (i : Nat), x]) ∧ ∀ xs, SqT K H a xs → xs[i]? = some x, fun i H => ∃ xs, SqT K H a xs ∧ xs.length ≤ i⟩
theorem turn_enumT {P : Program} {w : World} {K : PySem.W.Frag} {elts : List Expr} {kk : Nat} {tpos : Pos} (a e it : Addr) :
    Turn P w K (.Tuple elts kk tpos) (IteT K a) [e, it] e (fun i h => (∃ old, IsEnum h e it ((i : Nat) : Int) old) ∧ h.IsTupleIter it a i ∧ e ≠ it) where
  mem := List.mem_cons_self ..
  obj := fun i h st b hb => by
    obtain ⟨⟨old, he⟩, ⟨o, ho, hc, hd⟩, _⟩ := st
    rcases List.mem_cons.mp hb with z | z
    · exact ⟨_, z ▸ he, fun v q => by cases q⟩
    · rw [List.mem_singleton.mp z]
      exact ⟨o, ho, fun v q => by rw [hd] at q; cases q⟩
  keep := fun i h h' st k => ⟨st.1.imp fun old he => k e (List.mem_cons_self ..) _ he, st.2.1.at fun o q => k it (List.mem_cons_of_mem _ (List.mem_singleton.mpr rfl)) o q, st.2.2⟩
  item := by
    intro X eP ew eK hc i pins s σ H E I hf st hg
    subst eP ew eK
    obtain ⟨⟨old, he⟩, hit, hne⟩ := st
    obtain ⟨xs, x, hq, hx⟩ := hg
    obtain ⟨its, rv, p, hz⟩ := I.tuple hq
    obtain ⟨u, hu, ru⟩ := rv.get hx
    have hea : H e = none := (hf e (List.mem_cons_self ..)).1
    have hia : H it = none := (hf it (List.mem_cons_of_mem _ (List.mem_singleton.mpr rfl))).1
    have pT : s.heap.IsTuple a its.toArray := p
    have ia : it ≠ a := fun q => by
      obtain ⟨o, h1, h2, _⟩ := hit
      obtain ⟨o', h3, h4, _⟩ := pT
      rw [q, h3] at h1
      cases h1
      rw [h4] at h2
      simp at h2
    have ea : e ≠ a := fun q => by
      obtain ⟨o', h3, h4, _⟩ := pT
      rw [← q] at h3
      rw [show s.heap.get? e = _ from he] at h3
      cases h3
      simp at h4
    have D := Draws.tuple (prog := X.prog) (w := X.w) (A := X.A.in1) (show X.A.in1.handled = none from I.ok.hd hc) it a (Ne.symm ia) its.toArray
    have hlt : i < its.toArray.size := by
      rw [List.size_toArray]
      exact (List.getElem?_eq_some_iff.mp hu).1
    refine wpAny_pyNext_enum_itemD D he ⟨hit, pT⟩ hlt hne (fun q => ?_) fun y h' tk hy ho st' hT hsz hk => ?_
    · rcases List.mem_cons.mp q with q | q
      · exact hne q
      · exact ea (List.mem_singleton.mp q)
    have ey : y = u := by
      have : its.toArray[i]? = some u := by simpa using hu
      rw [this] at hy
      exact (Option.some.inj hy).symm
    subst ey
    have hel : e < s.heap.objs.size := Heap.lt_size he
    have hil : it < s.heap.objs.size := by obtain ⟨_, q, _⟩ := hit; exact Heap.lt_size q
    refine ⟨_, rfl, wpAny_letOwnedTupleGo_enum (s := { s with heap := h', toks := tk + 1 }) ho fun h'' he' sb => ?_⟩
    have hT2 : h''.get? s.heap.objs.size = some { cls := .type "tuple", data := .seq #[.int i tk, y] } := (sb.2 _ (Nat.ne_of_gt hel)).trans hT
    have new : ObjOk X.prog X.w (upd H s.heap.objs.size (.tup [.int (i : Nat), x])) h'' s.heap.objs.size (.tup [.int (i : Nat), x]) :=
      ⟨by show 2 ≤ sizeLine; decide, [.int i tk, y], .cons ⟨_, rfl⟩ (.cons ru .nil), _, hT2, rfl, _, rfl⟩
    have I1 : Inv X pins σ (upd H s.heap.objs.size (.tup [.int (i : Nat), x])) { s with heap := h'', toks := tk + 1 } :=
      I.turnedNew (ch := [e, it]) (fun b ob hb q => by
        have n1 : b ≠ e := fun z => hb (z ▸ List.mem_cons_self ..)
        have n2 : b ≠ it := fun z => hb (z ▸ List.mem_cons_of_mem _ (List.mem_singleton.mpr rfl))
        exact (sb.2 b n1).trans (hk b ob n1 n2 q)) hf (Nat.le_refl _) new
    refine ⟨.ref s.heap.objs.size, _, I1, rfl, ⟨_, x, rfl, I.hok.fresh (Nat.le_refl _), rfl, fun ys hy => by rw [I.tuple_inj hy hq]; exact hx⟩, ⟨⟨y, ?_⟩, st'.1.at fun o q => (sb.2 it (Ne.symm hne)).trans q, hne⟩, fun b hb => ?_⟩
    · have e1 : ((i + 1 : Nat) : Int) = (i : Int) + 1 := by omega
      rw [e1]
      exact he'
    · have hb' : b < s.heap.objs.size := by
        rcases List.mem_cons.mp hb with z | z
        · rw [z]; exact hel
        · rw [List.mem_singleton.mp z]; exact hil
      rw [upd_ne (Nat.ne_of_lt hb')]
      exact (hf b hb).1
  done := by
    intro X eP ew eK hc i pins s σ H E I hf st hg
    subst eP ew eK
    obtain ⟨⟨old, he⟩, hit, hne⟩ := st
    obtain ⟨xs, hq, hx⟩ := hg
    obtain ⟨its, rv, p, hz⟩ := I.tuple hq
    have pT : s.heap.IsTuple a its.toArray := p
    have ia : it ≠ a := fun q => by
      obtain ⟨o, h1, h2, _⟩ := hit
      obtain ⟨o', h3, h4, _⟩ := pT
      rw [q, h3] at h1
      cases h1
      rw [h4] at h2
      simp at h2
    obtain ⟨f0, f1, f2, f3, f4, f5⟩ := hf it (List.mem_cons_of_mem _ (List.mem_singleton.mpr rfl))
    have hl := rv.length
    have hend : its.toArray[i]? = none := by simp; omega
    have hT : s.TypeIs (.ref e) "enumerate" := ⟨_, he, rfl⟩
    unfold pyNext
    refine wpAny_bind (wpAny_attempt (wpAny_callSpecial?_slot (name := Str.ofString "__next__") hT PySem.F.slot_enumerate_next
      (wpAny_call_entry PySem.F.slot_enumerate_next hT PySem.F.entry_enumerate_next ?_ (PySem.F.args_enumerate_next_1 _))))
    show wpAny _ _ (field (.ref e) 2 >>= _) _ _ _
    refine wpAny_bind (wpAny_field he rfl (x := .ref it) rfl ?_)
    refine wpAny_bind (wpAny_nextOf_tuple_end (show X.A.in1.handled = none from I.ok.hd hc) hit pT hend fun h' x he' hx' => ?_)
    obtain ⟨o, ho, hcl⟩ := hx'
    refine wpAny_bind (wpAny_isInstance (T := "StopIteration") (b := true) ⟨o, ho, hcl⟩ isSubtype_stop ?_)
    exact wpAny_pure ⟨rfl, I.turned (t' := s.toks) (fun b o hb q => he' b o hb q) f0 f1 f3 f4 f5⟩
  self := fun A i s Q E st h => let ⟨⟨_, he⟩, _⟩ := st; wpAny_pyIter_enum he h
def iEnumT (K : PySem.W.Frag) (ta : TA) : TI := fun σ H R => ta σ H fun vs H1 => ∃ a xs, vs = [.ref a] ∧ SqT K H1 a xs ∧ R (IteT K a) H1
theorem pi_enumT {X : Cx} {e : Expr} {ta : TA} {p pos tpos : Pos} {elts : List Expr} {kk : Nat} (hg : Gl X "enumerate") (hm : X.mg "enumerate" = none) (ha : PA X [e] ta) (hs : starEach [e] X.env = [(false, eval e X.env)] := by rfl) :
    PI X (.Tuple elts kk tpos) (.Call (.Name "enumerate" p) [e] [] pos) (iEnumT X.K ta) := by
  refine ⟨fun pins s σ H R I h => ?_⟩
  refine Call_ (ld_blt I hg hm boot_enumerate (PyProof.Rows.callWith_type1 (thn (ha.run pos pins s σ H _ I h) fun us s1 ⟨vs, H1, I1, r1, a, xs, ex, hq, q⟩ => ?_) hs rfl))
  subst ex
  cases r1 with
  | cons r rr =>
    cases rr
    cases r
    obtain ⟨its, rv, p', hz⟩ := I1.tuple hq
    refine call_enumB (begins_tuple a its.toArray) p' fun h' he hit hk => wpAny_pyIter_enum he ?_
    have I2 : Inv X pins σ H1 { s1 with heap := h' } := I1.kept (t' := s1.toks) hk
    refine ⟨s1.heap.objs.size + 1, [s1.heap.objs.size + 1, s1.heap.objs.size], _, _, H1, rfl, I2, turn_enumT a (s1.heap.objs.size + 1) s1.heap.objs.size, ⟨⟨.none, he⟩, ⟨_, hit, rfl, rfl⟩, Nat.succ_ne_self _⟩, fun b hb => ?_, q⟩
    have hsz : ∀ c o, h'.get? c = some o → True := fun _ _ _ => trivial
    rcases List.mem_cons.mp hb with z | z
    · subst z; exact I1.fpOk (Nat.le_succ _) (I1.hok.fresh (Nat.le_succ _))
    · rw [List.mem_singleton.mp z]; exact I1.fpOk (Nat.le_refl _) (I1.hok.fresh (Nat.le_refl _))
end Nb
namespace Nb
open L2 PySem PySem.Spec PyProof.Rows

/-! ### what loops walk -/
def itemsOf : D → Option (List D)
  | .list ds => some ds
  | .tuple ds => some ds
  | _ => none
def mItems (me : M Val) : M (List D) := fun env => (me env).bind fun a e1 => (asD e1 a).elim .bad fun p => (itemsOf p.1).elim .bad fun ds => .ok ds p.2
def rngD (lo hi : Int) : List D := (List.range (hi - lo).toNat).map fun k => PyData.int (lo + (k : Nat))
def okB (i : Int) : Bool := decide (-(2 ^ 62) ≤ i) && decide (i < 2 ^ 62)
def rng1Of : List D → Option (List D)
  | [.int j] => if okB j = true then some (rngD 0 j) else none
  | _ => none
def rng2Of : List D → Option (List D)
  | [.int i, .int j] => if okB i = true ∧ okB j = true then some (rngD i j) else none
  | _ => none
def mSrc (f : List D → Option (List D)) (ms : M (List Val)) : M (List D) := fun env => (ms env).bind fun vals e1 => ((views e1 vals).bind f).elim .bad fun ds => .ok ds e1
def enumD (ds : List D) : List D := ds.zipIdx.map fun p => PyData.tuple [.int (p.2 : Nat), p.1]
def iEnumD (env : Ev) : List Val → R (List D)
  | [a] => (asD env a).elim .bad fun p => (itemsOf p.1).elim .bad fun ds => .ok (enumD ds) p.2
  | _ => .bad
def mEnum (ms : M (List Val)) : M (List D) := fun env => (ms env).bind fun vals e1 => iEnumD e1 vals
def zipD (ds es : List D) : List D := (ds.zip es).map fun p => PyData.tuple [p.1, p.2]
def iZipD (env : Ev) (vals : List Val) : R (List D) := (asDs env vals).elim .bad fun p => match p.1 with
  | [.list ds, .list es] => .ok (zipD ds es) p.2
  | [.tuple ds, .tuple es] => .ok (zipD ds es) p.2
  | _ => .bad
def mZip (ms : M (List Val)) : M (List D) := fun env => (ms env).bind fun vals e1 => iZipD e1 vals

section
variable {K : PySem.W.Frag} {O F F2 : Fb} {H H2 : Hp} {a b : Addr} {ds es : List D} {xs ys : List V}
theorem SqL.of_fz (h : FzL K F H a xs) (k : Kr O F F2 H H2) : SqL K H2 a xs := (h.keep k.kq.kp).sq
theorem SqT.of_fz (h : SqT K H a xs) (k : Kr O F F2 H H2) : SqT K H2 a xs := sqT_keep k.kq.kp h
theorem src_list {wk : Bool} (h : FzL K F H a xs) (r : RelL K F H ds xs) : Src wk K O F H (Itl K a) ds where
  stop := fun F2 H2 k => ⟨xs, SqL.of_fz h k, Nat.le_of_eq r.length.symm⟩
  go := fun F2 H2 i d k e => by
    obtain ⟨v, ev, _⟩ := r.get e
    exact ⟨xs, v, SqL.of_fz h k, ev⟩
  yld := fun F2 H2 i d x H3 k e y => by
    obtain ⟨v, ev, rv⟩ := r.get e
    obtain ⟨eH, q⟩ := y
    have q := q xs (SqL.of_fz h k)
    rw [ev] at q
    cases q
    subst eH
    exact ⟨Same.refl _, .of (rv.keep k.kq.kp)⟩
theorem src_tup {wk : Bool} (h : SqT K H a xs) (r : RelL K F H ds xs) : Src wk K O F H (Itt K a) ds where
  stop := fun F2 H2 k => ⟨xs, SqT.of_fz h k, Nat.le_of_eq r.length.symm⟩
  go := fun F2 H2 i d k e => by
    obtain ⟨v, ev, _⟩ := r.get e
    exact ⟨xs, v, SqT.of_fz h k, ev⟩
  yld := fun F2 H2 i d x H3 k e y => by
    obtain ⟨v, ev, rv⟩ := r.get e
    obtain ⟨eH, q⟩ := y
    have q := q xs (SqT.of_fz h k)
    rw [ev] at q
    cases q
    subst eH
    exact ⟨Same.refl _, .of (rv.keep k.kq.kp)⟩
theorem src_rng {wk : Bool} {lo hi : Int} : Src wk K O F H (Itr lo (hi - lo).toNat) (rngD lo hi) where
  stop := fun F2 H2 k => by
    show (hi - lo).toNat ≤ (rngD lo hi).length
    simp [rngD]
  go := fun F2 H2 i d k e => by
    have h := (List.getElem?_eq_some_iff.mp e).1
    show i < (hi - lo).toNat
    simpa [rngD] using h
  yld := fun F2 H2 i d x H3 k e y => by
    obtain ⟨e1, e2⟩ := y
    subst e1 e2
    have hl : i < (hi - lo).toNat := by simpa [rngD] using (List.getElem?_eq_some_iff.mp e).1
    have e' : d = PyData.int (lo + (i : Nat)) := by
      simp [rngD, hl] at e
      exact e.symm
    subst e'
    exact ⟨Same.refl _, .of (.int _)⟩
theorem same_laid {p : Addr} {o : HO} (n : H p = none) : Same H (upd H p o) := fun c u e => by rw [upd_ne (ne_of_none e n)]; exact e
theorem rel_pair {d e : D} {x y : V} {T : Addr} (n : H T = none) (r : Rel K F H d x) (q : Rel K F H e y) : RelK true K F (upd H T (.tup [x, y])) (.tuple [d, e]) (.ref T) :=
  have k : Kp F F H (upd H T (.tup [x, y])) := Kp.same (same_laid n)
  .inr ⟨_, T, _, rfl, rfl, .inl (.inl upd_same), .cons (r.keep k) (.cons (q.keep k) .nil)⟩
theorem enumD_get {i : Nat} {d : D} (e : (enumD ds)[i]? = some d) : ∃ d0, ds[i]? = some d0 ∧ d = .tuple [.int (i : Nat), d0] := by
  unfold enumD at e
  rw [List.getElem?_map, List.getElem?_zipIdx] at e
  cases q : ds[i]? with
  | none => rw [q] at e; cases e
  | some d0 => rw [q] at e; simp at e; exact ⟨d0, rfl, e.symm⟩
theorem enumD_len : (enumD ds).length = ds.length := by simp [enumD]
theorem src_enum (h : FzL K F H a xs) (r : RelL K F H ds xs) : Src true K O F H (Ite K a) (enumD ds) where
  stop := fun F2 H2 k => ⟨xs, SqL.of_fz h k, by rw [enumD_len]; exact Nat.le_of_eq r.length.symm⟩
  go := fun F2 H2 i d k e => by
    obtain ⟨d0, e1, _⟩ := enumD_get e
    obtain ⟨v, ev, _⟩ := r.get e1
    exact ⟨xs, v, SqL.of_fz h k, ev⟩
  yld := fun F2 H2 i d x H3 k e y => by
    obtain ⟨d0, e1, ed⟩ := enumD_get e
    subst ed
    obtain ⟨v, ev, rv⟩ := r.get e1
    obtain ⟨T, x0, ex, nT, eH, q⟩ := y
    have q := q xs (SqL.of_fz h k)
    rw [ev] at q
    cases q
    subst ex eH
    exact ⟨same_laid nT, rel_pair nT (.int _) (rv.keep k.kq.kp)⟩
theorem src_enumT (h : SqT K H a xs) (r : RelL K F H ds xs) : Src true K O F H (IteT K a) (enumD ds) where
  stop := fun F2 H2 k => ⟨xs, SqT.of_fz h k, by rw [enumD_len]; exact Nat.le_of_eq r.length.symm⟩
  go := fun F2 H2 i d k e => by
    obtain ⟨d0, e1, _⟩ := enumD_get e
    obtain ⟨v, ev, _⟩ := r.get e1
    exact ⟨xs, v, SqT.of_fz h k, ev⟩
  yld := fun F2 H2 i d x H3 k e y => by
    obtain ⟨d0, e1, ed⟩ := enumD_get e
    subst ed
    obtain ⟨v, ev, rv⟩ := r.get e1
    obtain ⟨T, x0, ex, nT, eH, q⟩ := y
    have q := q xs (SqT.of_fz h k)
    rw [ev] at q
    cases q
    subst ex eH
    exact ⟨same_laid nT, rel_pair nT (.int _) (rv.keep k.kq.kp)⟩
theorem zipD_get {i : Nat} {d : D} (e : (zipD ds es)[i]? = some d) : ∃ d0 e0, ds[i]? = some d0 ∧ es[i]? = some e0 ∧ d = .tuple [d0, e0] := by
  unfold zipD at e
  rw [List.getElem?_map, List.zip_eq_zipWith, List.getElem?_zipWith] at e
  cases q : ds[i]? with
  | none => rw [q] at e; simp at e
  | some d0 =>
    cases q2 : es[i]? with
    | none => rw [q, q2] at e; simp at e
    | some e0 => rw [q, q2] at e; simp at e; exact ⟨d0, e0, rfl, rfl, e.symm⟩
theorem src_zipL (h : FzL K F H a xs) (r : RelL K F H ds xs) (h2 : FzL K F H b ys) (r2 : RelL K F H es ys) : Src true K O F H (Itz K a b) (zipD ds es) where
  stop := fun F2 H2 k => ⟨xs, ys, SqL.of_fz h k, SqL.of_fz h2 k, by
    have e1 := r.length
    have e2 := r2.length
    simp only [zipD, List.length_map, List.length_zip]
    omega⟩
  go := fun F2 H2 i d k e => by
    obtain ⟨d0, e0, e1, e2, _⟩ := zipD_get e
    obtain ⟨v, ev, _⟩ := r.get e1
    obtain ⟨u, eu, _⟩ := r2.get e2
    exact ⟨xs, ys, v, u, SqL.of_fz h k, SqL.of_fz h2 k, ev, eu⟩
  yld := fun F2 H2 i d x H3 k e y => by
    obtain ⟨d0, e0, e1, e2, rfl⟩ := zipD_get e
    obtain ⟨v, ev, rv⟩ := r.get e1
    obtain ⟨u, eu, ru⟩ := r2.get e2
    obtain ⟨T, x0, y0, ex, nT, eH, q, q2⟩ := y
    have q := q xs (SqL.of_fz h k)
    have q2 := q2 ys (SqL.of_fz h2 k)
    rw [ev] at q
    rw [eu] at q2
    cases q
    cases q2
    subst ex eH
    exact ⟨same_laid nT, rel_pair nT (rv.keep k.kq.kp) (ru.keep k.kq.kp)⟩
theorem src_zipT (h : SqT K H a xs) (r : RelL K F H ds xs) (h2 : SqT K H b ys) (r2 : RelL K F H es ys) : Src true K O F H (RZ.ItzT K a b) (zipD ds es) where
  stop := fun F2 H2 k => ⟨xs, ys, SqT.of_fz h k, SqT.of_fz h2 k, by
    have e1 := r.length
    have e2 := r2.length
    simp only [zipD, List.length_map, List.length_zip]
    omega⟩
  go := fun F2 H2 i d k e => by
    obtain ⟨d0, e0, e1, e2, _⟩ := zipD_get e
    obtain ⟨v, ev, _⟩ := r.get e1
    obtain ⟨u, eu, _⟩ := r2.get e2
    exact ⟨xs, ys, v, u, SqT.of_fz h k, SqT.of_fz h2 k, ev, eu⟩
  yld := fun F2 H2 i d x H3 k e y => by
    obtain ⟨d0, e0, e1, e2, rfl⟩ := zipD_get e
    obtain ⟨v, ev, rv⟩ := r.get e1
    obtain ⟨u, eu, ru⟩ := r2.get e2
    obtain ⟨T, x0, y0, ex, nT, eH, q, q2⟩ := y
    have q := q xs (SqT.of_fz h k)
    have q2 := q2 ys (SqT.of_fz h2 k)
    rw [ev] at q
    rw [eu] at q2
    cases q
    cases q2
    subst ex eH
    exact ⟨same_laid nT, rel_pair nT (rv.keep k.kq.kp) (ru.keep k.kq.kp)⟩
end

section
variable {X : Cx} {G : Ct} {W : WX} {tg e e2 : Expr} {me : M Val} {ms : M (List Val)} {p pos tpos : Pos} {elts : List Expr} {kk : Nat}
theorem i_val (hK : G.K = X.K) (he : PE X e (tE G W me)) : PI X tg e (tIt false G W (mItems me)) := by
  refine ⟨fun pins s σ H R0 I ⟨O, ad, env, j, q⟩ => ?_⟩
  unfold mItems at q
  cases em : me env with
  | bad => rw [em] at q; exact q.elim
  | ex x e1 => rw [em] at q; exact (pi_list he).run pins s σ H R0 I ⟨O, ad, env, j, by rw [em]; exact q⟩
  | ok val e1 =>
    rw [em] at q
    obtain ⟨⟨d, env2⟩, ea, q⟩ := opt_inv (P := PostI false G W O ad env σ H R0) q fun z => z
    obtain ⟨ds, ed, q⟩ := opt_inv (P := PostI false G W O ad env σ H R0) q fun z => z
    have key : ∀ Q' : VK, (∀ ad' v H', Kr O (Fo O env ad) (Fo O env2 ad') H H' → J G O ad' env2 σ H' → Rel G.K (Fo O env2 ad') H' d v → Q' v H') → tE G W me σ H Q' := fun Q' f => ⟨O, ad, env, j, by
      rw [em]
      exact fun ad' v H' k w => let ⟨j1, k1, r1⟩ := asD_val w ea; f ad' v H' (k.trans k1) j1 r1⟩
    cases d with
    | list ds' =>
      cases ed
      refine (pi_list he).run pins s σ H R0 I (key _ fun ad' v H' k j1 r => ?_)
      obtain ⟨a, xs, rfl, h1, h2⟩ := r.toLst
      exact ⟨a, rfl, ⟨xs, hK ▸ h1.sq⟩, q ad' _ H' k j1 (hK ▸ src_list h1 h2)⟩
    | tuple ds' =>
      cases ed
      refine (pi_tup he).run pins s σ H R0 I (key _ fun ad' v H' k j1 r => ?_)
      obtain ⟨a, xs, rfl, h1, h2⟩ := r.toTup
      exact ⟨a, rfl, ⟨xs, hK ▸ h1⟩, q ad' _ H' k j1 (hK ▸ src_tup h1 h2)⟩
    | _ => cases ed
theorem okB_of {i : Int} (h : okB i = true) : -(2 ^ 62) ≤ i ∧ i < 2 ^ 62 := by simpa [okB] using h
theorem mSrc_inv {f : List D → Option (List D)} {vals : List Val} {env : Ev} {P : R (List D) → Prop} (h : P (((views env vals).bind f).elim .bad fun ds => .ok ds env)) (hb : P .bad → False) : ∃ ds items, views env vals = some ds ∧ f ds = some items ∧ P (.ok items env) := by
  cases e1 : views env vals with
  | none => rw [e1] at h; exact (hb h).elim
  | some ds =>
    rw [e1] at h
    cases e2 : f ds with
    | none => simp only [Option.bind_some, e2] at h; exact (hb h).elim
    | some it => simp only [Option.bind_some, e2] at h; exact ⟨ds, it, rfl, e2, h⟩
theorem i_rng1 (hg : Gl X "range") (hm : X.mg "range" = none) (ha : PA X [e] (tA G W ms)) (hs : starEach [e] X.env = [(false, eval e X.env)] := by rfl) : PI X tg (.Call (.Name "range" p) [e] [] pos) (tIt false G W (mSrc rng1Of ms)) :=
  imp_I (pi_range1 hg hm ha hs) fun σ H R0 ⟨O, ad, env, j, q⟩ => by
    refine mono_A (seqA (β := R (List D)) (P := PostI false G W O ad env σ H R0) xsI (fun _ z => z) (Kr.refl O (Fo O env ad) H) j q) fun vs H1 ⟨O2, ad2, env2, vals, h1, h2, k2, k3, j2, w2, q2⟩ => ?_
    obtain ⟨ds, items, e1, ei, q3⟩ := mSrc_inv (P := PostI false G W O ad env σ H R0) q2 fun z => z
    have rb := w2.views j2 e1
    unfold rng1Of at ei
    split at ei
    · split at ei
      · rename_i i hi
        cases ei
        cases rb with
        | cons r rr =>
          cases rr
          rw [r.toInt]
          have b := okB_of hi
          have q4 := q3 ad2 (Itr 0 (i - 0).toNat) H1 k2 (j2.less h1) src_rng
          rw [Int.sub_zero] at q4
          exact ⟨i, rfl, b.1, b.2, q4⟩
      · cases ei
    · cases ei
theorem i_rng2 (hg : Gl X "range") (hm : X.mg "range" = none) (ha : PA X [e, e2] (tA G W ms)) (hs : starEach [e, e2] X.env = [(false, eval e X.env), (false, eval e2 X.env)] := by rfl) (hs2 : starEach [e2] X.env = [(false, eval e2 X.env)] := by rfl) :
    PI X tg (.Call (.Name "range" p) [e, e2] [] pos) (tIt false G W (mSrc rng2Of ms)) :=
  imp_I (pi_range2 hg hm ha hs hs2) fun σ H R0 ⟨O, ad, env, j, q⟩ => by
    refine mono_A (seqA (β := R (List D)) (P := PostI false G W O ad env σ H R0) xsI (fun _ z => z) (Kr.refl O (Fo O env ad) H) j q) fun vs H1 ⟨O2, ad2, env2, vals, h1, h2, k2, k3, j2, w2, q2⟩ => ?_
    obtain ⟨ds, items, e1, ei, q3⟩ := mSrc_inv (P := PostI false G W O ad env σ H R0) q2 fun z => z
    have rb := w2.views j2 e1
    unfold rng2Of at ei
    split at ei
    · split at ei
      · rename_i i i' hi
        cases ei
        cases rb with
        | cons r rr =>
          cases rr with
          | cons r' rr =>
            cases rr
            rw [r.toInt, r'.toInt]
            have b := okB_of hi.1
            have b' := okB_of hi.2
            exact ⟨i, i', rfl, ⟨b.1, b.2, b'.1, b'.2⟩, q3 ad2 _ H1 k2 (j2.less h1) src_rng⟩
      · cases ei
    · cases ei
theorem i_enum (hK : G.K = X.K) (hg : Gl X "enumerate") (hm : X.mg "enumerate" = none) (ha : PA X [e] (tA G W ms)) (hs : starEach [e] X.env = [(false, eval e X.env)] := by rfl) : PI X (.Tuple elts kk tpos) (.Call (.Name "enumerate" p) [e] [] pos) (tIt true G W (mEnum ms)) := by
  refine ⟨fun pins s σ H R0 I ⟨O, ad, env, j, q⟩ => ?_⟩
  unfold mEnum at q
  cases em : ms env with
  | bad => rw [em] at q; exact q.elim
  | ex x e1 => rw [em] at q; exact (pi_enum hg hm ha hs).run pins s σ H R0 I ⟨O, ad, env, j, by rw [em]; exact q⟩
  | ok vals e1 =>
    rw [em] at q
    have q : PostI true G W O ad env σ H R0 (iEnumD e1 vals) := q
    unfold iEnumD at q
    split at q
    · rename_i a0 _
      obtain ⟨⟨d, env2⟩, ea, q⟩ := opt_inv (P := PostI true G W O ad env σ H R0) q fun z => z
      obtain ⟨ds, ed, q⟩ := opt_inv (P := PostI true G W O ad env σ H R0) q fun z => z
      have key : ∀ Q' : List V → Hp → Prop, (∀ ad' v H', Kr O (Fo O env ad) (Fo O env2 ad') H H' → J G O ad' env2 σ H' → Rel G.K (Fo O env2 ad') H' d v → Q' [v] H') → tA G W ms σ H Q' := fun Q' f => ⟨O, ad, env, j, by
        rw [em]
        intro O' ad' vs H' h1 h2 k jj w
        match vs, w with
        | [v], w =>
          have aa : asDs e1 [a0] = some ([d], env2) := by simp only [asDs, ea]
          obtain ⟨j1, _, k1, r1⟩ := asDs_ok h1 jj w aa
          cases r1 with
          | cons r _ => exact f ad' v H' (k.trans k1) (j1.less h1) r
        | [], w => exact w.elim
        | _ :: _ :: _, w => exact w.2.elim⟩
      cases d with
      | list ds' =>
        cases ed
        refine (pi_enum hg hm ha hs).run pins s σ H R0 I (key _ fun ad' v H' k j1 r => ?_)
        obtain ⟨a, xs, rfl, h1, h2⟩ := r.toLst
        exact ⟨a, xs, rfl, hK ▸ h1.sq, q ad' _ H' k j1 (hK ▸ src_enum h1 h2)⟩
      | tuple ds' =>
        cases ed
        refine (pi_enumT hg hm ha hs).run pins s σ H R0 I (key _ fun ad' v H' k j1 r => ?_)
        obtain ⟨a, xs, rfl, h1, h2⟩ := r.toTup
        exact ⟨a, xs, rfl, hK ▸ h1, q ad' _ H' k j1 (hK ▸ src_enumT h1 h2)⟩
      | _ => cases ed
    · exact q.elim
theorem i_zip (hK : G.K = X.K) (hg : Gl X "zip") (hm : X.mg "zip" = none) (ha : PA X [e, e2] (tA G W ms)) (hs : starEach [e, e2] X.env = (false, eval e X.env) :: starEach [e2] X.env := by rfl) (hpl : (backTo pos (starEach [e2] X.env)).any (·.1) = false := by rfl) :
    PI X (.Tuple elts kk tpos) (.Call (.Name "zip" p) [e, e2] [] pos) (tIt true G W (mZip ms)) :=
  imp_I (RZ.pi_zipA hg hm ha hs hpl) fun σ H R0 ⟨O, ad, env, j, q⟩ => by
    refine mono_A (seqA (β := R (List D)) (P := PostI true G W O ad env σ H R0) xsI (fun _ z => z) (Kr.refl O (Fo O env ad) H) j q) fun vs H1 ⟨O2, ad2, env2, vals, h1, h2, k2, k3, j2, w2, q2⟩ => ?_
    obtain ⟨⟨ds, env3⟩, ea, q3⟩ := opt_inv (P := PostI true G W O ad env σ H R0) q2 fun z => z
    obtain ⟨j3, _, k3, r3⟩ := asDs_ok h1 j2 w2 ea
    dsimp only at q3
    have jj := j3.less h1
    split at q3
    · cases r3 with
      | cons r rr =>
        cases rr with
        | cons r' rr =>
          cases rr
          obtain ⟨a, xs, rfl, f1, f2⟩ := r.toLst
          obtain ⟨b, ys, rfl, g1, g2⟩ := r'.toLst
          exact ⟨a, b, xs, ys, rfl, .inl ⟨hK ▸ f1.sq, hK ▸ g1.sq, q3 ad2 _ H1 (k2.trans k3) jj (hK ▸ src_zipL f1 f2 g1 g2)⟩⟩
    · cases r3 with
      | cons r rr =>
        cases rr with
        | cons r' rr =>
          cases rr
          obtain ⟨a, xs, rfl, f1, f2⟩ := r.toTup
          obtain ⟨b, ys, rfl, g1, g2⟩ := r'.toTup
          exact ⟨a, b, xs, ys, rfl, .inr ⟨hK ▸ f1, hK ▸ g1, q3 ad2 _ H1 (k2.trans k3) jj (hK ▸ src_zipT f1 f2 g1 g2)⟩⟩
    · exact q3.elim
end
end Nb
namespace Nb
open L2 PySem PySem.Spec PyProof.Rows

/-! ### a block's own slots -/
def wipeE : List Nat → Ev → Option Ev
  | [], env => some env
  | v :: vs, env => (wipeE vs env).bind fun e => match e[v]? with
    | some s => if isC s = true then none else some (e.set v .no)
    | none => none
def restE : List Nat → Ev → Ev → Option Ev
  | [], _, env => some env
  | v :: vs, env0, env => (restE vs env0 env).bind fun e => match env0[v]?, e[v]? with
    | some s, some t => if isC s = true ∨ isC t = true then none else some (e.set v s)
    | _, _ => none
def restS : List Nat → L2.St → L2.St → L2.St
  | [], _, τ => τ
  | v :: vs, σ, τ => (restS vs σ τ).set v (σ.getD v none)
section
variable {G : Ct} {O : Fb} {ad : Nat → Addr} {env e2 env0 : Ev} {σ τ : L2.St} {H : Hp} {i : Nat}
theorem isIo_of {s : Sl} (h : isC s = false) : isIo s = false := by
  cases s with
  | io c => cases h
  | _ => rfl
theorem fo_setN {s : Sl} (n : isC s = false) : ∀ a, Fo O (env.set i s) ad a → Fo O env ad a := fun a z => by
  rcases fo_put (t := s) (ad' := ad) (fun _ _ => rfl) a z with z | ⟨c, _⟩
  · exact z
  · rw [n] at c; cases c
theorem J.putN (j : J G O ad env σ H) {s t : Sl} {x : Option V} (e : env[i]? = some s) (ns : isC s = false) (nt : isC t = false) (ht : SlOk G (Fo O env ad) H (ad i) x t) :
    J G O ad (env.set i t) (σ.set i x) H ∧ Kr O (Fo O env ad) (Fo O (env.set i t) ad) H H := by
  have kp : Kp (Fo O env ad) (Fo O (env.set i t) ad) H H := Kp.weak (fo_setN nt)
  exact ⟨j.put e (isIo_of ns) (isIo_of nt) (fun _ _ => rfl) (fun _ z => z) (fun q => by rw [nt] at q; cases q) (fun F' _ k => ht.keep k fun q => by rw [nt] at q; cases q) kp, ⟨⟨kp, fun _ _ _ h => h⟩, fun _ h => h⟩⟩
theorem J.wipe : ∀ {vs : List Nat} {e2 : Ev}, J G O ad env σ H → wipeE vs env = some e2 → J G O ad e2 (wipe σ vs) H ∧ Kr O (Fo O env ad) (Fo O e2 ad) H H
  | [], _, j, h => by cases h; exact ⟨j, Kr.refl _ _ _⟩
  | v :: vs, e2, j, h => by
    unfold wipeE at h
    cases e1 : wipeE vs env with
    | none => rw [e1] at h; cases h
    | some e3 =>
      rw [e1] at h
      obtain ⟨j1, k1⟩ := J.wipe j e1
      simp only [Option.bind_some] at h
      split at h
      · rename_i s es
        split at h
        · cases h
        · rename_i nc
          cases h
          obtain ⟨j2, k2⟩ := j1.putN (t := .no) (x := none) es (by simpa using nc) rfl trivial
          exact ⟨j2, k1.trans k2⟩
      · cases h
theorem J.rest : ∀ {vs : List Nat} {e2 : Ev}, J G O ad env τ H → (∀ v ∈ vs, ∀ s, env0[v]? = some s → isC s = false → SlOk G (Fo O env ad) H (ad v) (σ.getD v none) s) → restE vs env0 env = some e2 →
    J G O ad e2 (restS vs σ τ) H ∧ Kr O (Fo O env ad) (Fo O e2 ad) H H
  | [], _, j, _, h => by cases h; exact ⟨j, Kr.refl _ _ _⟩
  | v :: vs, e2, j, hs, h => by
    unfold restE at h
    cases e1 : restE vs env0 env with
    | none => rw [e1] at h; cases h
    | some e3 =>
      rw [e1] at h
      obtain ⟨j1, k1⟩ := J.rest j (fun v hv => hs v (List.mem_cons_of_mem _ hv)) e1
      simp only [Option.bind_some] at h
      split at h
      · rename_i s t es et
        split at h
        · cases h
        · rename_i nc
          cases h
          have ns : isC s = false := by
            cases q : isC s with
            | false => rfl
            | true => exact (nc (.inl q)).elim
          have nt : isC t = false := by
            cases q : isC t with
            | false => rfl
            | true => exact (nc (.inr q)).elim
          obtain ⟨j2, k2⟩ := j1.putN (t := s) (x := σ.getD v none) et nt ns ((hs v (List.mem_cons_self ..) s es ns).keep k1.kq.kp fun q => by rw [ns] at q; cases q)
          exact ⟨j2, k1.trans k2⟩
      · cases h
theorem restS_len {σ τ : L2.St} : ∀ vs : List Nat, (restS vs σ τ).length = τ.length
  | [] => rfl
  | v :: vs => by unfold restS; rw [List.length_set, restS_len vs]
theorem restS_get {σ τ : L2.St} (hl : τ.length = σ.length) : ∀ (vs : List Nat) (k : Nat), (restS vs σ τ).getD k none = if k ∈ vs then σ.getD k none else τ.getD k none
  | [], k => by simp [restS]
  | v :: vs, k => by
    unfold restS
    by_cases hv : v < (restS vs σ τ).length
    · rw [getD_set hv]
      by_cases e : k = v
      · subst e; simp
      · rw [if_neg e, restS_get hl vs k]
        simp [e]
    · have hl2 : σ.length ≤ v := by rw [restS_len, hl] at hv; omega
      rw [List.set_eq_of_length_le (by omega), restS_get hl vs k]
      by_cases e : k = v
      · subst e
        have h1 : σ.getD k none = none := by simp [List.getD_eq_getElem?_getD, List.getElem?_eq_none hl2]
        have h2 : τ.getD k none = none := by simp [List.getD_eq_getElem?_getD, List.getElem?_eq_none (by omega : τ.length ≤ k)]
        rw [h1, h2, ite_self, ite_self]
      · simp [e]
theorem wipe_getD {σ : L2.St} {vs : List Nat} {k : Nat} (h : k ∉ vs) : (wipe σ vs).getD k none = σ.getD k none := by
  induction vs with
  | nil => rfl
  | cons v vs ih =>
    simp only [List.mem_cons, not_or] at h
    unfold wipe
    rw [List.getD_eq_getElem?_getD, List.getElem?_set_ne (Ne.symm h.1), ← List.getD_eq_getElem?_getD]
    exact ih h.2
theorem restS_wipe (σ : L2.St) (vs : List Nat) : restS vs σ (wipe σ vs) = σ := by
  have hl : (wipe σ vs).length = σ.length := wipe_length σ vs
  apply List.ext_getElem
  · rw [restS_len, hl]
  · intro k h1 h2
    have h := restS_get hl vs k
    by_cases q : k ∈ vs
    · rw [if_pos q] at h
      simpa [List.getD_eq_getElem?_getD, h1, h2] using h
    · rw [if_neg q, wipe_getD q] at h
      simpa [List.getD_eq_getElem?_getD, h1, h2] using h
theorem wipe_agr {σ σ2 : L2.St} {vs : List Nat} (a : Agr vs (wipe σ vs) σ2) : wipe σ2 vs = wipe σ vs := by
  have no : ∀ {σ : L2.St} {vs : List Nat} {k : Nat}, k ∈ vs → k < σ.length → (wipe σ vs)[k]? = some none := fun {σ vs k} h hk => by
    induction vs with
    | nil => cases h
    | cons v vs ih =>
      unfold wipe
      by_cases e : v = k
      · subst e; rw [List.getElem?_set_self (by rw [wipe_length]; exact hk)]
      · rw [List.getElem?_set_ne e]
        rcases List.mem_cons.mp h with z | z
        · exact (e z.symm).elim
        · exact ih z
  have ot : ∀ {σ : L2.St} {vs : List Nat} {k : Nat}, k ∉ vs → (wipe σ vs)[k]? = σ[k]? := fun {σ vs k} h => wipe_out h
  apply List.ext_getElem?
  intro k
  have hl := a.1
  rw [wipe_length] at hl
  by_cases q : k ∈ vs
  · by_cases hk : k < σ.length
    · rw [no q (by omega), no q hk]
    · rw [List.getElem?_eq_none (by rw [wipe_length]; omega), List.getElem?_eq_none (by rw [wipe_length]; omega)]
  · rw [ot q, ot q, a.2 k q, ot q]
theorem SlOk.addr {F : Fb} {a b : Addr} {x : Option V} {s : Sl} (n : isC s = false) (h : SlOk G F H a x s) : SlOk G F H b x s := by
  cases s with
  | o c => cases n
  | io c => cases n
  | n y => cases n
  | _ => exact h
/-- a list that is being made grows -/
theorem J.outer_write {p : Addr} {o o' : HO} (j : J G O ad env σ H) (hp : O p) (e : H p = some o) (m : (∃ xs, o = .lst xs) ∨ (∃ xs, o = .dK xs) ∨ (∃ xs, o = .dT xs) ∨ ∃ f, o = .ext f) (h0 : G.H0 p = none) : J G O ad env σ (upd H p o') where
  len := j.len
  inj := j.inj
  out := j.out
  outs := fun a z => by
    by_cases h : a = p
    · subst h; rw [upd_same]; exact fun q => nomatch q
    · rw [upd_ne h]; exact j.outs a z
  io := j.io
  ix := j.ix
  own := j.own
  mi := j.mi
  fr := fun a u h n => by
    by_cases q : a = p
    · subst q; rw [h0] at h; cases h
    · rw [upd_ne q]; exact j.fr a u h n
  at_ := fun i t ht => (j.at_ i t ht).keep (Kp.write e m (.inl hp)) fun c u hu => by
    rw [upd_ne fun z => j.out i t ht c (by rw [z]; exact hp)]; exact hu
end

/-! ### a list told by its turns -/
def compD (vs : List Nat) (g : Tg) (tt : M Bool) (me : M Val) : List D → Ev → List D → Option (List D × Ev)
  | [], env, acc => some (acc, env)
  | d :: ds, env, acc => (g d env).bind fun e1 => (tt e1).elim (fun b e2 => if b = true then (me e2).elim (fun val e3 => (asD e3 val).bind fun p => if acc.length < line then (wipeE vs p.2).bind fun e5 => compD vs g tt me ds e5 (acc ++ [p.1]) else none) (fun _ _ => none) none
      else (wipeE vs e2).bind fun e5 => compD vs g tt me ds e5 acc) (fun _ _ => none) none
def lcPair (vs : List Nat) (g : Tg) (tt : M Bool) (me : M Val) (items : List D) (e1 : Ev) : Option (List D × Ev) := ((wipeE vs e1).bind fun ew => compD vs g tt me items ew []).bind fun p => (restE vs e1 p.2).map fun e3 => (p.1, e3)
def mLc (vs : List Nat) (mi : M (List D)) (g : Tg) (tt : M Bool) (me : M Val) : M Val := fun env => (mi env).bind fun items e1 => (lcPair vs g tt me items e1).elim .bad fun p => .ok (.f (.lst p.1)) p.2
def lcBody (g : TG) (tt : TT) (te : TE) (vs : List Nat) (σ : L2.St) (Q : VK) (J : It) (H1 : Hp) : Prop := ∀ D, H1 D = none → ∃ W : Nat → Nat → Hp → Prop, (∃ m, W 0 m (upd H1 D (.lst []))) ∧ ∀ i m H, W i m H →
  (J.stop i H ∧ Q (.ref D) H) ∨ (J.go i H ∧ ∃ Nx : Hp → Prop, (∀ H', Nx H' → ∃ m', m' < m ∧ W (i + 1) m' H') ∧ ∀ x H', J.yld i H x H' → g x (wipe σ vs) H' fun σ2 H2 => wipe σ2 vs = wipe σ vs ∧ tt σ2 H2 fun b H3 =>
    if b = true then te σ2 H3 fun y H4 => ∃ acc, H4 D = some (.lst acc) ∧ acc.length < sizeLine ∧ Nx (upd H4 D (.lst (acc ++ [y]))) else Nx H3)
def NoX : WX := fun _ _ _ _ => False
theorem opt_bind_inv {α β γ : Type} {P : γ → Prop} {o : Option α} {f : α → Option β} {k : β → γ} {bad : γ} (h : P ((o.bind f).elim bad k)) (hb : P bad → False) : ∃ a, o = some a ∧ P ((f a).elim bad k) := by
  cases o with
  | some a => exact ⟨a, rfl, h⟩
  | none => exact (hb h).elim
section
variable {G : Ct} {W : WX} {vs : List Nat} {mi : M (List D)} {g : Tg} {tt : M Bool} {me : M Val}
theorem lc_body {wk : Bool} {O : Fb} {ad ad1 : Nat → Addr} {env env1 : Ev} {σ : L2.St} {H H1 : Hp} {Jt : It} {items : List D} {Q : VK} (j : J G O ad env σ H) (k1 : Kr O (Fo O env ad) (Fo O env1 ad1) H H1) (j1 : J G O ad1 env1 σ H1) (src : Src wk G.K O (Fo O env1 ad1) H1 Jt items)
    (p1 : PostE G W O ad env σ H Q ((lcPair vs g tt me items env1).elim .bad fun p => .ok (.f (.lst p.1)) p.2)) : lcBody (tGK wk G vs g) (tT G NoX tt) (tE G NoX me) vs σ Q Jt H1 := by
  have xs0 : ∀ {O1 : Fb} {ad1 : Nat → Addr} {env1 : Ev} {σ1 : L2.St} {H1 : Hp} {β : Type} {P : β → Prop} {kx : Ex → Ev → β} {kb : β}, (∀ x e', P (kx x e') → False) → (P kb → False) → Xs G NoX O1 ad1 env1 σ1 H1 P kx kb := fun h1 h2 => ⟨fun x e' z => (h1 x e' z).elim, h2⟩
  intro Dn hD
  have hDH : H Dn = none := k1.none hD
  have nO : ¬ O Dn := fun z => j1.outs _ z hD
  -- the end, told of a pair
  have p2 : ∃ pr : List D × Ev, (((wipeE vs env1).bind fun ew => compD vs g tt me items ew []).bind fun p => (restE vs env1 p.2).map fun e3 => (p.1, e3)) = some pr ∧ PostE G W O ad env σ H Q (.ok (.f (.lst pr.1)) pr.2) := opt_inv (P := PostE G W O ad env σ H Q) p1 fun z => z
  obtain ⟨⟨dsR, eR⟩, eAll, pR⟩ := p2
  cases ew : wipeE vs env1 with
  | none => rw [ew] at eAll; cases eAll
  | some envw =>
    rw [ew] at eAll
    simp only [Option.bind_some] at eAll
    cases ec : compD vs g tt me items envw [] with
    | none => rw [ec] at eAll; cases eAll
    | some pc =>
      obtain ⟨dsR', envE⟩ := pc
      rw [ec] at eAll
      simp only [Option.bind_some] at eAll
      cases er : restE vs env1 envE with
      | none => rw [er] at eAll; cases eAll
      | some e3 =>
        rw [er] at eAll
        cases eAll
        obtain ⟨jw, kw⟩ := j1.wipe ew
        have jw' : J G (Add O Dn) ad1 envw (wipe σ vs) (upd H1 Dn (.lst [])) := jw.laid hD
        -- the invariant
        refine ⟨fun i m H2 => m = items.length - i ∧ i ≤ items.length ∧ ∃ ad2 env2 acc, Kr O (Fo O env1 ad1) (Fo O env2 ad2) H1 H2 ∧ J G (Add O Dn) ad2 env2 (wipe σ vs) H2 ∧ ClOk G.K (Fo (Add O Dn) env2 ad2) H2 Dn (.lst acc) ∧ compD vs g tt me (items.drop i) env2 acc = some (dsR, envE),
          ⟨items.length, rfl, Nat.zero_le _, ad1, envw, [], ⟨⟨kw.kq.kp.trans (Kp.laid hD fun a z => .inl z), fun a o oa e => by rw [upd_ne (ne_of_none e hD)]; exact e⟩, fun a h => by
            by_cases q : a = Dn
            · subst q; exact (h hD).elim
            · rw [upd_ne q]; exact h⟩, jw', ⟨[], upd_same, .nil⟩, ec⟩, ?_⟩
        rintro i m H2 ⟨rfl, hle, ad2, env2, acc, k2, j2, x2, c2⟩
        have h0 : G.H0 Dn = none := (j.fresh hDH).2
        have kO : ∀ {env3 : Ev} {ad3 : Nat → Addr} {H3 : Hp}, Kr O (Fo O env1 ad1) (Fo O env3 ad3) H1 H3 → Kr O (Fo O env1 ad1) (Fo (Add O Dn) env3 ad3) H1 H3 := fun k => k.add hD fun a z => by
          rcases z with (z | z) | z
          · exact .inl (.inl z)
          · exact .inr z
          · exact .inl (.inr z)
        by_cases hlt : i < items.length
        · have hd : items[i]? = some items[i] := List.getElem?_eq_getElem hlt
          rw [List.drop_eq_getElem_cons hlt] at c2
          unfold compD at c2
          cases eg : g items[i] env2 with
          | none => rw [eg] at c2; cases c2
          | some e4 =>
            rw [eg] at c2
            simp only [Option.bind_some] at c2
            refine .inr ⟨src.go _ H2 i _ k2 hd, fun H' => ∃ ad4 env4 acc', Kr O (Fo O env1 ad1) (Fo O env4 ad4) H1 H' ∧ J G (Add O Dn) ad4 env4 (wipe σ vs) H' ∧ ClOk G.K (Fo (Add O Dn) env4 ad4) H' Dn (.lst acc') ∧ compD vs g tt me (items.drop (i + 1)) env4 acc' = some (dsR, envE), fun H' hh => ⟨items.length - (i + 1), by omega, rfl, hlt, hh⟩, fun x H3 y => ?_⟩
            obtain ⟨sm, r3⟩ := src.yld _ H2 i _ x H3 (kO k2) hd y
            refine ⟨Add O Dn, ad2, env2, items[i], j2.same sm, r3, ?_⟩
            rw [eg]
            intro ad3 σ3 H4 k3 j3 a3
            have x3 : ClOk G.K (Fo (Add O Dn) e4 ad3) H4 Dn (.lst acc) := (x2.keep (Kp.same sm) fun o e => sm _ _ e).keep k3.kq.kp fun o e => k3.kq.out _ _ (.inr rfl) e
            have kk3 : Kr O (Fo O env1 ad1) (Fo O e4 ad3) H1 H4 := (k2.trans (Kr.same sm)).trans (k3.less (fun a z => .inl z) j3)
            refine ⟨wipe_agr a3, ?_⟩
            have w3 := wipe_agr a3
            -- the test
            cases et : tt e4 with
            | bad => rw [et] at c2; cases c2
            | ex _ _ => rw [et] at c2; cases c2
            | ok b e5 =>
              rw [et] at c2
              simp only [R.elim_ok] at c2
              refine ⟨Add O Dn, ad3, e4, j3, ?_⟩
              rw [et]
              intro ad5 H5 k5 j5
              have x5 := x3.keep k5.kq.kp fun o e => k5.kq.out _ _ (.inr rfl) e
              have kk5 := kk3.trans (k5.less (fun a z => .inl z) j5)
              cases b with
              | false =>
                simp only [Bool.false_eq_true, if_false] at c2 ⊢
                cases e6 : wipeE vs e5 with
                | none => rw [e6] at c2; cases c2
                | some env6 =>
                  rw [e6] at c2
                  simp only [Option.bind_some] at c2
                  obtain ⟨j6, k6⟩ := j5.wipe e6
                  rw [w3] at j6
                  exact ⟨ad5, env6, acc, kk5.trans (k6.less (fun a z => .inl z) j6), j6, x5.keep k6.kq.kp fun _ e => e, c2⟩
              | true =>
                simp only [if_true] at c2 ⊢
                refine ⟨Add O Dn, ad5, e5, j5, ?_⟩
                cases ev : me e5 with
                | bad => rw [ev] at c2; cases c2
                | ex _ _ => rw [ev] at c2; cases c2
                | ok val e6 =>
                  rw [ev] at c2
                  simp only [R.elim_ok] at c2
                  intro ad6 v H6 k6 w6
                  cases ea : asD e6 val with
                  | none => rw [ea] at c2; cases c2
                  | some pd =>
                    obtain ⟨d, e7⟩ := pd
                    rw [ea] at c2
                    simp only [Option.bind_some] at c2
                    obtain ⟨j7, k7, r7⟩ := asD_val w6 ea
                    split at c2
                    · rename_i hl
                      cases e8 : wipeE vs e7 with
                      | none => rw [e8] at c2; cases c2
                      | some env8 =>
                        rw [e8] at c2
                        simp only [Option.bind_some] at c2
                        obtain ⟨vsA, eA, rA⟩ := x5
                        have eA6 : H6 Dn = some (.lst vsA) := k6.kq.out _ _ (.inr rfl) eA
                        obtain ⟨j8, k8⟩ := j7.wipe e8
                        rw [w3] at j8
                        have kw8 : Kp (Fo (Add O Dn) env8 ad6) (Fo (Add O Dn) env8 ad6) H6 (upd H6 Dn (.lst (vsA ++ [v]))) := Kp.write eA6 (.inl ⟨_, rfl⟩) (.inl (.inr rfl))
                        have j9 := j8.outer_write (o' := .lst (vsA ++ [v])) (.inr rfl) eA6 (.inl ⟨_, rfl⟩) h0
                        have rA6 : RelL G.K (Fo (Add O Dn) env8 ad6) H6 acc vsA := ((rA.keep k6.kq.kp).keep k7.kq.kp).keep k8.kq.kp
                        have r8 : Rel G.K (Fo (Add O Dn) env8 ad6) H6 d v := r7.keep k8.kq.kp
                        refine ⟨vsA, eA6, by rw [← rA.length, line_eq]; exact hl, ad6, env8, acc ++ [d], ?_, j9, ⟨vsA ++ [v], upd_same, (rA6.append (.cons r8 .nil)).keep kw8⟩, c2⟩
                        have kk8 : Kr O (Fo O env1 ad1) (Fo O env8 ad6) H1 H6 := kk5.trans (Kr.less (fun a z => .inl z) j8 ((k6.trans k7).trans k8))
                        refine ⟨⟨⟨fun a xs h => (kw8.tup a xs (kk8.kq.kp.tup a xs h)), fun a o u h => kw8.frz a o u (kk8.kq.kp.frz a o u h), fun a o h n => ?_⟩, fun a o oa e => ?_⟩, fun a h => ?_⟩
                        · have ne : a ≠ Dn := ne_of_none h hD
                          obtain ⟨h1, h2⟩ := kk8.kq.kp.obj a o h n
                          exact ⟨by rw [upd_ne ne]; exact h1, h2⟩
                        · rw [upd_ne (ne_of_none e hD)]; exact kk8.kq.out a o oa e
                        · by_cases q : a = Dn
                          · subst q; exact (h hD).elim
                          · rw [upd_ne q]; exact kk8.dom a h
                    · cases c2
        · have e : i = items.length := by omega
          subst e
          rw [List.drop_length] at c2
          obtain ⟨ea, ee⟩ := Prod.mk.inj (Option.some.inj c2)
          subst ea ee
          refine .inl ⟨src.stop _ H2 k2, ?_⟩
          have kk : Kp (Fo O env1 ad1) (Fo (Add O Dn) env2 ad2) H1 H2 := (kO k2).kq.kp
          obtain ⟨j9, k9⟩ := J.rest (env0 := env1) (σ := σ) j2 (fun v hv s es ns => ((j1.at_ v s es).keep kk fun q => by rw [ns] at q; cases q).addr ns) er
          rw [restS_wipe] at j9
          exact pR ad2 _ H2 (k1.trans (k2.trans (k9.less (fun a z => .inl z) j9))) ⟨Dn, rfl, hDH, nO, j9, x2.keep k9.kq.kp fun _ e => e⟩
theorem lc_imp {wk : Bool} {σ : L2.St} {H : Hp} {Q : VK} (h : tE G W (mLc vs mi g tt me) σ H Q) : tLc (tIt wk G W mi) (tGK wk G vs g) (tT G NoX tt) (tE G NoX me) vs σ H Q := by
  obtain ⟨O, ad, env, j, p⟩ := h
  exact mono_I (seqI (β := R Val) (P := PostE G W O ad env σ H Q) xsE (fun _ z => z) (Kr.refl O (Fo O env ad) H) j p) fun Jt H1 ⟨ad1, env1, items, k1, _, j1, src, p1⟩ => lc_body j k1 j1 src p1
end
section
variable {X : Cx} {G : Ct} {W : WX} {elt tg iter : Expr} {ifs : List Expr} {scope : Scope} {own : List (Str × Nat)} {pos : Pos} {mi : M (List D)} {g : Tg} {mt : M Bool} {me : M Val}
def mYes : M Bool := fun env => .ok true env
theorem ts_nil : PTs X [] (tT G W mYes) := ⟨fun pins s σ H Q I ⟨O, ad, env, j, p⟩ => pts_nil.run pins s σ H Q I (p ad H (Kr.refl _ _ _) j)⟩
theorem e_lc {wk : Bool} (hc : X.calm = true) (hN : X.N.Nodup) (hi : PI X tg iter (tIt wk G W mi)) (ok : blkC X.N X.env.scope scope own = true)
    (hg : ∀ (s : Shared) (H : Hp) (C : Addr) (cl : List (Str × Addr)) (fp : List Addr), PG (X.blk s H scope (compEnvC scope cl C X.env) fp) tg (tGK wk G (own.map (·.2)) g)) (ht : ∀ (s : Shared) (H : Hp) (C : Addr) (cl : List (Str × Addr)) (fp : List Addr), PTs (X.blk s H scope (compEnvC scope cl C X.env) fp) ifs (tT G NoX mt))
    (he : ∀ (s : Shared) (H : Hp) (C : Addr) (cl : List (Str × Addr)) (fp : List Addr), PE (X.blk s H scope (compEnvC scope cl C X.env) fp) elt (tE G NoX me)) (hs : ∀ x, foldedSetIterable iter X.env x = pure x := by intro _; rfl) :
    PE X (.ListComp elt [⟨tg, iter, ifs, 0⟩] scope pos) (tE G W (mLc (own.map (·.2)) mi g mt me)) := imp_E (pe_lc hc hN hi (blkOk_by ok) hg ht he hs) fun σ H Q h => lc_imp h
theorem s_setLc {wk : Bool} {i : Nat} {y : Str} {py spos : Pos} (hc : X.calm = true) (hN : X.N.Nodup) (hy : X.N[i]? = some y) (hyl : X.env.scope.names.lookup y = some .local)
    (hsw : swapsWith (.ListComp elt [⟨tg, iter, ifs, 0⟩] scope pos) (some (.Name y py)) spos.line X.env = pure true) (hi : PI X tg iter (tIt wk G W mi)) (ok : blkC X.N X.env.scope scope own = true)
    (hg : ∀ (s : Shared) (H : Hp) (C : Addr) (cl : List (Str × Addr)) (fp : List Addr), PG (X.blk s H scope (compEnvC scope cl C X.env) fp) tg (tGK wk G (own.map (·.2)) g)) (ht : ∀ (s : Shared) (H : Hp) (C : Addr) (cl : List (Str × Addr)) (fp : List Addr), PTs (X.blk s H scope (compEnvC scope cl C X.env) fp) ifs (tT G NoX mt))
    (he : ∀ (s : Shared) (H : Hp) (C : Addr) (cl : List (Str × Addr)) (fp : List Addr), PE (X.blk s H scope (compEnvC scope cl C X.env) fp) elt (tE G NoX me)) (hs : ∀ x, foldedSetIterable iter X.env x = pure x := by intro _; rfl) :
    PS X (.Assign [.Name y py] (.ListComp elt [⟨tg, iter, ifs, 0⟩] scope pos) spos) (tS G W (mSet i (mLc (own.map (·.2)) mi g mt me))) :=
  imp_S (ps_setLc hc hN hy hyl hsw hi (blkOk_by ok) hg ht he hs) fun E σ H ⟨O, ad, env, j, p⟩ => by
    refine lc_imp (Q := fun x H1 => E.nx (σ.set i (some x)) H1) (W := W) ?_
    refine mono_E (seqE (β := Out) (P := PostS G W O ad env H E) xsS (fun _ z => z) (Kr.refl O (Fo O env ad) H) j p) fun x H1 ⟨ad2, env2, val2, k2, k3, w2, q2⟩ => ?_
    obtain ⟨e3, e4, q3⟩ := opt_inv (P := PostS G W O ad env H E) q2 fun z => z
    obtain ⟨ad3, k4, j4⟩ := store_ok (fun p np => (j.fresh np).2) k2 w2 e4
    exact q3 ad3 _ H1 k4 j4
end
end Nb
namespace Nb
open L2 PySem PySem.Spec PyProof.Rows

/-! ### a list that a name holds is written -/
section
variable {G : Ct} {O : Fb} {ad : Nat → Addr} {env : Ev} {σ : L2.St} {H : Hp} {i : Nat} {s t : Sl}
theorem fo_same (e : env[i]? = some s) (c : isC s = true) : ∀ a, Fo O (env.set i t) ad a → Fo O env ad a := fun a z => by
  rcases z with z | ⟨k, s', e', c', z⟩
  · exact .inl z
  · rcases get_set_sl e' with ⟨q, _, _⟩ | ⟨_, e'⟩
    · exact .inr ⟨i, s, e, c, by rw [← z, q]⟩
    · exact .inr ⟨k, s', e', c', z⟩
theorem J.cell {o o' : HO} (j : J G O ad env σ H) (e : env[i]? = some s) (c : isC s = true) (ct : isC t = true) (io : isIo t = isIo s) (eo : H (ad i) = some o) (m : (∃ xs, o = .lst xs) ∨ (∃ xs, o = .dK xs) ∨ (∃ xs, o = .dT xs) ∨ ∃ f, o = .ext f)
    (x' : SlOk G (Fo O (env.set i t) ad) (upd H (ad i) o') (ad i) (σ.getD i none) t) : J G O ad (env.set i t) σ (upd H (ad i) o') ∧ Kr O (Fo O env ad) (Fo O (env.set i t) ad) H (upd H (ad i) o') := by
  have fi : Fo O env ad (ad i) := .inr ⟨i, s, e, c, rfl⟩
  have kp : Kp (Fo O env ad) (Fo O (env.set i t) ad) H (upd H (ad i) o') := (Kp.write eo m fi).trans (Kp.weak (fo_same e c))
  have nO : ¬ O (ad i) := j.out i s e c
  have isc : ∀ {k s'}, (env.set i t)[k]? = some s' → isC s' = true → ∃ s'', env[k]? = some s'' ∧ isC s'' = true := fun {k s'} q cq => by
    rcases get_set_sl q with ⟨h, _, _⟩ | ⟨_, q⟩
    · rw [h]; exact ⟨s, e, c⟩
    · exact ⟨s', q, cq⟩
  refine ⟨⟨by rw [List.length_set]; exact j.len, fun a b s1 s2 e1 c1 e2 c2 h => ?_, fun a s1 e1 c1 => ?_, fun a z => ?_, fun a c1 e1 => ?_, fun a => ?_, fun a c1 e1 cc ci => ?_, j.mi, fun a u h n => ?_, fun a s1 e1 => ?_⟩, ⟨kp, fun a u oa h => ?_⟩, fun a h => ?_⟩
  · obtain ⟨t1, f1, d1⟩ := isc e1 c1
    obtain ⟨t2, f2, d2⟩ := isc e2 c2
    exact j.inj a b t1 t2 f1 d1 f2 d2 h
  · obtain ⟨t1, f1, d1⟩ := isc e1 c1
    exact j.out a t1 f1 d1
  · rw [upd_ne fun q => nO (by rw [← q]; exact z)]; exact j.outs a z
  · rcases get_set_sl e1 with ⟨rfl, q, _⟩ | ⟨_, q⟩
    · have : isIo s = true := by rw [← io, ← q]; rfl
      cases s with
      | io c2 => exact j.io a c2 e
      | _ => cases this
    · exact j.io a c1 q
  · rw [j.ix a]
    constructor
    · rintro ⟨c1, q⟩
      by_cases h : i = a
      · subst h
        rw [e] at q
        cases q
        have : isIo t = true := io
        cases t with
        | io c2 => exact ⟨c2, List.getElem?_set_self (List.getElem?_eq_some_iff.mp e).1⟩
        | _ => cases this
      · exact ⟨c1, by rw [List.getElem?_set_ne h]; exact q⟩
    · rintro ⟨c1, q⟩
      rcases get_set_sl q with ⟨rfl, q, _⟩ | ⟨_, q⟩
      · have : isIo s = true := by rw [← io, ← q]; rfl
        cases s with
        | io c2 => exact ⟨c2, e⟩
        | _ => cases this
      · exact ⟨c1, q⟩
  · rcases get_set_sl e1 with ⟨rfl, q, _⟩ | ⟨_, q⟩
    · have : isIo s = false := by rw [← io, ← q]; exact ci
      exact j.own a s e c this
    · exact j.own a c1 q cc ci
  · rw [upd_ne fun q => ?_]
    · exact j.fr a u h n
    · subst q
      cases s with
      | o c2 => rw [j.own i _ e rfl rfl] at h; cases h
      | n c2 => rw [j.own i _ e rfl rfl] at h; cases h
      | io c2 => exact n ((j.mi _).mpr ⟨i, (j.ix i).mpr ⟨c2, e⟩, (j.io i c2 e).symm⟩)
      | _ => cases c
  · rcases get_set_sl e1 with ⟨rfl, rfl, _⟩ | ⟨n1, q⟩
    · exact x'
    · exact (j.at_ a s1 q).keep kp fun c1 u h => by rw [upd_ne fun z => n1 (j.inj a i s1 s q c1 e c z)]; exact h
  · rw [upd_ne fun q => nO (by rw [← q]; exact oa)]; exact h
  · by_cases q : a = ad i
    · subst q; rw [upd_same]; exact fun z => nomatch z
    · rw [upd_ne q]; exact h
end
def putC (s : Sl) (c : Cl) : Sl := match s with
  | .io _ => .io c
  | _ => .o c
/-- a list that a name holds, and what becomes of it -/
def apMut (i : Nat) (f : List D → List D → Option (D × List D)) (env : Ev) (args : List D) : R Val := match env[i]? with
  | some (.o (.lst ds)) => match f ds args with
    | some (r, ds') => .ok (.d r) (env.set i (.o (.lst ds')))
    | none => .bad
  | some (.io (.lst ds)) => match f ds args with
    | some (r, ds') => .ok (.d r) (env.set i (.io (.lst ds')))
    | none => .bad
  | _ => .bad
def mMut (i : Nat) (f : List D → List D → Option (D × List D)) (ms : M (List Val)) : M Val := fun env => match env[i]? with
  | some (.o (.lst _)) => (ms env).bind fun vals e1 => (asDs e1 vals).elim .bad fun p => apMut i f p.2 p.1
  | some (.io (.lst _)) => (ms env).bind fun vals e1 => (asDs e1 vals).elim .bad fun p => apMut i f p.2 p.1
  | _ => .bad
theorem apMut_inv {i : Nat} {f : List D → List D → Option (D × List D)} {env : Ev} {args : List D} {P : R Val → Prop} (h : P (apMut i f env args)) (hb : P .bad → False) :
    ∃ ds r ds' s t, env[i]? = some s ∧ isC s = true ∧ isC t = true ∧ isIo t = isIo s ∧ (s = .o (.lst ds) ∧ t = .o (.lst ds') ∨ s = .io (.lst ds) ∧ t = .io (.lst ds')) ∧ f ds args = some (r, ds') ∧ P (.ok (.d r) (env.set i t)) := by
  unfold apMut at h
  split at h
  · rename_i ds e
    split at h
    · rename_i r0 ds1 hh
      exact ⟨ds, r0, ds1, .o (.lst ds), .o (.lst ds1), e, rfl, rfl, rfl, .inl ⟨rfl, rfl⟩, hh, h⟩
    · exact (hb h).elim
  · rename_i ds e
    split at h
    · rename_i r0 ds1 hh
      exact ⟨ds, r0, ds1, .io (.lst ds), .io (.lst ds1), e, rfl, rfl, rfl, .inr ⟨rfl, rfl⟩, hh, h⟩
    · exact (hb h).elim
  · exact (hb h).elim
theorem mMut_inv {i : Nat} {f : List D → List D → Option (D × List D)} {ms : M (List Val)} {env : Ev} {P : R Val → Prop} (h : P (mMut i f ms env)) (hb : P .bad → False) :
    ∃ s ds, env[i]? = some s ∧ (s = .o (.lst ds) ∨ s = .io (.lst ds)) ∧ P ((ms env).bind fun vals e1 => (asDs e1 vals).elim .bad fun p => apMut i f p.2 p.1) := by
  unfold mMut at h
  split at h
  · exact ⟨_, _, by assumption, .inl rfl, h⟩
  · exact ⟨_, _, by assumption, .inr rfl, h⟩
  · exact (hb h).elim
def OpM (K : PySem.W.Frag) (f : List D → List D → Option (D × List D)) (r : V → List V → Hp → VK → Prop) : Prop := ∀ (F : Fb) (H : Hp) (l : Addr) (xs vs : List V) (ds args ds' : List D) (res : D) (Q : VK), H l = some (.lst xs) → RelL K F H ds xs → RelL K F H args vs → f ds args = some (res, ds') →
  (∀ v xs', RelL K F H ds' xs' → Rel K F H res v → Q v (upd H l (.lst xs'))) → r (.ref l) vs H Q
section
variable {X : Cx} {G : Ct} {W : WX} {e : Expr} {es : List Expr} {ms : M (List Val)} {pos p apos cpos : Pos} {id : String} {name : Str} {r : V → List V → Hp → VK → Prop} {f : List D → List D → Option (D × List D)}
theorem getD_some {σ : L2.St} {i : Nat} {v : V} (z : σ.getD i none = some v) : σ[i]? = some (some v) := by
  rw [List.getD_eq_getElem?_getD] at z
  cases q : σ[i]? with
  | none => rw [q] at z; cases z
  | some u => rw [q] at z; cases z; rfl
/-- the written list, told -/
theorem mut_end {O O2 : Fb} {ad ad2 : Nat → Addr} {env env2 : Ev} {σ : L2.St} {H H1 : Hp} {i : Nat} {vals : List Val} {vs : List V} {Q : VK} {p : Addr} (hM : OpM G.K f r) (h1 : ∀ a, O a → O2 a)
    (k2 : Kr O (Fo O env ad) (Fo O env2 ad2) H H1) (j2 : J G O2 ad2 env2 σ H1) (w2 : ValsOk G O O2 ad2 env2 σ H1 vals vs) (hp : σ.getD i none = some (.ref p))
    (q : PostE G W O ad env σ H Q ((asDs env2 vals).elim .bad fun p => apMut i f p.2 p.1)) : r (.ref p) vs H1 Q := by
  obtain ⟨⟨args, env3⟩, ea, q⟩ := opt_inv (P := PostE G W O ad env σ H Q) q fun z => z
  obtain ⟨j3, _, k3, r3⟩ := asDs_ok h1 j2 w2 ea
  have j3 := j3.less h1
  obtain ⟨ds, res, ds', s, t, es, cs, ct, io, hst, ef, q⟩ := apMut_inv (P := PostE G W O ad env σ H Q) q fun z => z
  have z := j3.at_ i s es
  have z' : (σ.getD i none = some (.ref (ad2 i))) ∧ ClOk G.K (Fo O env3 ad2) H1 (ad2 i) (.lst ds) := by
    rcases hst with ⟨rfl, rfl⟩ | ⟨rfl, rfl⟩
    · exact z
    · exact z
  obtain ⟨e1, xs, e2, rx⟩ := z'
  rw [hp] at e1
  cases e1
  refine hM (Fo O env3 ad2) H1 _ xs vs ds args ds' res Q e2 rx r3 ef fun v xs' rx' rv => ?_
  have kp : Kp (Fo O env3 ad2) (Fo O (env3.set i t) ad2) H1 (upd H1 (ad2 i) (.lst xs')) := (Kp.write e2 (.inl ⟨_, rfl⟩) (.inr ⟨i, s, es, cs, rfl⟩)).trans (Kp.weak (fo_same es cs))
  obtain ⟨j4, k4⟩ := j3.cell (t := t) (o' := .lst xs') es cs ct io e2 (.inl ⟨_, rfl⟩) (by
    rcases hst with ⟨rfl, rfl⟩ | ⟨rfl, rfl⟩
    · exact ⟨hp, xs', upd_same, rx'.keep kp⟩
    · exact ⟨hp, xs', upd_same, rx'.keep kp⟩)
  exact q ad2 v _ ((k2.trans k3).trans k4) ⟨j4, rv.keep kp⟩
theorem e_mut (i : Nat) {x : Str} (slot : Slot "list" name id) (hty : typeOf (.builtin id) = pure (.type "method_descriptor")) (hm : MtR X id r) (hM : OpM G.K f r) (ha : PA X (e :: es) (tA G W ms)) (hN : X.N[i]? = some x := by rfl) (hv : Vis X.env.scope x := by first | exact Or.inl rfl | exact Or.inr (Or.inl rfl) | exact Or.inr (Or.inr rfl))
    (hd : (x == ("__debug__" : Str)) = false := by decide) (hcd : (x == ("__classdict__" : Str)) = false := by decide)
    (hbase : attributeBase (.Name x p) name X.env (eval (.Name x p) X.env) = eval (.Name x p) X.env := by rfl)
    (hfew : ((backTo cpos (starEach (e :: es) X.env)).all (fun x => !x.1) && (backToKw cpos (keywordEach [] X.env)).all (fun x => x.1.isSome)
      && decide ((e :: es).length + ([] : List Keyword).length + (if ([] : List Keyword).isEmpty then 0 else 1) < 30)) = true := by rfl)
    (hline : (apos.endLine == cpos.line) = true := by rfl) (hs : starEach (e :: es) X.env = (false, eval e X.env) :: starEach es X.env := by rfl) (hplain : (backTo cpos (starEach es X.env)).any (·.1) = false := by rfl) :
    PE X (.Call (.Attribute (.Name x p) name apos) (e :: es) [] cpos) (tE G W (mMut i f ms)) :=
  imp_E (pe_bm F.plainAttrs_list slot hty hm (pe_var hN hv hd hcd) ha hbase hfew hline hs hplain) fun σ H Q ⟨O, ad, env, j, q⟩ => by
    obtain ⟨s, ds, es, hs, q⟩ := mMut_inv (P := PostE G W O ad env σ H Q) q fun z => z
    have z : σ.getD i none = some (.ref (ad i)) ∧ ClOk G.K (Fo O env ad) H (ad i) (.lst ds) := by
      rcases hs with rfl | rfl
      · exact j.at_ i _ es
      · exact j.at_ i _ es
    obtain ⟨e1, xs, e2, _⟩ := z
    refine ⟨_, getD_some e1, .inl ⟨rfl, xs, .inl (.inl e2)⟩, ?_⟩
    refine mono_A (seqA (β := R Val) (P := PostE G W O ad env σ H Q) xsE (fun _ z => z) (Kr.refl O (Fo O env ad) H) j q) fun vs H1 ⟨O2, ad2, env2, vals, h1, h2, k2, k3, j2, w2, q2⟩ => mut_end hM h1 k2 j2 w2 e1 q2
theorem e_mut0 (i : Nat) {x : Str} (slot : Slot "list" name id) (hty : typeOf (.builtin id) = pure (.type "method_descriptor")) (hm : MtR X id r) (hM : OpM G.K f r) (hN : X.N[i]? = some x := by rfl) (hv : Vis X.env.scope x := by first | exact Or.inl rfl | exact Or.inr (Or.inl rfl) | exact Or.inr (Or.inr rfl))
    (hd : (x == ("__debug__" : Str)) = false := by decide) (hcd : (x == ("__classdict__" : Str)) = false := by decide)
    (hbase : attributeBase (.Name x p) name X.env (eval (.Name x p) X.env) = eval (.Name x p) X.env := by rfl) (hline : (apos.endLine == cpos.line) = true := by rfl) :
    PE X (.Call (.Attribute (.Name x p) name apos) [] [] cpos) (tE G W (mMut i f mNil)) :=
  imp_E (pe_bm0 F.plainAttrs_list slot hty hm (pe_var hN hv hd hcd) hbase hline) fun σ H Q ⟨O, ad, env, j, q⟩ => by
    obtain ⟨s, ds, es, hs, q⟩ := mMut_inv (P := PostE G W O ad env σ H Q) q fun z => z
    have z : σ.getD i none = some (.ref (ad i)) ∧ ClOk G.K (Fo O env ad) H (ad i) (.lst ds) := by
      rcases hs with rfl | rfl
      · exact j.at_ i _ es
      · exact j.at_ i _ es
    obtain ⟨e1, xs, e2, _⟩ := z
    exact ⟨_, getD_some e1, .inl ⟨rfl, xs, .inl (.inl e2)⟩, mut_end hM (fun _ z => z) (Kr.refl _ _ _) j (vals := []) trivial e1 q⟩
/-! ### name[i] = value -/
def putAt (k : Nat) (n : Int) (d : D) (env : Ev) : Option Ev := match env[k]? with
  | some (.o (.lst ds)) => (ixN ds.length n).map fun j => env.set k (.o (.lst (ds.set j d)))
  | some (.io (.lst ds)) => (ixN ds.length n).map fun j => env.set k (.io (.lst (ds.set j d)))
  | _ => none
def isL (s : Option Sl) : Bool := match s with
  | some (.o (.lst _)) => true
  | some (.io (.lst _)) => true
  | _ => false
def gPut (k : Nat) (mi : M Val) : Tg := fun d env => if isL env[k]? = true then (mi env).elim (fun a e1 => match view e1 a with
  | some (.int n) => putAt k n d e1
  | _ => none) (fun _ _ => none) none else none
theorem isL_inv {o : Option Sl} (h : isL o = true) : ∃ s ds, o = some s ∧ (s = .o (.lst ds) ∨ s = .io (.lst ds)) := by
  unfold isL at h
  split at h
  · exact ⟨_, _, rfl, .inl rfl⟩
  · exact ⟨_, _, rfl, .inr rfl⟩
  · cases h
theorem putAt_inv {k : Nat} {n : Int} {d : D} {env e' : Ev} (h : putAt k n d env = some e') : ∃ ds j s t, env[k]? = some s ∧ isC s = true ∧ isC t = true ∧ isIo t = isIo s ∧ (s = .o (.lst ds) ∧ t = .o (.lst (ds.set j d)) ∨ s = .io (.lst ds) ∧ t = .io (.lst (ds.set j d))) ∧ ixN ds.length n = some j ∧ e' = env.set k t := by
  unfold putAt at h
  split at h
  · rename_i ds e
    cases q : ixN ds.length n with
    | none => rw [q] at h; cases h
    | some j => rw [q] at h; cases h; exact ⟨ds, j, .o (.lst ds), .o (.lst (ds.set j d)), e, rfl, rfl, rfl, .inl ⟨rfl, rfl⟩, q, rfl⟩
  · rename_i ds e
    cases q : ixN ds.length n with
    | none => rw [q] at h; cases h
    | some j => rw [q] at h; cases h; exact ⟨ds, j, .io (.lst ds), .io (.lst (ds.set j d)), e, rfl, rfl, rfl, .inr ⟨rfl, rfl⟩, q, rfl⟩
  · cases h
end
def fAppend : List D → List D → Option (D × List D)
  | ds, [d] => if ds.length < line then some (.none, ds ++ [d]) else none
  | _, _ => none
def fPop : List D → List D → Option (D × List D)
  | ds, [] => (ds[ds.length - 1]?).map fun d => (d, ds.dropLast)
  | _, _ => none
def fPopAt : List D → List D → Option (D × List D)
  | ds, [.int i] => if -(2 ^ 63) ≤ i ∧ i < 2 ^ 63 then (seqIndex? i ds.length).bind fun k => (ds[k]?).map fun d => (d, ds.eraseIdx k) else none
  | _, _ => none
def fInsert : List D → List D → Option (D × List D)
  | ds, [.int i, d] => if ds.length < line ∧ 0 ≤ i ∧ i < 2 ^ 63 then some (.none, ds.take i.toNat ++ [d] ++ ds.drop i.toNat) else none
  | _, _ => none
section
variable {K : PySem.W.Frag}
theorem m_append : OpM K fAppend rAppend := fun F H l xs vs ds args ds' res Q e rx ra ef q => by
  unfold fAppend at ef
  split at ef
  · split at ef
    · rename_i hl
      cases ef
      cases ra with
      | cons r rr =>
        cases rr
        exact ⟨l, xs, _, rfl, rfl, e, by rw [← rx.length, line_eq]; exact hl, q _ _ (rx.append (.cons r .nil)) .non⟩
    · cases ef
  · cases ef
theorem m_pop : OpM K fPop rPop := fun F H l xs vs ds args ds' res Q e rx ra ef q => by
  unfold fPop at ef
  split at ef
  · cases hd : ds[ds.length - 1]? with
    | none => rw [hd] at ef; cases ef
    | some d =>
      rw [hd] at ef
      cases ef
      cases ra
      obtain ⟨v, ev, rv⟩ := rx.get hd
      rw [rx.length] at ev
      exact ⟨l, xs, v, rfl, rfl, e, ev, q _ _ rx.dropLast rv⟩
  · cases ef
theorem m_popAt : OpM K fPopAt rPopAt := fun F H l xs vs ds args ds' res Q e rx ra ef q => by
  unfold fPopAt at ef
  split at ef
  · split at ef
    · rename_i i hi
      cases hk : seqIndex? i ds.length with
      | none => rw [hk] at ef; cases ef
      | some k =>
        rw [hk] at ef
        simp only [Option.bind_some] at ef
        cases hd : ds[k]? with
        | none => rw [hd] at ef; cases ef
        | some d =>
          rw [hd] at ef
          cases ef
          cases ra with
          | cons r rr =>
            cases rr
            rw [r.toInt]
            obtain ⟨v, ev, rv⟩ := rx.get hd
            rw [rx.length] at hk
            exact ⟨l, xs, i, k, v, rfl, rfl, e, hi.1, hi.2, hk, ev, q _ _ (rx.eraseIdx k) rv⟩
    · cases ef
  · cases ef
theorem m_insert : OpM K fInsert (fun x vs H Q => ∃ (l : Addr) (xs : List V) (i : Int) (y : V), x = .ref l ∧ vs = [.int i, y] ∧ H l = some (.lst xs) ∧ xs.length < sizeLine ∧ 0 ≤ i ∧ i < 2 ^ 63 ∧
    Q .non (upd H l (.lst (xs.take i.toNat ++ [y] ++ xs.drop i.toNat)))) := fun F H l xs vs ds args ds' res Q e rx ra ef q => by
  unfold fInsert at ef
  split at ef
  · split at ef
    · rename_i i d hi
      cases ef
      cases ra with
      | cons r rr =>
        cases rr with
        | cons r' rr =>
          cases rr
          rw [r.toInt]
          exact ⟨l, xs, i, _, rfl, rfl, e, by rw [← rx.length, line_eq]; exact hi.1, hi.2.1, hi.2.2, q _ _ (((rx.take _).append (.cons r' .nil)).append (rx.drop _)) .non⟩
    · cases ef
  · cases ef
end
section
variable {X : Cx} {G : Ct} {W : WX} {io : Expr} {mi : M Val} {pos p : Pos}
theorem g_put (k : Nat) {x : Str} {T : List Nat} (hi : PE X io (tE G NoX mi)) (hN : X.N[k]? = some x := by rfl) (hv : Vis X.env.scope x := by first | exact Or.inl rfl | exact Or.inr (Or.inl rfl) | exact Or.inr (Or.inr rfl)) (hd : (x == ("__debug__" : Str)) = false := by decide) (hcd : (x == ("__classdict__" : Str)) = false := by decide)
    (ha : ∀ v, assign (.Subscript (.Name x p) io pos) X.env v = (do
      let ov ← holding [v] (eval (.Name x p) X.env)
      let iv ← holding [v, ov] (eval io X.env)
      standAt pos
      holding [v, ov, iv] (setItem ov iv v)
      release [v, ov, iv] []) := by intro _; rfl) : PG X (.Subscript (.Name x p) io pos) (tG G T (gPut k mi)) :=
  imp_G (pg_sub (pe_var hN hv hd hcd) hi set_list ha) fun v σ H Q ⟨O, ad, env, d, j, r, q⟩ => by
    unfold gPut at q
    split at q
    · rename_i e' eg
      split at eg
      · rename_i hl
        obtain ⟨s, ds, es, hs⟩ := isL_inv hl
        have z : σ.getD k none = some (.ref (ad k)) ∧ ClOk G.K (Fo O env ad) H (ad k) (.lst ds) := by
          rcases hs with rfl | rfl
          · exact j.at_ k _ es
          · exact j.at_ k _ es
        obtain ⟨e1, _⟩ := z
        refine ⟨_, getD_some e1, O, ad, env, j, ?_⟩
        cases em : mi env with
        | bad => rw [em] at eg; cases eg
        | ex _ _ => rw [em] at eg; cases eg
        | ok a env2 =>
          rw [em] at eg
          simp only [R.elim_ok] at eg
          intro ad2 u H2 k2 w2
          have j2 := w2.j
          have b2 := w2.vb (B := fun _ => False) fun _ z => z.elim
          split at eg
          · rename_i n ev
            have hu := (b2.view j2 ev).toInt
            subst hu
            have j3 := j2.less (valO_le a (V.int n))
            obtain ⟨ds', jx, s', t, es', cs, ct, io, hst, hx, rfl⟩ := putAt_inv eg
            have z2 : σ.getD k none = some (.ref (ad2 k)) ∧ ClOk G.K (Fo O env2 ad2) H2 (ad2 k) (.lst ds') := by
              rcases hst with ⟨rfl, _⟩ | ⟨rfl, _⟩
              · exact j3.at_ k _ es'
              · exact j3.at_ k _ es'
            obtain ⟨f1, xs, f2, rx⟩ := z2
            have f1' := f1
            rw [e1] at f1
            have ep : ad k = ad2 k := by injection f1 with f1; injection f1
            rw [ep]
            rw [rx.length] at hx
            refine ⟨_, xs, n, jx, rfl, rfl, f2, hx, ?_⟩
            have kp : Kp (Fo O env2 ad2) (Fo O (env2.set k t) ad2) H2 (upd H2 (ad2 k) (.lst (xs.set jx v))) := (Kp.write f2 (.inl ⟨_, rfl⟩) (.inr ⟨k, s', es', cs, rfl⟩)).trans (Kp.weak (fo_same es' cs))
            have rr : RelL G.K (Fo O (env2.set k t) ad2) (upd H2 (ad2 k) (.lst (xs.set jx v))) (ds'.set jx d) (xs.set jx v) := ((RelL.set (r.keep k2.kq.kp) jx rx)).keep kp
            obtain ⟨j4, k4⟩ := j3.cell (t := t) (o' := .lst (xs.set jx v)) es' cs ct io f2 (.inl ⟨_, rfl⟩) (by
              rcases hst with ⟨_, rfl⟩ | ⟨_, rfl⟩
              · exact ⟨f1', _, upd_same, rr⟩
              · exact ⟨f1', _, upd_same, rr⟩)
            exact q ad2 σ _ (k2.trans k4) j4 (.refl _ _)
          · cases eg
      · cases eg
    · exact q.elim
end
end Nb
namespace Nb
open L2 PySem PySem.Spec PyProof.Rows

/-! ### a < b < c -/
section
variable {X : Cx} {G : Ct} {W : WX} {a b c : Expr} {ma mb mc : M Val} {pos : Pos} {g g' : D → D → Option Val} {r r' : R2} {op op' : CmpOp}
theorem ap2_inv {g : D → D → Option Val} {env : Ev} {a b : Val} {β : Type} {P : β → Prop} {k : Val → Ev → β} {kx : Ex → Ev → β} {kb : β} (h : P ((ap2 g env a b).elim k kx kb)) (hb : P kb → False) : ∃ d e res, view env a = some d ∧ view env b = some e ∧ g d e = some res ∧ P (k res env) := by
  unfold ap2 at h
  split at h
  · split at h
    · exact ⟨_, _, _, by assumption, by assumption, by assumption, h⟩
    · exact (hb h).elim
  · exact (hb h).elim
theorem three (hr : Op2 G.K g r) (hr' : Op2 G.K g' r') {σ : L2.St} {H : Hp} {Q : VK} (h : tE G W (m3 g g' ma mb mc) σ H Q) : tChain r r' (tE G W ma) (tE G W mb) (tE G W mc) σ H Q := by
  obtain ⟨O, ad, env, j, p⟩ := h
  refine mono_E (seqE (β := R Val) (P := PostE G W O ad env σ H Q) xsE (fun _ z => z) (Kr.refl O (Fo O env ad) H) j p) fun x H1 ⟨ad2, env2, val2, k2, k3, w2, q2⟩ => ?_
  refine mono_E (seqE (β := R Val) (P := PostE G W O ad env σ H Q) xsE (valO_le val2 x) k2 w2.j q2) fun y H4 ⟨ad5, env5, val5, k5, k6, w5, q5⟩ => ?_
  have jj := w5.j
  have b1 := (w2.vb (B := fun _ => False) fun _ z => z.elim).later k6 w5
  have b2 := w5.vb (B := fun _ => False) fun _ z => z.elim
  obtain ⟨d, e, res, e1, e2, e3, q6⟩ := ap2_inv (β := R Val) (P := PostE G W O ad env σ H Q) q5 fun z => z
  have hO : ∀ a, O a → valO (valO O val2 x) val5 y a := fun a z => valO_le _ _ _ (valO_le _ _ _ z)
  refine hr _ H4 x y d e res _ jj.fo (b1.view jj e1) (b2.view jj e2) e3 fun v H5 n => ?_
  obtain ⟨k, ev, q7⟩ := boolV_inv (P := PostE G W O ad env σ H Q) q6 fun z => z
  have nk : Same H4 H5 ∧ v = .bl k := by
    cases res with
    | s i => exact n.elim
    | d d' =>
      cases ev
      exact ⟨n.1, n.2.toBl⟩
    | f c' =>
      cases c' <;> cases ev
  obtain ⟨sm, rfl⟩ := nk
  refine ⟨k, rfl, ?_⟩
  cases k with
  | false => exact iteF (q7 ad5 _ H5 (k5.trans (Kr.same sm)) ⟨(jj.same sm).less hO, .bl _⟩)
  | true =>
    refine iteT ?_
    refine mono_E (seqE (β := R Val) (P := PostE G W O ad env σ H Q) xsE hO (k5.trans (Kr.same sm)) (jj.same sm) q7) fun z H8 ⟨ad9, env9, val9, k9, k10, w9, q9⟩ => ?_
    have j9 := w9.j
    have b3 := (b2.keep (O' := valO (valO O val2 x) val5 y) (Kp.same sm) (fun a o _ e => sm a o e) fun _ z => z).later k10 w9
    have b4 := w9.vb (B := fun _ => False) fun _ z => z.elim
    obtain ⟨d', e', res', f1, f2, f3, q10⟩ := ap2_inv (β := R Val) (P := PostE G W O ad env σ H Q) (k := .ok) (kx := .ex) (kb := .bad) (by
      cases h9 : ap2 g' env9 val5 val9 with
      | ok _ _ => rw [h9] at q9; exact q9
      | ex _ _ => rw [h9] at q9; exact q9
      | bad => rw [h9] at q9; exact q9) fun z => z
    exact hr' _ H8 y z d' e' res' Q j9.fo (b3.view j9 f1) (b4.view j9 f2) f3 fun v H' n => finE (fun a h => valO_le _ _ _ (hO a h)) k9 j9 q10 n
theorem e_chain (ho : OpR X (compareOp op) r) (ho' : OpR X (compareOp op') r') (hr : Op2 G.K g r) (hr' : Op2 G.K g' r') (ha : PE X a (tE G W ma)) (hb : PE X b (tE G W mb)) (hc : PE X c (tE G W mc)) (hm : lastMarks [op, op'] [b, c] = false := by with_unfolding_all rfl) :
    PE X (.Compare a [op, op'] [b, c] pos) (tE G W (m3 g g' ma mb mc)) := imp_E (pe_chain ho ho' ha hb hc hm) fun _ _ _ h => three hr hr' h
/-- as a test -/
def mTst (m : M Val) : M Bool := fun env => (m env).bind fun a e1 => match view e1 a with
  | some (.bool b) => .ok b e1
  | _ => .bad
theorem tst {σ : L2.St} {H : Hp} {Q : Bool → Hp → Prop} {m : M Val} (h : tT G W (mTst m) σ H Q) : tE G W m σ H fun x H' => ∃ k, x = .bl k ∧ Q k H' := by
  obtain ⟨O, ad, env, j, p⟩ := h
  refine mono_E (seqE (β := R Bool) (P := PostT G W O ad env σ H Q) xsT (fun _ z => z) (Kr.refl O (Fo O env ad) H) j p) fun x H1 ⟨ad2, env2, val2, k2, k3, w2, q2⟩ => ?_
  split at q2
  · rename_i b e1
    exact ⟨b, ((w2.vb (B := fun _ => False) fun _ z => z.elim).view w2.j e1).toBl, q2 ad2 H1 k2 w2.j0⟩
  · exact q2.elim
theorem t_chain (ho : OpR X (compareOp op) r) (ho' : OpR X (compareOp op') r') (hr : Op2 G.K g r) (hr' : Op2 G.K g' r') (ha : PE X a (tE G W ma)) (hb : PE X b (tE G W mb)) (hc : PE X c (tE G W mc)) (hm : lastMarks [op, op'] [b, c] = false := by with_unfolding_all rfl) :
    PT X (.Compare a [op, op'] [b, c] pos) (tT G W (mTst (m3 g g' ma mb mc))) := imp_T (pt_chain ho ho' ha hb hc hm) fun _ _ _ h => three hr hr' (tst h)
end

/-! ### isinstance -/
def tyN : D → String
  | .none => "NoneType"
  | .bool _ => "bool"
  | .int _ => "int"
  | .str _ => "str"
  | .list _ => "list"
  | .tuple _ => "tuple"
  | .dict _ => "dict"
theorem RelB.ty {K : PySem.W.Frag} {F : Fb} {H : Hp} {d : D} {x : V} (r : RelB K F H d x) : TyX K H x (.type (tyN d)) := by
  rcases r with r | ⟨a, c, rfl, rfl, r⟩
  · cases r with
    | non => exact .base .non
    | bl b => exact .base (.bl b)
    | int i => exact .base (.int i)
    | str s => exact .base (.str s)
    | lst h _ =>
      rcases h with ⟨h, _⟩ | ⟨o, h⟩ | ⟨o, its, n, h, hc, _⟩
      · exact .base (.lst h)
      · exact .base (.frz h)
      · exact .kList h hc
    | tup h _ _ =>
      rcases h with (h | ⟨o, h⟩) | ⟨o, its, n, h, hc, _⟩
      · exact .base (.tup h)
      · exact .fTuple h
      · exact .kTuple h hc
    | dct h _ _ _ => exact .base (.dK h)
  · cases c with
    | lst ds => obtain ⟨vs, e, _⟩ := r; exact .base (.lst e)
    | dct ks ds => obtain ⟨vs, e, _⟩ := r; exact .base (.dK e)
def gIsi (T : String) (d : D) : Option Val := (kitB (tyN d) T).map fun b => .d (.bool b)
theorem g_isi {K : PySem.W.Frag} {T : String} : Op1 K (gIsi T) (fun x H Q => rIsi K [x, .ty T] H Q) := by
  intro F H x d res Q hF rx hg q
  unfold gIsi at hg
  cases h : kitB (tyN d) T with
  | none => rw [h] at hg; cases hg
  | some b =>
    rw [h] at hg
    cases hg
    exact ⟨x, .ty T, .type (tyN d), .type T, b, rfl, .ty T, rx.ty, kit_ty h, q _ _ (NewOk.dat (.bl b))⟩
section
variable {X : Cx} {G : Ct} {W : WX} {e : Expr} {me : M Val} {pos p p2 : Pos} {T : String} {t : Str}
theorem e_isi (hK : G.K = X.K) (hg : Gl X "isinstance") (hm : X.mg "isinstance" = none) (hgT : Gl X t) (hmT : X.mg t = none) (hvT : bootBuiltins t = some (.type T)) (he : PE X e (tE G W me))
    (hn : t ≠ "__name__" := by decide) (hd : (t == ("__debug__" : Str)) = false := by decide)
    (hs : starEach [e, .Name t p2] X.env = (false, eval e X.env) :: starEach [.Name t p2] X.env := by rfl) (hs2 : starEach [.Name t p2] X.env = (false, eval (.Name t p2) X.env) :: starEach [] X.env := by rfl) (hpl : (backTo pos (starEach [.Name t p2] X.env)).any (·.1) = false := by rfl) :
    PE X (.Call (.Name "isinstance" p) [e, .Name t p2] [] pos) (tE G W (m1 (gIsi T) me)) :=
  imp_E (pe_callB call_isi hg hm (by decide +kernel) (pa_cons he (pa_cons (pe_bltn (v := .ty T) hgT hmT hvT rfl hn hd) pa_nil hs2) hs) (he := hs) (hpl := hpl)) fun σ H Q h => by
    have z := one (r := fun x H Q => rIsi X.K [x, .ty T] H Q) (hK ▸ g_isi) h
    exact z
end

/-! ### parts -/
def cutD (ds : List D) (lo hi : Option Int) : List D := (ds.drop (HT.sIx ds.length 0 lo)).take (HT.sIx ds.length ds.length hi - HT.sIx ds.length 0 lo)
def gSl : D → Option Int → Option Int → Option Val
  | .list ds, lo, hi => some (.f (.lst (cutD ds lo hi)))
  | .tuple ds, lo, hi => some (.d (.tuple (cutD ds lo hi)))
  | .str x, lo, hi => if x.length ≤ line then some (.d (.str (cutS x lo hi))) else none
  | _, _, _ => none
def partO (m : Option (M Val)) : Ev → R (Option Int) := match m with
  | none => fun env => .ok none env
  | some m => fun env => (m env).bind fun a e1 => match view e1 a with
    | some (.int i) => .ok (some i) e1
    | _ => .bad
def mSl (me : M Val) (ml mh : Option (M Val)) : M Val := fun env => (me env).bind fun a e1 => (partO ml e1).bind fun lo e2 => (partO mh e2).bind fun hi e3 => match view e3 a with
  | some d => match gSl d lo hi with
    | some r => .ok r e3
    | none => .bad
  | none => .bad
def PostO (G : Ct) (W : WX) (O : Fb) (ad : Nat → Addr) (env : Ev) (σ : L2.St) (H : Hp) (Q : Option Int → Hp → Prop) : R (Option Int) → Prop
  | .ok b e' => ∀ ad' H', Kr O (Fo O env ad) (Fo O e' ad') H H' → J G O ad' e' σ H' → Q b H'
  | .ex x e' => ∀ ad' cls dx H', Kr O (Fo O env ad) (Fo O e' ad') H H' → J G O ad' e' σ H' → RelX G.K G.mg (Fo O e' ad') H' x cls dx → W cls dx σ H'
  | .bad => False
def tO (G : Ct) (W : WX) (m : M (Option Int)) : TO := fun σ H Q => ∃ O ad env, J G O ad env σ H ∧ PostO G W O ad env σ H Q (m env)
theorem xsO {G : Ct} {W : WX} {O : Fb} {ad : Nat → Addr} {env : Ev} {σ : L2.St} {H : Hp} {Q : Option Int → Hp → Prop} : Xs G W O ad env σ H (PostO G W O ad env σ H Q) .ex .bad := ⟨fun _ _ h => h, fun h => h⟩
theorem seqO {G : Ct} {W : WX} {O O1 : Fb} {ad ad1 : Nat → Addr} {env env1 : Ev} {σ : L2.St} {H H1 : Hp} {β : Type} {P : β → Prop} {kx : Ex → Ev → β} {kb : β} {mb : M (Option Int)} {mk : Option Int → Ev → β} (hx : Xs G W O ad env σ H P kx kb) (hO : ∀ a, O a → O1 a) (k : Kr O (Fo O env ad) (Fo O env1 ad1) H H1) (j : J G O1 ad1 env1 σ H1) (p : P ((mb env1).elim mk kx kb)) :
    tO G W mb σ H1 fun b H2 => ∃ ad2 env2, Kr O (Fo O env ad) (Fo O env2 ad2) H H2 ∧ Kr O1 (Fo O1 env1 ad1) (Fo O1 env2 ad2) H1 H2 ∧ J G O1 ad2 env2 σ H2 ∧ P (mk b env2) := by
  refine ⟨O1, ad1, env1, j, ?_⟩
  cases e : mb env1 with
  | ok val e' =>
    rw [e] at p
    exact fun ad' H' k' w => ⟨ad', e', k.trans (k'.less hO w), k', w, p⟩
  | ex x e' =>
    rw [e] at p
    exact fun ad' cls dx H' k' j' r => hx.1 x e' p ad' cls dx H' (k.trans (k'.less hO j')) (j'.less hO) (r.keep (Kp.weak fun a z => by
      rcases z with z | z
      · exact .inl (hO a z)
      · exact .inr z))
  | bad => rw [e] at p; exact hx.2 p
theorem mono_O {G : Ct} {W : WX} {m : M (Option Int)} {σ : L2.St} {H : Hp} {Q Q' : Option Int → Hp → Prop} (h : tO G W m σ H Q) (f : ∀ v H', Q v H' → Q' v H') : tO G W m σ H Q' := by
  obtain ⟨O, ad, env, j, p⟩ := h
  refine ⟨O, ad, env, j, ?_⟩
  revert p
  cases m env with
  | bad => exact fun z => z
  | ex x e => exact fun z => z
  | ok v1 e1 => exact fun z ad' H' k w => f v1 H' (z ad' H' k w)
section
variable {X : Cx} {G : Ct} {W : WX} {e e1 e2 : Expr} {lo hi : Option Expr} {me : M Val} {ml mh : Option (M Val)} {m : M Val} {pos p2 : Pos}
theorem po_no : PO X none (tO G W (partO none)) := ⟨fun pins s σ H Q I ⟨O, ad, env, j, p⟩ => po_none.run pins s σ H Q I (p ad H (Kr.refl _ _ _) j)⟩
theorem po_so (h : PE X e (tE G W m)) : PO X (some e) (tO G W (partO (some m))) := ⟨fun pins s σ H Q I ⟨O, ad, env, j, p⟩ => (po_some h).run pins s σ H Q I (by
  refine mono_E (seqE (β := R (Option Int)) (P := PostO G W O ad env σ H Q) xsO (fun _ z => z) (Kr.refl O (Fo O env ad) H) j p) fun x H1 ⟨ad2, env2, val2, k2, k3, w2, q2⟩ => ?_
  split at q2
  · rename_i i ev
    exact ⟨i, ((w2.vb (B := fun _ => False) fun _ z => z.elim).view w2.j ev).toInt, q2 ad2 H1 k2 w2.j0⟩
  · exact q2.elim)⟩
theorem RelL.cut {K : PySem.W.Frag} {F : Fb} {H : Hp} {ds : List D} {vs : List V} (r : RelL K F H ds vs) (lo hi : Option Int) : RelL K F H (cutD ds lo hi) (cutV vs lo hi) := by
  unfold cutD cutV
  rw [r.length]
  exact (r.drop _).take _
/-- t[lo:hi], a new tuple's object told -/
def rSlF (K : PySem.W.Frag) : V → Option Int → Option Int → Hp → VK → Prop := fun x lo hi H Q => ∃ a xs, x = .ref a ∧ SqT K H a xs ∧
  (HT.sIx xs.length 0 lo = 0 ∧ HT.sIx xs.length xs.length hi = xs.length → Q (.ref a) H) ∧ (¬ (HT.sIx xs.length 0 lo = 0 ∧ HT.sIx xs.length xs.length hi = xs.length) → ToT H (cutV xs lo hi) Q)
theorem sl_tupF {X : Cx} : SlR X (rSlF X.K) := fun pins s σ H x v vl vu lo hi sl Q I rx hs pl pu ⟨a, xs, ex, hx, q1, q2⟩ => by
  by_cases hw : HT.sIx xs.length 0 lo = 0 ∧ HT.sIx xs.length xs.length hi = xs.length
  · exact sl_tupA pins s σ H x v vl vu lo hi sl Q I rx hs pl pu ⟨a, xs, ex, hx, q1, fun h => absurd hw h⟩
  subst ex
  cases rx
  obtain ⟨us, r, ht, hz⟩ := I.tuple hx
  have hl : us.toArray.size = xs.length := r.length.symm
  refine ⟨_, _, PyProof.Rows.slot_tuple_getitem.lookup, ht.typeIs, HT.getItem_tuple_cut ht hs pl pu (by rw [hl]; exact hw) ?_ (by rw [hl]; exact hz)⟩
  rw [hl]
  exact newT_ep (tk := s.toks) I ((r.drop (HT.sIx xs.length 0 lo)).take (HT.sIx xs.length xs.length hi - HT.sIx xs.length 0 lo)) (Nat.le_trans (cutV_length xs lo hi) hz) (q2 hw)
def rSlAll (K : PySem.W.Frag) : V → Option Int → Option Int → Hp → VK → Prop := fun x lo hi H Q => (rSlL K x lo hi H Q ∨ rSlF K x lo hi H Q) ∨ rSlS x lo hi H Q
theorem sl_all : SlR X (rSlAll X.K) := (sl_list.or sl_tupF).or sl_str
theorem g_sl {K : PySem.W.Frag} {F : Fb} {H : Hp} {x : V} {d : D} {lo hi : Option Int} {res : Val} {Q : VK} (rx : RelB K F H d x) (hg : gSl d lo hi = some res) (q : ∀ v H', NewOk K F H H' res v → Q v H') : rSlAll K x lo hi H Q := by
  unfold gSl at hg
  split at hg
  · cases hg
    obtain ⟨a, xs, rfl, h1, h2⟩ := rx.toLst
    exact .inl (.inl ⟨a, xs, rfl, h1, fun p np => q _ _ (NewOk.lst np (h2.cut lo hi))⟩)
  · cases hg
    rename_i ds
    obtain ⟨a, xs, rfl, h1, t1, h2⟩ := rx.toTupD
    refine .inl (.inr ⟨a, xs, rfl, h1, fun hw => ?_, fun _ p _ np => q _ _ (NewOk.tup np (h2.cut lo hi))⟩)
    have hc : cutD ds lo hi = ds := by
      unfold cutD
      rw [h2.length, hw.1, hw.2, List.drop_zero, ← h2.length, Nat.sub_zero, List.take_length]
    rw [hc] at q
    exact q _ _ (NewOk.dat (.tup h1 t1 h2))
  · split at hg
    · cases hg
      rename_i hl
      obtain rfl := rx.toStr
      exact .inr ⟨_, rfl, by rw [line_eq]; exact hl, q _ _ (NewOk.dat (.str _))⟩
    · cases hg
  · cases hg
theorem e_slice (hK : G.K = X.K) (he : PE X e (tE G W me)) (hl : PO X lo (tO G W (partO ml))) (hh : PO X hi (tO G W (partO mh))) : PE X (.Subscript e (.Slice lo hi none p2) pos) (tE G W (mSl me ml mh)) :=
  imp_E (pe_slice sl_all he hl hh) fun σ H Q ⟨O, ad, env, j, p⟩ => by
    refine mono_E (seqE (β := R Val) (P := PostE G W O ad env σ H Q) xsE (fun _ z => z) (Kr.refl O (Fo O env ad) H) j p) fun x H1 ⟨ad2, env2, val2, k2, k3, w2, q2⟩ => ?_
    refine mono_O (seqO (β := R Val) (P := PostE G W O ad env σ H Q) xsE (valO_le val2 x) k2 w2.j q2) fun lo' H3 ⟨ad3, env3, k4, k5, j3, q3⟩ => ?_
    refine mono_O (seqO (β := R Val) (P := PostE G W O ad env σ H Q) xsE (valO_le val2 x) k4 j3 q3) fun hi' H5 ⟨ad6, env6, k6, k7, j6, q6⟩ => ?_
    have kk := k5.trans k7
    have b1 := (w2.vb (B := fun _ => False) fun _ z => z.elim).keep (O' := valO O val2 x) kk.kq.kp (fun a o z e => kk.kq.out a o z e) fun _ z => z
    split at q6
    · rename_i d ev
      split at q6
      · rename_i res eg
        rw [← hK]
        exact g_sl (b1.view j6 ev) eg fun v H' n => finE (valO_le _ _) k6 j6 q6 n
      · exact q6.elim
    · exact q6.elim
end
end Nb
namespace Nb
open L2 PySem PySem.Spec PyProof.Rows

/-! ### what is built in -/
def intsOf : List D → Option (List Int)
  | [] => some []
  | .int i :: ds => (intsOf ds).map fun ns => i :: ns
  | _ :: _ => none
def blsOf : List D → Option (List Bool)
  | [] => some []
  | .bool i :: ds => (blsOf ds).map fun ns => i :: ns
  | _ :: _ => none
theorem intsOf_eq : ∀ {ds : List D} {ns : List Int}, intsOf ds = some ns → ds = ns.map PyData.int
  | [], _, h => by cases h; rfl
  | .int i :: ds, ns, h => by
    simp only [intsOf] at h
    cases q : intsOf ds with
    | none => rw [q] at h; cases h
    | some ms => rw [q] at h; cases h; rw [List.map_cons, ← intsOf_eq q]
  | .none :: _, _, h => by cases h
  | .bool _ :: _, _, h => by cases h
  | .str _ :: _, _, h => by cases h
  | .list _ :: _, _, h => by cases h
  | .tuple _ :: _, _, h => by cases h
  | .dict _ :: _, _, h => by cases h
theorem blsOf_eq : ∀ {ds : List D} {ns : List Bool}, blsOf ds = some ns → ds = ns.map PyData.bool
  | [], _, h => by cases h; rfl
  | .bool i :: ds, ns, h => by
    simp only [blsOf] at h
    cases q : blsOf ds with
    | none => rw [q] at h; cases h
    | some ms => rw [q] at h; cases h; rw [List.map_cons, ← blsOf_eq q]
  | .none :: _, _, h => by cases h
  | .int _ :: _, _, h => by cases h
  | .str _ :: _, _, h => by cases h
  | .list _ :: _, _, h => by cases h
  | .tuple _ :: _, _, h => by cases h
  | .dict _ :: _, _, h => by cases h
@[simp] theorem intsOf_map (ns : List Int) : intsOf (ns.map PyData.int) = some ns := by
  induction ns with
  | nil => rfl
  | cons n ns ih => simp [intsOf, ih]
@[simp] theorem blsOf_map (ns : List Bool) : blsOf (ns.map PyData.bool) = some ns := by
  induction ns with
  | nil => rfl
  | cons n ns ih => simp [blsOf, ih]
def gLen : List D → Option Val
  | [.list ds] => some (.d (.int ds.length))
  | [.tuple ds] => some (.d (.int ds.length))
  | [.str x] => if x.length ≤ line then some (.d (.int x.length)) else none
  | _ => none
def gMax2 : List D → Option Val
  | [.int i, .int j] => some (.d (.int (if j > i then j else i)))
  | _ => none
def gMin2 : List D → Option Val
  | [.int i, .int j] => some (.d (.int (if j < i then j else i)))
  | _ => none
def gAbs : List D → Option Val
  | [.int i] => some (.d (.int (if i < 0 then -i else i)))
  | _ => none
def gInt1 : List D → Option Val
  | [.int i] => some (.d (.int i))
  | [.bool b] => some (.d (.int (if b then 1 else 0)))
  | _ => none
def gStr1 : List D → Option Val
  | [.int i] => if i.natAbs.log2 < 1920 then some (.d (.str (toString i))) else none
  | _ => none
def gList : List D → Option Val
  | [.list ds] => some (.f (.lst ds))
  | [.tuple ds] => some (.f (.lst ds))
  | _ => none
def gTuple : List D → Option Val
  | [.list ds] => some (.d (.tuple ds))
  | [.tuple ds] => some (.d (.tuple ds))
  | _ => none
def gSum : List D → Option Val
  | [.list ds] => (intsOf ds).map fun ns => .d (.int ns.sum)
  | _ => none
def gMaxL : List D → Option Val
  | [.list ds] => (intsOf ds).bind fun ns => ns.max?.map fun m => .d (.int m)
  | _ => none
def gMinL : List D → Option Val
  | [.list ds] => (intsOf ds).bind fun ns => ns.min?.map fun m => .d (.int m)
  | _ => none
def gAll : List D → Option Val
  | [.list ds] => (blsOf ds).map fun ns => .d (.bool (ns.all id))
  | _ => none
def gAny : List D → Option Val
  | [.list ds] => (blsOf ds).map fun ns => .d (.bool (ns.any id))
  | _ => none
def gSorted : List D → Option Val
  | [.list ds] => (intsOf ds).map fun ns => .f (.lst ((ns.mergeSort fun a b => decide (a ≤ b)).map PyData.int))
  | _ => none
def gDivmod : List D → Option Val
  | [.int i, .int j] => if 0 < j ∧ Builtin.divisionGoesByPylong i j = false then some (.d (.tuple [.int (i / j), .int (i % j)])) else none
  | _ => none
section
variable {K : PySem.W.Frag}
theorem RelBs.one {F : Fb} {H : Hp} {d : D} {vs : List V} (h : RelBs K F H [d] vs) : ∃ v, vs = [v] ∧ RelB K F H d v := by
  cases h with
  | cons r rr => cases rr; exact ⟨_, rfl, r⟩
theorem RelBs.two {F : Fb} {H : Hp} {d e : D} {vs : List V} (h : RelBs K F H [d, e] vs) : ∃ v w, vs = [v, w] ∧ RelB K F H d v ∧ RelB K F H e w := by
  cases h with
  | cons r rr =>
    cases rr with
    | cons r' rr => cases rr; exact ⟨_, _, rfl, r, r'⟩
theorem g_len : OpA K gLen (fun xs H Q => ∃ x n, xs = [x] ∧ LenV K x H n ∧ Q (.int n) H) := fun F H vs ds res Q hF r hg q => by
  unfold gLen at hg
  split at hg
  · cases hg
    obtain ⟨v, rfl, r1⟩ := r.one
    obtain ⟨a, xs, rfl, h1, h2⟩ := r1.toLst
    exact ⟨_, _, rfl, .inl ⟨xs, h1, rfl⟩, by rw [← h2.length]; exact q _ _ (NewOk.dat (.int _))⟩
  · cases hg
    obtain ⟨v, rfl, r1⟩ := r.one
    obtain ⟨a, xs, rfl, h1, h2⟩ := r1.toTup
    exact ⟨_, _, rfl, .inr ⟨xs, h1, rfl⟩, by rw [← h2.length]; exact q _ _ (NewOk.dat (.int _))⟩
  · split at hg
    · cases hg
      rename_i hl
      obtain ⟨v, rfl, r1⟩ := r.one
      obtain rfl := r1.toStr
      exact ⟨_, _, rfl, ⟨by rw [line_eq]; exact hl, rfl⟩, q _ _ (NewOk.dat (.int _))⟩
    · cases hg
  · cases hg
theorem g_max2 : OpA K gMax2 (fun xs H Q => ∃ i j, xs = [.int i, .int j] ∧ Q (.int (if j > i then j else i)) H) := fun F H vs ds res Q hF r hg q => by
  unfold gMax2 at hg
  split at hg
  · cases hg
    obtain ⟨v, w, rfl, r1, r2⟩ := r.two
    obtain rfl := r1.toInt
    obtain rfl := r2.toInt
    exact ⟨_, _, rfl, q _ _ (NewOk.dat (.int _))⟩
  · cases hg
theorem g_min2 : OpA K gMin2 (fun xs H Q => ∃ i j, xs = [.int i, .int j] ∧ Q (.int (if j < i then j else i)) H) := fun F H vs ds res Q hF r hg q => by
  unfold gMin2 at hg
  split at hg
  · cases hg
    obtain ⟨v, w, rfl, r1, r2⟩ := r.two
    obtain rfl := r1.toInt
    obtain rfl := r2.toInt
    exact ⟨_, _, rfl, q _ _ (NewOk.dat (.int _))⟩
  · cases hg
theorem g_abs : OpA K gAbs (fun xs H Q => ∃ i, xs = [.int i] ∧ Q (.int (if i < 0 then -i else i)) H) := fun F H vs ds res Q hF r hg q => by
  unfold gAbs at hg
  split at hg
  · cases hg
    obtain ⟨v, rfl, r1⟩ := r.one
    obtain rfl := r1.toInt
    exact ⟨_, rfl, q _ _ (NewOk.dat (.int _))⟩
  · cases hg
theorem g_int1 : OpA K gInt1 (fun xs H Q => (∃ i, xs = [.int i] ∧ Q (.int i) H) ∨ ∃ k, xs = [.bl k] ∧ Q (.int (if k then 1 else 0)) H) := fun F H vs ds res Q hF r hg q => by
  unfold gInt1 at hg
  split at hg
  · cases hg
    obtain ⟨v, rfl, r1⟩ := r.one
    obtain rfl := r1.toInt
    exact .inl ⟨_, rfl, q _ _ (NewOk.dat (.int _))⟩
  · cases hg
    obtain ⟨v, rfl, r1⟩ := r.one
    obtain rfl := r1.toBl
    exact .inr ⟨_, rfl, q _ _ (NewOk.dat (.int _))⟩
  · cases hg
theorem g_str1 : OpA K gStr1 (fun xs H Q => ∃ i, xs = [.int i] ∧ i.natAbs.log2 < 1920 ∧ Q (.str (toString i)) H) := fun F H vs ds res Q hF r hg q => by
  unfold gStr1 at hg
  split at hg
  · split at hg
    · cases hg
      rename_i hl
      obtain ⟨v, rfl, r1⟩ := r.one
      obtain rfl := r1.toInt
      exact ⟨_, rfl, hl, q _ _ (NewOk.dat (.str _))⟩
    · cases hg
  · cases hg
theorem g_list : OpA K gList (fun xs H Q => ∃ p ys, xs = [.ref p] ∧ (SqL K H p ys ∨ SqT K H p ys) ∧ ∀ l, H l = none → Q (.ref l) (upd H l (.lst ys))) := fun F H vs ds res Q hF r hg q => by
  unfold gList at hg
  split at hg
  · cases hg
    obtain ⟨v, rfl, r1⟩ := r.one
    obtain ⟨a, xs, rfl, h1, h2⟩ := r1.toLst
    exact ⟨a, xs, rfl, .inl h1, fun l n => q _ _ (NewOk.lst n h2)⟩
  · cases hg
    obtain ⟨v, rfl, r1⟩ := r.one
    obtain ⟨a, xs, rfl, h1, h2⟩ := r1.toTup
    exact ⟨a, xs, rfl, .inr h1, fun l n => q _ _ (NewOk.lst n h2)⟩
  · cases hg
/-- tuple(..), a new tuple's object told -/
theorem call_tupleF {X : Cx} : CallR X (.type "tuple") (fun xs H Q => ∃ p ys, xs = [.ref p] ∧ ((SqL X.K H p ys ∧ ToT H ys Q) ∨ (SqT X.K H p ys ∧ Q (.ref p) H))) := fun pins s σ H xs us Q I r ⟨p, ys, ex, h⟩ => by
  rcases h with ⟨hq, q⟩ | ⟨hq, q⟩
  · subst ex
    obtain ⟨u, rfl, ru⟩ := vals1 r
    cases ru
    obtain ⟨ws, rw', pl, hz⟩ := I.list hq
    have hl := rw'.length
    refine call_tuple_list pl.isList (fun h' kp => ?_) (by rw [List.size_toArray]; omega)
    exact newT_ep (tk := s.toks) (I.kept (t' := s.toks) kp) rw' hz q
  · exact call_tuple_of pins s σ H xs us Q I r ⟨p, ys, ex, .inr ⟨hq, q⟩⟩
/-- divmod, a new tuple's object told -/
theorem call_divmodF {X : Cx} : CallR X (.builtin "divmod") (fun xs H Q => ∃ i j, xs = [.int i, .int j] ∧ CDivP i j ∧ ToT H [.int (i / j), .int (i % j)] Q) := fun pins s σ H xs us Q I r ⟨i, j, ex, ⟨h1, h2⟩, q⟩ => by
  subst ex
  obtain ⟨u, w', rfl, ⟨t, rfl⟩, ⟨t', rfl⟩⟩ := vals2 r
  refine divmod_int (by omega) ?_ (.inl h2)
  rw [Int.fdiv_eq_ediv_of_nonneg i (Int.le_of_lt h1), Int.fmod_eq_emod_of_nonneg i (Int.le_of_lt h1)]
  exact newT_ep I (vs := [.int (i / j), .int (i % j)]) (us := [.int (i / j) s.toks, .int (i % j) (s.toks + 1)]) (.cons ⟨_, rfl⟩ (.cons ⟨_, rfl⟩ .nil)) (by simp only [List.length_cons, List.length_nil]; rw [sizeLine_eq]; decide) q
theorem g_tuple : OpA K gTuple (fun xs H Q => ∃ p ys, xs = [.ref p] ∧ ((SqL K H p ys ∧ ToT H ys Q) ∨ (SqT K H p ys ∧ Q (.ref p) H))) := fun F H vs ds res Q hF r hg q => by
  unfold gTuple at hg
  split at hg
  · cases hg
    obtain ⟨v, rfl, r1⟩ := r.one
    obtain ⟨a, xs, rfl, h1, h2⟩ := r1.toLst
    exact ⟨a, xs, rfl, .inl ⟨h1, fun l _ n => q _ _ (NewOk.tup n h2)⟩⟩
  · cases hg
    obtain ⟨v, rfl, r1⟩ := r.one
    obtain ⟨a, xs, rfl, h1, t1, h2⟩ := r1.toTupD
    exact ⟨a, xs, rfl, .inr ⟨h1, q _ _ (NewOk.dat (.tup h1 t1 h2))⟩⟩
  · cases hg
theorem ints_at {F : Fb} {H : Hp} {ds : List D} {ns : List Int} {v : V} (r : RelB K F H (.list ds) v) (e : intsOf ds = some ns) : ∃ a, v = .ref a ∧ SqL K H a (ns.map V.int) := by
  obtain ⟨a, xs, rfl, h1, h2⟩ := r.toLst
  rw [intsOf_eq e] at h2
  rw [h2.toInts] at h1
  exact ⟨a, rfl, h1⟩
theorem bls_at {F : Fb} {H : Hp} {ds : List D} {ns : List Bool} {v : V} (r : RelB K F H (.list ds) v) (e : blsOf ds = some ns) : ∃ a, v = .ref a ∧ SqL K H a (ns.map V.bl) := by
  obtain ⟨a, xs, rfl, h1, h2⟩ := r.toLst
  rw [blsOf_eq e] at h2
  rw [h2.toBls] at h1
  exact ⟨a, rfl, h1⟩
theorem g_sum : OpA K gSum (rSum K) := fun F H vs ds res Q hF r hg q => by
  unfold gSum at hg
  split at hg
  · rename_i es
    cases e : intsOf es with
    | none => rw [e] at hg; cases hg
    | some ns =>
      rw [e] at hg
      cases hg
      obtain ⟨v, rfl, r1⟩ := r.one
      obtain ⟨a, rfl, h⟩ := ints_at r1 e
      exact ⟨a, ns, rfl, h, q _ _ (NewOk.dat (.int _))⟩
  · cases hg
theorem g_all : OpA K gAll (rAll K) := fun F H vs ds res Q hF r hg q => by
  unfold gAll at hg
  split at hg
  · rename_i es
    cases e : blsOf es with
    | none => rw [e] at hg; cases hg
    | some ns =>
      rw [e] at hg
      cases hg
      obtain ⟨v, rfl, r1⟩ := r.one
      obtain ⟨a, rfl, h⟩ := bls_at r1 e
      exact ⟨a, ns, rfl, h, q _ _ (NewOk.dat (.bl _))⟩
  · cases hg
theorem g_any : OpA K gAny (rAny K) := fun F H vs ds res Q hF r hg q => by
  unfold gAny at hg
  split at hg
  · rename_i es
    cases e : blsOf es with
    | none => rw [e] at hg; cases hg
    | some ns =>
      rw [e] at hg
      cases hg
      obtain ⟨v, rfl, r1⟩ := r.one
      obtain ⟨a, rfl, h⟩ := bls_at r1 e
      exact ⟨a, ns, rfl, h, q _ _ (NewOk.dat (.bl _))⟩
  · cases hg
theorem g_maxL : OpA K gMaxL (rMax K) := fun F H vs ds res Q hF r hg q => by
  unfold gMaxL at hg
  split at hg
  · rename_i es
    cases e : intsOf es with
    | none => rw [e] at hg; cases hg
    | some ns =>
      rw [e] at hg
      simp only [Option.bind_some] at hg
      cases em : ns.max? with
      | none => rw [em] at hg; cases hg
      | some m =>
        rw [em] at hg
        cases hg
        obtain ⟨v, rfl, r1⟩ := r.one
        obtain ⟨a, rfl, h⟩ := ints_at r1 e
        obtain ⟨h1, h2⟩ := List.max?_eq_some_iff.mp em
        refine ⟨a, ns, rfl, h, List.length_pos_of_mem h1, fun m' h3 h4 => ?_⟩
        rw [show m' = m from Int.le_antisymm (h2 _ h3) (h4 _ h1)]
        exact q _ _ (NewOk.dat (.int _))
  · cases hg
theorem g_minL : OpA K gMinL (rMin K) := fun F H vs ds res Q hF r hg q => by
  unfold gMinL at hg
  split at hg
  · rename_i es
    cases e : intsOf es with
    | none => rw [e] at hg; cases hg
    | some ns =>
      rw [e] at hg
      simp only [Option.bind_some] at hg
      cases em : ns.min? with
      | none => rw [em] at hg; cases hg
      | some m =>
        rw [em] at hg
        cases hg
        obtain ⟨v, rfl, r1⟩ := r.one
        obtain ⟨a, rfl, h⟩ := ints_at r1 e
        obtain ⟨h1, h2⟩ := List.min?_eq_some_iff.mp em
        refine ⟨a, ns, rfl, h, List.length_pos_of_mem h1, fun m' h3 h4 => ?_⟩
        rw [show m' = m from Int.le_antisymm (h4 _ h1) (h2 _ h3)]
        exact q _ _ (NewOk.dat (.int _))
  · cases hg
theorem sort_unique {ns ms : List Int} (p : ms.Perm ns) (s : ms.Pairwise (· ≤ ·)) : ms = ns.mergeSort fun a b => decide (a ≤ b) := by
  have s2 : (ns.mergeSort fun a b => decide (a ≤ b)).Pairwise (· ≤ ·) := by
    have z := List.pairwise_mergeSort (le := fun a b : Int => decide (a ≤ b)) (fun a b c h1 h2 => by simp at h1 h2 ⊢; omega) (fun a b => by simp; omega) ns
    exact z.imp fun h => by simpa using h
  exact List.Perm.eq_of_pairwise (fun a b _ _ h1 h2 => Int.le_antisymm h1 h2) s s2 (p.trans (List.mergeSort_perm ns _).symm)
theorem g_sorted : OpA K gSorted (rSortedI K) := fun F H vs ds res Q hF r hg q => by
  unfold gSorted at hg
  split at hg
  · rename_i es
    cases e : intsOf es with
    | none => rw [e] at hg; cases hg
    | some ns =>
      rw [e] at hg
      cases hg
      obtain ⟨v, rfl, r1⟩ := r.one
      obtain ⟨a, rfl, h⟩ := ints_at r1 e
      exact ⟨a, ns, rfl, h, fun ms p pm ps np => q _ _ (by rw [sort_unique pm ps]; exact NewOk.lst np (RelL.ints _))⟩
  · cases hg
theorem g_divmod : OpA K gDivmod (fun xs H Q => ∃ i j, xs = [.int i, .int j] ∧ CDivP i j ∧ ToT H [.int (i / j), .int (i % j)] Q) := fun F H vs ds res Q hF r hg q => by
  unfold gDivmod at hg
  split at hg
  · split at hg
    · cases hg
      rename_i hc
      obtain ⟨v, w, rfl, r1, r2⟩ := r.two
      obtain rfl := r1.toInt
      obtain rfl := r2.toInt
      exact ⟨_, _, rfl, hc, fun p _ n => q _ _ (NewOk.tup n (.cons (.int _) (.cons (.int _) .nil)))⟩
    · cases hg
  · cases hg
end

/-! ### a, b = x, y -/
section
variable {X : Cx} {G : Ct} {W : WX} {a b : Expr} {ms : M (List Val)} {pos : Pos}
theorem s_par {i j : Nat} {x y : Str} {px py pt : Pos} {kt k2 pt2} (hc : X.calm = true) (hN : X.N.Nodup) (hi : X.N[i]? = some x) (hj : X.N[j]? = some y) (hij : i ≠ j)
    (hx : X.env.scope.names.lookup x = some .local) (hy : X.env.scope.names.lookup y = some .local) (ha : PA X [a, b] (tA G W ms))
    (hw : swappedStores [.Tuple [.Name x px, .Name y py] kt pt] (.Tuple [a, b] k2 pt2) X.env = pure (some [x, y]))
    (hs : swapsWithSole [.Tuple [.Name x px, .Name y py] kt pt] (.Tuple [a, b] k2 pt2) pos.line X.env = pure false := by rfl) :
    PS X (.Assign [.Tuple [.Name x px, .Name y py] kt pt] (.Tuple [a, b] k2 pt2) pos) (tS G W (mPar i j ms)) := imp_S (ps_par hc hN hi hj hij hx hy ha hw hs) fun E σ H ⟨O, ad, env, j0, p⟩ => by
  refine mono_A (seqA (β := Out) (P := PostS G W O ad env H E) xsS (fun _ z => z) (Kr.refl O (Fo O env ad) H) j0 p) fun vs H1 ⟨O2, ad2, env2, vals, h1, h2, k2, k3, j2, w2, q2⟩ => ?_
  split at q2
  · obtain ⟨⟨ds, env3⟩, ea, q3⟩ := opt_inv (P := PostS G W O ad env H E) q2 fun z => z
    obtain ⟨j3, _, k3, r3⟩ := asDs_ok h1 j2 w2 ea
    have j3 := j3.less h1
    dsimp only at q3
    split at q3
    · obtain ⟨env4, e4, q4⟩ := opt_inv (P := PostS G W O ad env H E) q3 fun z => z
      obtain ⟨env5, e5, q5⟩ := opt_inv (P := PostS G W O ad env H E) q4 fun z => z
      cases r3 with
      | cons r rr =>
        cases rr with
        | cons r' rr =>
          cases rr
          have kk := k2.trans k3
          obtain ⟨ad4, k4, j4⟩ := store_ok (F0 := Fo O env3 ad2) (val := .d _) (fun p np => (j3.fresh np).2) (Kr.refl _ _ _) ⟨j3, r⟩ e4
          obtain ⟨ad5, k5, j5⟩ := store_ok (F0 := Fo O env4 ad4) (val := .d _) (fun p np => (j4.fresh np).2) (Kr.refl _ _ _) ⟨j4, r'.keep k4.kq.kp⟩ e5
          exact ⟨_, _, rfl, q5 ad5 _ H1 ((kk.trans k4).trans k5) j5⟩
    · exact q3.elim
  · exact q2.elim
end

/-! ### x in range(..) -/
theorem cr_range1 {X : Cx} : CallR X (.type "range") (fun vs H Q => ∃ j, vs = [V.int j] ∧ ∀ p, H p = none → Q (.ref p) (upd H p (.rng 0 j))) := by
  intro pins s σ H vs us Q I r h
  obtain ⟨j, rfl, q⟩ := h
  obtain ⟨u, rfl, t, rfl⟩ := vals1 r
  refine call_range_1 ⟨.ref s.heap.objs.size, upd H s.heap.objs.size (.rng 0 j), I.laid (t' := s.toks + 2) (fun b o e => Heap.get?_push_of_some _ e) (Nat.le_refl _) ?_, rfl, q _ (I.hok.fresh (Nat.le_refl _))⟩
  exact ⟨_, _, _, Heap.get?_push_size _ rfl⟩
def rNotInRng : R2 := fun x y H Q => ∃ i a lo hi, x = V.int i ∧ y = V.ref a ∧ H a = some (.rng lo hi) ∧ Q (.bl (!decide (lo ≤ i ∧ i < hi))) H
theorem op_notIn_rng {X : Cx} : OpR X (compareOp .NotIn) rNotInRng := by
  intro pins s σ H x y v u Q I rx ry h
  obtain ⟨i, a, lo, hi, rfl, rfl, ha, q⟩ := h
  obtain ⟨k, rfl⟩ := rx
  obtain rfl : u = Value.ref a := ry
  obtain ⟨t1, t2, t3, ho⟩ := I.hok a _ ha
  show wpAny _ _ (do return Value.bool (!(← contains (Value.ref a) (Value.int i k)))) _ _ s
  refine wpAny_bind (wpAny_contains_slot (T := "range") ⟨_, ho, rfl⟩ F.slot_range_contains (call_meets F.slot_range_contains ⟨_, ho, rfl⟩ F.entry_range_contains (F.args_range_contains_2 _ _) (q_contains a lo hi i t1 t2 t3 k)
    ⟨ho, wpAny_truthy_bool (wpAny_pure ⟨.bl _, H, I, rfl, ?_⟩)⟩))
  rw [place1]
  exact q
def rngB (neg : Bool) : Bool → D → List D → Option Bool
  | true, .int i, [.int lo, .int hi] => some (neg != decide (lo ≤ i ∧ i < hi))
  | false, .int i, [.int hi] => some (neg != decide (0 ≤ i ∧ i < hi))
  | _, _, _ => none
def mInR (neg two : Bool) (ma : M Val) (ms : M (List Val)) : M Val := fun env => (ma env).bind fun a e1 => (ms e1).bind fun vals e2 => match view e2 a, views e2 vals with
  | some d, some ds => match rngB neg two d ds with
    | some b => .ok (.d (.bool b)) e2
    | none => .bad
  | _, _ => .bad
def rInRng (neg : Bool) : R2 := fun x y H Q => ∃ i a lo hi, x = V.int i ∧ y = V.ref a ∧ H a = some (.rng lo hi) ∧ Q (.bl (neg != decide (lo ≤ i ∧ i < hi))) H
theorem op_inRng {X : Cx} {neg : Bool} : OpR X (compareOp (if neg then .NotIn else .In)) (rInRng neg) := by
  cases neg with
  | true => exact fun pins s σ H x y v u Q I rx ry ⟨i, a, lo, hi, h1, h2, h3, q⟩ => op_notIn_rng pins s σ H x y v u Q I rx ry ⟨i, a, lo, hi, h1, h2, h3, by simpa using q⟩
  | false => exact fun pins s σ H x y v u Q I rx ry ⟨i, a, lo, hi, h1, h2, h3, q⟩ => op_in_rng pins s σ H x y v u Q I rx ry ⟨i, a, lo, hi, h1, h2, h3, by simpa using q⟩
section
variable {X : Cx} {G : Ct} {W : WX} {a b c : Expr} {ma : M Val} {ms : M (List Val)} {pos p p2 : Pos}
theorem inR_imp (neg two : Bool) {σ : L2.St} {H : Hp} {Q : VK} (h : tE G W (mInR neg two ma ms) σ H Q) : tE G W ma σ H fun x H1 => tA G W ms σ H1 fun vs H2 => ∃ i lo hi, x = V.int i ∧ ((two = true ∧ vs = [.int lo, .int hi]) ∨ (two = false ∧ lo = 0 ∧ vs = [.int hi])) ∧ ∀ p, H2 p = none → Q (.bl (neg != decide (lo ≤ i ∧ i < hi))) (upd H2 p (.rng lo hi)) := by
  obtain ⟨O, ad, env, j, q⟩ := h
  refine mono_E (seqE (β := R Val) (P := PostE G W O ad env σ H Q) xsE (fun _ z => z) (Kr.refl O (Fo O env ad) H) j q) fun x H1 ⟨ad2, env2, val2, k2, k3, w2, q2⟩ => ?_
  refine mono_A (seqA (β := R Val) (P := PostE G W O ad env σ H Q) xsE (valO_le val2 x) k2 w2.j q2) fun vs H3 ⟨O4, ad4, env4, vals, h1, h2, k4, k5, j4, w4, q4⟩ => ?_
  have b1 := (w2.vb (B := fun _ => False) fun _ z => z.elim).keep (O' := O4) (H2 := H3) (ad2 := ad4) (env2 := env4) ⟨k5.kq.kp.tup, k5.kq.kp.frz, fun a o e n => by
    obtain ⟨e2, n2⟩ := k5.kq.kp.obj a o e n
    refine ⟨e2, fun z => ?_⟩
    rcases z with z | z
    · rcases h2 a z with z | z
      · exact n2 (.inl z)
      · rw [z] at e; cases e
    · exact n2 (.inr z)⟩ (fun a o z e => k5.kq.out a o z e) h1
  split at q4
  · rename_i d ds e1 e2
    split at q4
    · rename_i bb eb
      have r1 := b1.view j4 e1
      have r2 := w4.views j4 e2
      have fin : ∀ {lo hi i : Int}, bb = (neg != decide (lo ≤ i ∧ i < hi)) → ∀ p, H3 p = none → Q (.bl (neg != decide (lo ≤ i ∧ i < hi))) (upd H3 p (.rng lo hi)) := fun {lo hi i} e p np => by
        subst e
        exact q4 ad4 _ _ (k4.trans (Kr.same (same_laid np))) ⟨(j4.less fun a z => h1 a (valO_le _ _ _ z)).same (same_laid np), .bl _⟩
      unfold rngB at eb
      split at eb
      · cases eb
        obtain ⟨v, w, rfl, s1, s2⟩ := r2.two
        obtain rfl := s1.toInt
        obtain rfl := s2.toInt
        exact ⟨_, _, _, r1.toInt, .inl ⟨rfl, rfl⟩, fin rfl⟩
      · cases eb
        obtain ⟨v, rfl, s1⟩ := r2.one
        obtain rfl := s1.toInt
        exact ⟨_, 0, _, r1.toInt, .inr ⟨rfl, rfl, rfl⟩, fin rfl⟩
      · cases eb
    · exact q4.elim
  · exact q4.elim
theorem e_inR2 (neg : Bool) {op : CmpOp} (hop : op = if neg then .NotIn else .In) (hg : Gl X "range") (hm : X.mg "range" = none) (ha : PE X a (tE G W ma)) (hb : PA X [b, c] (tA G W ms)) (hmk : behindInMarks op (.Call (.Name "range" p) [b, c] [] p2) = false := by with_unfolding_all rfl)
    (hs : starEach [b, c] X.env = (false, eval b X.env) :: starEach [c] X.env := by rfl) (hpl : (backTo p2 (starEach [c] X.env)).any (·.1) = false := by rfl) : PE X (.Compare a [op] [.Call (.Name "range" p) [b, c] [] p2] pos) (tE G W (mInR neg true ma ms)) := by
  refine imp_E (pe_cmpR (hop ▸ op_inRng (neg := neg)) ha (pe_callTy cr_range2 hg hm (by decide +kernel) hb (he := hs) (hpl := hpl)) hmk) fun σ H Q h => mono_E (inR_imp neg true h) fun x H1 h1 => mono_A h1 fun vs H2 ⟨i, lo, hi, e1, e2, q⟩ => ?_
  rcases e2 with ⟨_, e2⟩ | ⟨e0, _, e2⟩
  · exact ⟨lo, hi, e2, fun p np => ⟨i, p, lo, hi, e1, rfl, upd_same, q p np⟩⟩
  · cases e0
theorem e_inR1 (neg : Bool) {op : CmpOp} (hop : op = if neg then .NotIn else .In) (hg : Gl X "range") (hm : X.mg "range" = none) (ha : PE X a (tE G W ma)) (hb : PA X [b] (tA G W ms)) (hmk : behindInMarks op (.Call (.Name "range" p) [b] [] p2) = false := by with_unfolding_all rfl)
    (hs : starEach [b] X.env = (false, eval b X.env) :: starEach [] X.env := by rfl) (hpl : (backTo p2 (starEach [] X.env)).any (·.1) = false := by rfl) : PE X (.Compare a [op] [.Call (.Name "range" p) [b] [] p2] pos) (tE G W (mInR neg false ma ms)) := by
  refine imp_E (pe_cmpR (hop ▸ op_inRng (neg := neg)) ha (pe_callTy cr_range1 hg hm (by decide +kernel) hb (he := hs) (hpl := hpl)) hmk) fun σ H Q h => mono_E (inR_imp neg false h) fun x H1 h1 => mono_A h1 fun vs H2 ⟨i, lo, hi, e1, e2, q⟩ => ?_
  rcases e2 with ⟨e0, _⟩ | ⟨_, rfl, e2⟩
  · cases e0
  · exact ⟨hi, e2, fun p np => ⟨i, p, 0, hi, e1, rfl, upd_same, q p np⟩⟩
end
end Nb
namespace Nb
open L2 PySem PySem.Spec PyProof.Rows

/-! ### a display of one pair -/
def mDc1 (k : Str) (i : Int) : M Val := fun env => .ok (.f (.dct [.inr k] [.int i])) env
def mDc0 : M Val := fun env => .ok (.f (.dct [] [])) env
section
variable {X : Cx} {G : Ct} {W : WX}
theorem e_dict0 {pos} : PE X (.Dict [] [] pos) (tE G W mDc0) :=
  imp_E pe_dnewK fun σ H Q ⟨O, ad, env, j, q⟩ pp np => by
    refine finE (W := W) (fun _ z => z) (Kr.refl _ _ _) j q (v := .ref pp) ⟨fun b o e => ?_, pp, rfl, np, [], upd_same, rfl, .nil⟩
    have ne := ne_of_none e np
    rw [upd_ne ne]
    exact e
theorem e_dict1 {k : Str} {i : Int} {j1 j2 p1 p2 pos} : PE X (.Dict [some (.Constant (.str k) j1 p1)] [.Constant (.int i) j2 p2] pos) (tE G W (mDc1 k i)) :=
  imp_E (pe_disp (pps_cons pe_str pe_int pps_nil) rfl rfl (by simp) (by simp)) fun σ H Q ⟨O, ad, env, j, q⟩ pp np => by
    refine ⟨upd_same, [(.inr k, .int i)], rfl, by simp, ?_⟩
    refine finE (W := W) (fun _ z => z) (Kr.refl _ _ _) j q (v := .ref pp) ⟨fun b o e => ?_, pp, rfl, np, [.int i], upd_same, rfl, .cons (.int i) .nil⟩
    have ne := ne_of_none e np
    rw [upd_ne ne, upd_ne ne]
    exact e
end
end Nb
namespace Nb
open L2 PySem PySem.Spec PyProof.Rows

section
variable {X : Cx} {G : Ct} {W : WX} {e a r : Expr} {op : CmpOp} {t : M Bool} {m : M Val} {pos : Pos}
theorem t_W (h : PW X e (tT G W t)) : PT X e (tT G W t) := h.pt
end

section
variable {X : Cx} {G : Ct} {W : WX} {a b c : Expr} {ma : M Val} {ms : M (List Val)} {pos p p2 : Pos}
theorem t_inR2 (neg : Bool) {op : CmpOp} (hop : op = if neg then .NotIn else .In) (hg : Gl X "range") (hm : X.mg "range" = none) (ha : PE X a (tE G W ma)) (hb : PA X [b, c] (tA G W ms)) (hmk : behindInMarks op (.Call (.Name "range" p) [b, c] [] p2) = false := by with_unfolding_all rfl)
    (hs : starEach [b, c] X.env = (false, eval b X.env) :: starEach [c] X.env := by rfl) (hpl : (backTo p2 (starEach [c] X.env)).any (·.1) = false := by rfl) : PT X (.Compare a [op] [.Call (.Name "range" p) [b, c] [] p2] pos) (tT G W (mTst (mInR neg true ma ms))) := by
  refine imp_T (pt_cmpR (hop ▸ op_inRng (neg := neg)) ha (pe_callTy cr_range2 hg hm (by decide +kernel) hb (he := hs) (hpl := hpl)) hmk) fun σ H Q h => mono_E (inR_imp neg true (tst h)) fun x H1 h1 => mono_A h1 fun vs H2 ⟨i, lo, hi, e1, e2, q⟩ => ?_
  rcases e2 with ⟨_, e2⟩ | ⟨e0, _, e2⟩
  · exact ⟨lo, hi, e2, fun p np => ⟨i, p, lo, hi, e1, rfl, upd_same, q p np⟩⟩
  · cases e0
theorem t_inR1 (neg : Bool) {op : CmpOp} (hop : op = if neg then .NotIn else .In) (hg : Gl X "range") (hm : X.mg "range" = none) (ha : PE X a (tE G W ma)) (hb : PA X [b] (tA G W ms)) (hmk : behindInMarks op (.Call (.Name "range" p) [b] [] p2) = false := by with_unfolding_all rfl)
    (hs : starEach [b] X.env = (false, eval b X.env) :: starEach [] X.env := by rfl) (hpl : (backTo p2 (starEach [] X.env)).any (·.1) = false := by rfl) : PT X (.Compare a [op] [.Call (.Name "range" p) [b] [] p2] pos) (tT G W (mTst (mInR neg false ma ms))) := by
  refine imp_T (pt_cmpR (hop ▸ op_inRng (neg := neg)) ha (pe_callTy cr_range1 hg hm (by decide +kernel) hb (he := hs) (hpl := hpl)) hmk) fun σ H Q h => mono_E (inR_imp neg false (tst h)) fun x H1 h1 => mono_A h1 fun vs H2 ⟨i, lo, hi, e1, e2, q⟩ => ?_
  rcases e2 with ⟨e0, _⟩ | ⟨_, rfl, e2⟩
  · cases e0
  · exact ⟨hi, e2, fun p np => ⟨i, p, 0, hi, e1, rfl, upd_same, q p np⟩⟩
end

/-! ### the law's end -/
def spL (K : PySem.W.Frag) (n : Nat) : Sp := fun vs H Q _ => ∃ (a : Addr) (ns : List Int), vs = [.ref a] ∧ SqL K H a (ns.map V.int) ∧ ns.length ≤ n ∧ ∀ H', Q (.bl true) H'
theorem law_sp {K : PySem.W.Frag} {mg : Str → Option Value} {den : Fn} {n : Nat} (hd : ∀ ns : List Int, ns.length ≤ n → ∃ os, den [.v (.list (ns.map PyData.int))] = .ok (.bool true) os) {vs : List V} {H : Hp} {Q : VK} {E : XK} (h : spL K n vs H Q E) : spI K mg 1 den vs H Q E := by
  obtain ⟨a, ns, rfl, hS, hl, q⟩ := h
  obtain ⟨os, e⟩ := hd ns hl
  have nF : ∀ b, ¬ Fo (fun _ => False) [Sl.v (.list (ns.map PyData.int))] (fun _ => 0) b := fun b z => by
    rcases z with z | ⟨i, s, e, c, _⟩
    · exact z
    · cases i with
      | zero => cases e; cases c
      | succ i => simp at e
  have fz : FzL K (Fo (fun _ => False) [Sl.v (.list (ns.map PyData.int))] (fun _ => 0)) H a (ns.map V.int) := by
    rcases hS with (h | h) | h
    · exact .inl ⟨h, nF a⟩
    · exact .inr (.inl h)
    · exact .inr (.inr h)
  have io : ∀ (i : Nat) (c : Cl), ([Sl.v (.list (ns.map PyData.int))] : Ev)[i]? ≠ some (.io c) := fun i c e => by
    cases i with
    | zero => cases e
    | succ i => simp at e
  refine ⟨rfl, fun _ => False, fun _ => 0, fun _ => false, fun _ => False, fun _ => 0, [.v (.list (ns.map PyData.int))], ⟨rfl, fun i j s t e1 c1 e2 c2 _ => ?_, fun i s e1 c1 z => z, fun a z => z.elim, fun i c e1 => absurd e1 (io i c), fun i => ⟨fun z => (nomatch z), fun ⟨c, e1⟩ => absurd e1 (io i c)⟩, fun i c e1 => ?_, fun a => ⟨fun z => z.elim, fun ⟨i, z, _⟩ => nomatch z⟩, fun a o e1 _ => e1, fun i s e1 => ?_⟩, ?_⟩
  · cases i with
    | zero => cases e1; cases c1
    | succ i => simp at e1
  · cases i with
    | zero => cases e1; intro cc; cases cc
    | succ i => simp at e1
  · cases i with
    | zero => cases e1; exact ⟨_, rfl, .lst fz (RelL.ints ns)⟩
    | succ i => simp at e1
  · rw [e]
    exact fun v H' _ _ r => by rw [r.toBl]; exact q H'
theorem nb_end {l : PySem.W.OpenLaw} {n k : Nat} {q : Program} {loose : List Str} {XP : (Str → Option Value) → Heap → Prop} {YP : World → Heap → Prop} {d : DefRec} {K : Params → PySem.W.Frag} {x : Str} {den : Fn}
    (hn : l.most = some n) (hn2 : n ≤ sizeLine) (hdf : d.params.defaults = []) (hr : Room k callerA)
    (hY : ∀ (w : World) (h : Heap), YP w h → (K w.params).In h)
    (F : ∀ (w : World) (mg : Str → Option Value) (fa : Addr) (h : Heap), (K w.params).In h → h.Ns mainGlobals mg → mg d.name = some (.ref fa) →
      ∃ fd : FuncData, (∀ (s : Shared) (u : Value), BindsTo s fd ⟨[u], []⟩ [(x, u)]) ∧
        ∀ base : Heap, (K w.params).In base → base.Ns mainGlobals mg → FnOk l.prog w (K w.params) mg base (L2N.CX l.prog w) k fa fd [x] (spI (K w.params) mg [x].length den))
    (hd : ∀ ns : List Int, ns.length ≤ n → ∃ os, den [.v (.list (ns.map PyData.int))] = .ok (.bool true) os) :
    PySem.W.WalkO q loose XP YP l.row.toRowW d [] (fun f vs => PySem.call f vs) :=
  walk_of (CX := fun w => L2N.CX l.prog w) (sp := fun w => spL (K w.params) n) hn hn2 hdf hr hY (fun w mg fa h a b c => let ⟨fd, h1, h2⟩ := F w mg fa h a b c; ⟨fd, h1, fun base x y => (h2 base x y).imp fun vs H Q E z => law_sp hd z⟩)
    (fun w H a ns hl _ hS => ⟨a, ns, rfl, hS, hl, fun _ => rfl⟩) fun w H s e s' ⟨_, _, _, _, _, _, _, _, _, _, _, _, z⟩ => z
end Nb
namespace Nb
open L2 PySem PySem.Spec PyProof.Rows

/-! ### name[i] += e -/
theorem pget_list {X : Cx} : PGet X (rIxL X.K) := by
  intro pins s σ H o i ov iv Q I ro ri h
  obtain ⟨a, xs, n, y, rfl, rfl, hq, he, q⟩ := h
  cases ro
  obtain ⟨tk, rfl⟩ := ri
  obtain ⟨its, rel, pl, _⟩ := I.list hq
  obtain ⟨j, h1, h2, h3, h4, h5⟩ := atI_get he
  obtain ⟨u, eu, ru⟩ := rel.get h2
  have hlen := rel.length
  have big := line63
  by_cases h0 : 0 ≤ n
  · have hj : n.toNat = j := by
      rw [seqIndex_of h0 h5] at h1
      exact Option.some.inj h1
    exact wpAny_getItem_list pl.isList h0 (by omega) (by rw [hj]; simpa using eu) ⟨y, H, I, ru, q⟩
  · have hj : (n + (its.toArray.size : Int)).toNat = j := by
      rw [seqIndex_neg (by omega) h4] at h1
      rw [List.size_toArray, ← hlen]
      exact Option.some.inj h1
    exact wpAny_getItem_list_neg pl.isList (by omega) (by rw [List.size_toArray] <;> omega) (by omega) (by rw [hj]; simpa using eu) ⟨y, H, I, ru, q⟩
def cellS (o : Option Sl) : Option (List D) := match o with
  | some (.o (.lst ds)) => some ds
  | some (.io (.lst ds)) => some ds
  | _ => none
def intD : D → Option Int
  | .int i => some i
  | _ => none
def mAugS (k : Nat) (mi me : M Val) : S := fun env => if isL env[k]? = true then (mi env).out fun a e1 => ((view e1 a).bind intD).elim .bad fun n => (((cellS e1[k]?).bind fun ds => atI ds n).bind intD).elim .bad fun old =>
  (me e1).out fun b e2 => ((view e2 b).bind intD).elim .bad fun y => (putAt k n (.int (old + y)) e2).elim .bad .nx else .bad
section
variable {X : Cx} {G : Ct} {W : WX} {io e : Expr} {mi me : M Val} {pos p tpos : Pos}
theorem intD_inv {o : Option D} {n : Int} (h : o.bind intD = some n) : o = some (.int n) := by
  cases o with
  | none => cases h
  | some d =>
    cases d with
    | int i => cases h; rfl
    | _ => cases h
theorem cellS_inv {o : Option Sl} {ds : List D} (h : cellS o = some ds) : o = some (.o (.lst ds)) ∨ o = some (.io (.lst ds)) := by
  unfold cellS at h
  split at h
  · cases h; exact .inl rfl
  · cases h; exact .inr rfl
  · cases h
theorem s_augS (k : Nat) {x : Str} (hi : PE X io (tE G W mi)) (he : PE X e (tE G W me)) (hK : G.K = X.K) (hN : X.N[k]? = some x := by rfl) (hv : Vis X.env.scope x := by first | exact Or.inl rfl | exact Or.inr (Or.inl rfl) | exact Or.inr (Or.inr rfl)) (hd : (x == ("__debug__" : Str)) = false := by decide) (hcd : (x == ("__classdict__" : Str)) = false := by decide)
    (haug : ∀ ov iv new, augStore io ov iv new = (do holding [new, ov, iv] (setItem ov iv new); release [new, ov, iv] []; pure .next) := by intros; rfl) :
    PS X (.AugAssign (.Subscript (.Name x p) io tpos) .Add e pos) (tS G W (mAugS k mi me)) := imp_S (ps_augS (pe_var hN hv hd hcd) hi pget_list he ip_add set_list haug) fun E σ H ⟨O, ad, env, j, q⟩ => by
  unfold mAugS at q
  split at q
  · rename_i hl
    obtain ⟨s, ds, es, hs⟩ := isL_inv hl
    have z : σ.getD k none = some (.ref (ad k)) ∧ ClOk G.K (Fo O env ad) H (ad k) (.lst ds) := by
      rcases hs with rfl | rfl
      · exact j.at_ k _ es
      · exact j.at_ k _ es
    obtain ⟨f1, _⟩ := z
    refine ⟨_, getD_some f1, ?_⟩
    refine mono_E (seqE (β := Out) (P := PostS G W O ad env H E) xsS (fun _ z => z) (Kr.refl O (Fo O env ad) H) j q) fun iv H1 ⟨ad2, env2, a, k2, k3, w2, q2⟩ => ?_
    obtain ⟨n, en, q3⟩ := opt_inv (P := PostS G W O ad env H E) q2 fun z => z
    have hn := ((w2.vb (B := fun _ => False) fun _ z => z.elim).view w2.j (intD_inv en)).toInt
    subst hn
    obtain ⟨old, eo, q4⟩ := opt_inv (P := PostS G W O ad env H E) q3 fun z => z
    have eo := intD_inv eo
    have j2 := w2.j0
    cases ec : cellS env2[k]? with
    | none => rw [ec] at eo; cases eo
    | some ds2 =>
      rw [ec] at eo
      simp only [Option.bind_some] at eo
      have z2 : σ.getD k none = some (.ref (ad2 k)) ∧ ClOk G.K (Fo O env2 ad2) H1 (ad2 k) (.lst ds2) := by
        rcases cellS_inv ec with h | h
        · exact j2.at_ k _ h
        · exact j2.at_ k _ h
      obtain ⟨f2, xs, f3, rx⟩ := z2
      have ep : ad k = ad2 k := by rw [f1] at f2; injection f2 with f2; injection f2
      obtain ⟨v, ev, rv⟩ := atI_rel rx eo
      rw [rv.toInt] at ev
      refine ⟨ad k, xs, n, .int old, rfl, rfl, .inl (.inl (by rw [ep]; exact f3)), ev, ?_⟩
      refine mono_E (seqE (β := Out) (P := PostS G W O ad env H E) xsS (fun _ z => z) k2 j2 q4) fun y H3 ⟨ad4, env4, b, k4, k5, w4, q5⟩ => ?_
      obtain ⟨yn, ey, q6⟩ := opt_inv (P := PostS G W O ad env H E) q5 fun z => z
      have hy := ((w4.vb (B := fun _ => False) fun _ z => z.elim).view w4.j (intD_inv ey)).toInt
      subst hy
      refine ⟨old, yn, rfl, rfl, ?_⟩
      have j4 := w4.j0
      obtain ⟨env5, ep5, q7⟩ := opt_inv (P := PostS G W O ad env H E) q6 fun z => z
      obtain ⟨ds', jx, s', t, es', cs, ct, io', hst, hx, rfl⟩ := putAt_inv ep5
      have z4 : σ.getD k none = some (.ref (ad4 k)) ∧ ClOk G.K (Fo O env4 ad4) H3 (ad4 k) (.lst ds') := by
        rcases hst with ⟨rfl, _⟩ | ⟨rfl, _⟩
        · exact j4.at_ k _ es'
        · exact j4.at_ k _ es'
      obtain ⟨g1, ys, g2, ry⟩ := z4
      have ep4 : ad k = ad4 k := by rw [f1] at g1; injection g1 with g1; injection g1
      rw [ry.length] at hx
      refine ⟨ad k, ys, n, jx, rfl, rfl, by rw [ep4]; exact g2, hx, ?_⟩
      rw [ep4]
      have kp : Kp (Fo O env4 ad4) (Fo O (env4.set k t) ad4) H3 (upd H3 (ad4 k) (.lst (ys.set jx (.int (old + yn))))) := (Kp.write g2 (.inl ⟨_, rfl⟩) (.inr ⟨k, s', es', cs, rfl⟩)).trans (Kp.weak (fo_same es' cs))
      have rr : RelL G.K (Fo O (env4.set k t) ad4) (upd H3 (ad4 k) (.lst (ys.set jx (.int (old + yn))))) (ds'.set jx (.int (old + yn))) (ys.set jx (.int (old + yn))) := (RelL.set (.int _) jx ry).keep kp
      obtain ⟨j6, k6⟩ := j4.cell (t := t) (o' := .lst (ys.set jx (.int (old + yn)))) es' cs ct io' g2 (.inl ⟨_, rfl⟩) (by
        rcases hst with ⟨_, rfl⟩ | ⟨_, rfl⟩
        · exact ⟨g1, _, upd_same, rr⟩
        · exact ⟨g1, _, upd_same, rr⟩)
      exact q7 ad4 σ _ (k4.trans k6) j6
  · exact q.elim
end

/-! ### sum, min, max of a tuple too -/
section
variable {X : Cx}
def rSumT (K : PySem.W.Frag) : List V → Hp → VK → Prop := fun vs H Q => ∃ (a : Addr) (ns : List Int), vs = [V.ref a] ∧ SqT K H a (ns.map V.int) ∧ Q (.int ns.sum) H
theorem cr_sumT (hc : X.calm = true) : CallR X (.builtin "sum") (rSumT X.K) := by
  intro pins s σ H vs us Q I r h
  obtain ⟨a, ns, rfl, hq, q⟩ := h
  obtain ⟨its, rel, ht, _⟩ := I.tuple hq
  rw [Vals.ref1 r]
  have hi := rel.ints
  have hl : s.heap.IsTuple a its.toArray := ht
  obtain ⟨xs, hx⟩ := hi.allInts.items
  have hn : numsOf (intItems xs).toList = ns := by rw [← hx]; exact hi.numsOf
  rw [nums_intItems] at hn
  rw [hx] at hl
  refine PySem.W.ktm_sumG (I.ok.hd hc) hl fun h' tk t' hk => ?_
  rw [preSum_eq, List.take_of_length_le (by simp), hn]
  exact ⟨.int _, H, I.kept hk, ⟨_, rfl⟩, q⟩
def rMinT (K : PySem.W.Frag) : List V → Hp → VK → Prop := fun vs H Q => ∃ (a : Addr) (n : Int) (ns : List Int), vs = [V.ref a] ∧ SqT K H a ((n :: ns).map V.int) ∧ Q (.int (ns.foldl min n)) H
def rMaxT (K : PySem.W.Frag) : List V → Hp → VK → Prop := fun vs H Q => ∃ (a : Addr) (n : Int) (ns : List Int), vs = [V.ref a] ∧ SqT K H a ((n :: ns).map V.int) ∧ Q (.int (ns.foldl max n)) H
theorem dp_ints {K : PySem.W.Frag} {H : Hp} : ∀ ns : List Int, DpAll K H (ns.map V.int) (ns.map PyData.int)
  | [] => .nil
  | n :: ns => .cons (.int n) (dp_ints ns)
theorem alike_ints (ns : List Int) : PySem.W.AlikeAll (ns.map PyData.int) := by
  refine ⟨fun x hx y hy => ?_, fun x hx => ?_⟩
  · obtain ⟨a, _, rfl⟩ := List.mem_map.mp hx
    obtain ⟨b, _, rfl⟩ := List.mem_map.mp hy
    rfl
  · obtain ⟨a, _, rfl⟩ := List.mem_map.mp hx
    exact fun z => nomatch z
theorem depth0 : ∀ ns : List Int, PyData.depthAll (ns.map PyData.int) ≤ 0
  | [] => by simp [PyData.depthAll]
  | n :: ns => by
    have := depth0 ns
    simp only [List.map_cons, PyData.depthAll, PyData.depth]
    omega
theorem reads_int {h : Heap} {v : Value} {i : Int} {as : List Addr} (r : Reads h v (.int i) as) : ∃ t, v = .int i t := by
  cases r
  exact ⟨_, rfl⟩
theorem cr_minT (hc : X.calm = true) (hu : X.A.units + 64 < cLine) : CallR X (.builtin "min") (rMinT X.K) := by
  intro pins s σ H vs us Q I r h
  obtain ⟨a, n, ns, rfl, hq, q⟩ := h
  obtain ⟨its, rel, ht, _⟩ := I.tuple hq
  rw [Vals.ref1 r]
  obtain ⟨as, ra⟩ := Dp.readsAll I _ _ its (dp_ints (n :: ns)) rel
  have hd := depth0 (n :: ns)
  refine PySem.W.min_tuple_data (vs := its.toArray) (I.ok.hd hc) ht (x := .int n) (xs := ns.map PyData.int) (by simpa using ra) (alike_ints (n :: ns)) (by rw [List.map_cons] at hd; omega) fun i v h' tk bs hi rd hk => ?_
  rw [PySem.W.minD_ints] at rd
  obtain ⟨t, rfl⟩ := reads_int rd
  exact ⟨.int _, H, I.kept hk, ⟨_, rfl⟩, q⟩
theorem cr_maxT (hc : X.calm = true) (hu : X.A.units + 64 < cLine) : CallR X (.builtin "max") (rMaxT X.K) := by
  intro pins s σ H vs us Q I r h
  obtain ⟨a, n, ns, rfl, hq, q⟩ := h
  obtain ⟨its, rel, ht, _⟩ := I.tuple hq
  rw [Vals.ref1 r]
  obtain ⟨as, ra⟩ := Dp.readsAll I _ _ its (dp_ints (n :: ns)) rel
  have hd := depth0 (n :: ns)
  refine PySem.W.max_tuple_data (vs := its.toArray) (I.ok.hd hc) ht (x := .int n) (xs := ns.map PyData.int) (by simpa using ra) (alike_ints (n :: ns)) (by rw [List.map_cons] at hd; omega) fun i v h' tk bs hi rd hk => ?_
  rw [PySem.W.maxD_ints] at rd
  obtain ⟨t, rfl⟩ := reads_int rd
  exact ⟨.int _, H, I.kept hk, ⟨_, rfl⟩, q⟩
end
def gSumA : List D → Option Val
  | [.tuple ds] => (intsOf ds).map fun ns => .d (.int ns.sum)
  | ds => gSum ds
def gMinA : List D → Option Val
  | [.tuple ds] => (intsOf ds).bind fun ns => ns.min?.map fun m => .d (.int m)
  | ds => gMinL ds
def gMaxA : List D → Option Val
  | [.tuple ds] => (intsOf ds).bind fun ns => ns.max?.map fun m => .d (.int m)
  | ds => gMaxL ds
section
variable {K : PySem.W.Frag}
theorem intsT_at {F : Fb} {H : Hp} {ds : List D} {ns : List Int} {v : V} (r : RelB K F H (.tuple ds) v) (e : intsOf ds = some ns) : ∃ a, v = .ref a ∧ SqT K H a (ns.map V.int) := by
  obtain ⟨a, xs, rfl, h1, h2⟩ := r.toTup
  rw [intsOf_eq e] at h2
  rw [h2.toInts] at h1
  exact ⟨a, rfl, h1⟩
theorem g_sumA : OpA K gSumA (fun vs H Q => rSum K vs H Q ∨ rSumT K vs H Q) := fun F H vs ds res Q hF r hg q => by
  unfold gSumA at hg
  split at hg
  · rename_i es
    cases e : intsOf es with
    | none => rw [e] at hg; cases hg
    | some ns =>
      rw [e] at hg
      cases hg
      obtain ⟨v, rfl, r1⟩ := r.one
      obtain ⟨a, rfl, h⟩ := intsT_at r1 e
      exact .inr ⟨a, ns, rfl, h, q _ _ (NewOk.dat (.int _))⟩
  · exact .inl (g_sum F H vs _ res Q hF r hg q)
theorem g_minA : OpA K gMinA (fun vs H Q => rMin K vs H Q ∨ rMinT K vs H Q) := fun F H vs ds res Q hF r hg q => by
  unfold gMinA at hg
  split at hg
  · rename_i es
    cases e : intsOf es with
    | none => rw [e] at hg; cases hg
    | some ns =>
      rw [e] at hg
      cases ns with
      | nil => cases hg
      | cons n ns =>
        obtain ⟨v, rfl, r1⟩ := r.one
        obtain ⟨a, rfl, h⟩ := intsT_at r1 e
        cases hg
        exact .inr ⟨a, n, ns, rfl, h, q _ _ (NewOk.dat (.int _))⟩
  · exact .inl (g_minL F H vs _ res Q hF r hg q)
theorem g_maxA : OpA K gMaxA (fun vs H Q => rMax K vs H Q ∨ rMaxT K vs H Q) := fun F H vs ds res Q hF r hg q => by
  unfold gMaxA at hg
  split at hg
  · rename_i es
    cases e : intsOf es with
    | none => rw [e] at hg; cases hg
    | some ns =>
      rw [e] at hg
      cases ns with
      | nil => cases hg
      | cons n ns =>
        obtain ⟨v, rfl, r1⟩ := r.one
        obtain ⟨a, rfl, h⟩ := intsT_at r1 e
        cases hg
        exact .inr ⟨a, n, ns, rfl, h, q _ _ (NewOk.dat (.int _))⟩
  · exact .inl (g_maxL F H vs _ res Q hF r hg q)
theorem o_sumT {ns : List Int} : gSumA [.tuple (ns.map PyData.int)] = some (.d (.int ns.sum)) := by simp [gSumA]
theorem o_sumL {ns : List Int} : gSumA [.list (ns.map PyData.int)] = some (.d (.int ns.sum)) := by simp [gSumA, gSum]
end
end Nb
namespace Nb
open L2 PySem PySem.Spec PyProof.Rows

/-! ### dicts of ints and texts -/
def keyOf : D → Option Key
  | .int i => some (.inl i)
  | .str x => some (.inr x)
  | _ => none
theorem keyOf_eq {d : D} {k : Key} (h : keyOf d = some k) : d = keyD k := by
  cases d with
  | int i => cases h; rfl
  | str x => cases h; rfl
  | _ => cases h
theorem keyD_inj {a b : Key} (h : keyD a = keyD b) : a = b := by
  cases a <;> cases b <;> first | (cases h; rfl) | cases h
theorem RelB.key {K : PySem.W.Frag} {F : Fb} {H : Hp} {k : Key} {y : V} (r : RelB K F H (keyD k) y) : y = kV k := by
  cases k with
  | inl i => exact r.toInt
  | inr x => exact r.toStr
theorem keyOf_key (k : Key) : keyOf (keyD k) = some k := by cases k <;> rfl
def memK (ks : List Key) (k : Key) : Bool := ks.any fun q => decide (q = k)
def hasK (kvs : List (D × D)) (k : Key) : Bool := kvs.any fun p => decide (keyOf p.1 = some k)
theorem memK_cons {q k : Key} {ks : List Key} : memK (q :: ks) k = (decide (q = k) || memK ks k) := rfl
theorem hasK_zip {k : Key} : ∀ {ks : List Key} {ds : List D}, ks.length = ds.length → hasK ((ks.map keyD).zip ds) k = memK ks k
  | [], [], _ => rfl
  | q :: ks, d :: ds, h => by
    have ih := hasK_zip (k := k) (ks := ks) (ds := ds) (by simpa using h)
    unfold hasK at ih ⊢
    rw [List.map_cons, List.zip_cons_cons, List.any_cons, ih, memK_cons]
    dsimp only
    rw [keyOf_key]
    by_cases e : q = k <;> simp [e]
theorem val_zip {k : Key} : ∀ {ks : List Key} {vs : List V}, ks.length = vs.length → (valV (ks.zip vs) k).isSome = memK ks k
  | [], [], _ => rfl
  | q :: ks, v :: vs, h => by
    have ih := val_zip (k := k) (ks := ks) (vs := vs) (by simpa using h)
    rw [List.zip_cons_cons, memK_cons]
    by_cases e : q = k
    · rw [valV_pos (by exact e)]; simp [e]
    · rw [valV_neg (by exact e), ih]; simp [e]
theorem RelB.toDct {K : PySem.W.Frag} {F : Fb} {H : Hp} {kvs : List (D × D)} {v : V} (r : RelB K F H (.dict kvs) v) : ∃ (a : Addr) (ks : List Key) (ds : List D) (vs : List V), v = .ref a ∧ kvs = (ks.map keyD).zip ds ∧ H a = some (.dK (ks.zip vs)) ∧ ks.length = vs.length ∧ RelL K F H ds vs := by
  rcases r with r | ⟨a, c, e1, e2, r⟩
  · cases r with
    | dct h l n r => exact ⟨_, _, _, _, rfl, rfl, h, l, r⟩
  · obtain ⟨ks, ds, rfl, e3⟩ := clD_dct e2
    obtain ⟨vs, e4, l, r⟩ := r
    exact ⟨a, ks, ds, vs, e1, e3, e4, l, r⟩
def rInDct (neg : Bool) : R2 := fun y x H Q => ∃ a o, x = .ref a ∧ DGet H a y o ∧ Q (.bl (neg != o.isSome)) H
theorem op_inDct {X : Cx} (hu : X.A.units + 64 < cLine) : OpR X (compareOp .In) (rInDct false) := by
  intro pins s σ H y x u v Q I ry rx h
  obtain ⟨a, o, e, g, q⟩ := h
  subst e
  cases rx
  exact d_in (by omega) I g ry fun s' I' => ⟨.bl o.isSome, H, I', rfl, by simpa using q⟩
theorem op_notInDct {X : Cx} (hu : X.A.units + 64 < cLine) : OpR X (compareOp .NotIn) (rInDct true) := by
  intro pins s σ H y x u v Q I ry rx h
  obtain ⟨a, o, e, g, q⟩ := h
  subst e
  cases rx
  exact d_notIn (by omega) I g ry fun s' I' => ⟨.bl (!o.isSome), H, I', rfl, by simpa using q⟩
def rInA (K : PySem.W.Frag) (neg : Bool) : R2 := fun x y H Q => rInP K neg x y H Q ∨ rInDct neg x y H Q
theorem op_inA {X : Cx} (hu : X.A.units + 64 < cLine) : OpR X (compareOp .In) (rInA X.K false) := (op_inP hu).or (op_inDct hu)
theorem op_notInA {X : Cx} (hu : X.A.units + 64 < cLine) : OpR X (compareOp .NotIn) (rInA X.K true) := (op_notInP hu).or (op_notInDct hu)
def gInA (neg : Bool) : D → D → Option Val
  | d, .dict kvs => (keyOf d).map fun k => .d (.bool (neg != hasK kvs k))
  | d, e => gIn neg d e
theorem g_inA {K : PySem.W.Frag} {neg : Bool} : Op2 K (gInA neg) (rInA K neg) := by
  intro F H x y d e res Q hF rx ry hg q
  unfold gInA at hg
  split at hg
  · rename_i kvs
    cases hk : keyOf d with
    | none => rw [hk] at hg; cases hg
    | some k =>
      rw [hk] at hg
      cases hg
      obtain ⟨a, ks, ds, vs, rfl, rfl, h1, l, r⟩ := ry.toDct
      rw [keyOf_eq hk] at rx
      rw [rx.key]
      refine .inr ⟨a, _, rfl, DGet.k h1, ?_⟩
      rw [val_zip l, ← hasK_zip (l.trans r.length.symm)]
      exact q _ _ (NewOk.dat (.bl _))
  · exact .inl (g_in F H x y d _ res Q hF rx ry hg q)

/-! ### name[i] = value, a list or a dict -/
def repK {α : Type} (k : Key) (v : α) (ks : List Key) (vs : List α) : List α := List.zipWith (fun q x => if q = k then v else x) ks vs
def putKs (ks : List Key) (ds : List D) (k : Key) (d : D) : Cl := if memK ks k = true then .dct ks (repK k d ks ds) else .dct (ks ++ [k]) (ds ++ [d])
theorem repK_rel {K : PySem.W.Frag} {F : Fb} {H : Hp} {k : Key} {d : D} {v : V} (r : Rel K F H d v) : ∀ {ks : List Key} {ds : List D} {vs : List V}, RelL K F H ds vs → RelL K F H (repK k d ks ds) (repK k v ks vs)
  | [], _, _, _ => .nil
  | _ :: _, _, _, .nil => .nil
  | q :: ks, _, _, .cons a b => by
    unfold repK
    rw [List.zipWith_cons_cons, List.zipWith_cons_cons]
    refine .cons ?_ (repK_rel r b)
    split
    · exact r
    · exact a
theorem repK_len {α : Type} {k : Key} {v : α} {ks : List Key} {vs : List α} (h : ks.length = vs.length) : (repK k v ks vs).length = ks.length := by
  unfold repK; rw [List.length_zipWith]; omega
theorem put_zip {k : Key} {v : V} {ks : List Key} {vs : List V} (h : ks.length = vs.length) : putK (ks.zip vs) k v = if memK ks k = true then ks.zip (repK k v ks vs) else (ks ++ [k]).zip (vs ++ [v]) := by
  have hany : ∀ {ks : List Key} {vs : List V}, ks.length = vs.length → ((ks.zip vs).any fun kv => decide (kv.1 = k)) = memK ks k := by
    intro ks
    induction ks with
    | nil => intro vs _; rfl
    | cons q ks ih =>
      intro vs h
      cases vs with
      | nil => simp at h
      | cons u vs => rw [List.zip_cons_cons, List.any_cons, ih (by simpa using h), memK_cons]
  have hmap : ∀ {ks : List Key} {vs : List V}, (ks.zip vs).map (fun kv => if kv.1 = k then (kv.1, v) else kv) = ks.zip (repK k v ks vs) := by
    intro ks
    induction ks with
    | nil => intro vs; simp
    | cons q ks ih =>
      intro vs
      cases vs with
      | nil => simp [repK]
      | cons u vs =>
        unfold repK at ih ⊢
        rw [List.zip_cons_cons, List.map_cons, ih, List.zipWith_cons_cons, List.zip_cons_cons]
        congr 1
        dsimp only
        split <;> rfl
  unfold putK
  rw [hany h]
  by_cases e : memK ks k = true
  · rw [if_pos e, if_pos e, hmap]
  · rw [if_neg e, if_neg e, List.zip_append h]
    rfl
def rSetD : V → V → V → Hp → (Hp → Prop) → Prop := fun o i v H Q => ∃ a H', o = .ref a ∧ DPut H a i v H' ∧ Q H'
def rSetA : V → V → V → Hp → (Hp → Prop) → Prop := fun o i v H Q => rSetL o i v H Q ∨ rSetD o i v H Q
theorem set_any {X : Cx} (hu : X.A.units + 64 < cLine) : PSet X rSetA := by
  intro pins s σ H o i v ov iv u Q I ro ri rv h
  rcases h with h | ⟨a, H', rfl, g, q⟩
  · exact set_list pins s σ H o i v ov iv u Q I ro ri rv h
  · cases ro
    exact d_setItem (by omega) I g ri rv fun s' I' => ⟨H', I', q⟩
def putA (k : Nat) (x d : D) (env : Ev) : Option Ev := match x with
  | .int n => match env[k]? with
    | some (.o (.dct ks ds)) => if ks.length < line then some (env.set k (.o (putKs ks ds (.inl n) d))) else none
    | some (.io (.dct ks ds)) => if ks.length < line then some (env.set k (.io (putKs ks ds (.inl n) d))) else none
    | _ => putAt k n d env
  | .str z => match env[k]? with
    | some (.o (.dct ks ds)) => if ks.length < line then some (env.set k (.o (putKs ks ds (.inr z) d))) else none
    | some (.io (.dct ks ds)) => if ks.length < line then some (env.set k (.io (putKs ks ds (.inr z) d))) else none
    | _ => none
  | _ => none
def isCl (s : Option Sl) : Bool := match s with
  | some (.o _) => true
  | some (.io _) => true
  | _ => false
def gPutA (k : Nat) (mi : M Val) : Tg := fun d env => if isCl env[k]? = true then (mi env).elim (fun a e1 => (view e1 a).elim none fun x => putA k x d e1) (fun _ _ => none) none else none
theorem isCl_inv {o : Option Sl} (h : isCl o = true) : ∃ s c, o = some s ∧ (s = .o c ∨ s = .io c) := by
  unfold isCl at h
  split at h
  · exact ⟨_, _, rfl, .inl rfl⟩
  · exact ⟨_, _, rfl, .inr rfl⟩
  · cases h
theorem putA_inv {k : Nat} {x d : D} {env e' : Ev} (h : putA k x d env = some e') :
    (∃ n, x = .int n ∧ putAt k n d env = some e') ∨ ∃ (key : Key) (ks : List Key) (ds : List D) (s t : Sl), x = keyD key ∧ env[k]? = some s ∧ isC s = true ∧ isC t = true ∧ isIo t = isIo s ∧ (s = .o (.dct ks ds) ∧ t = .o (putKs ks ds key d) ∨ s = .io (.dct ks ds) ∧ t = .io (putKs ks ds key d)) ∧ ks.length < line ∧ e' = env.set k t := by
  unfold putA at h
  split at h
  · rename_i n
    split at h
    · rename_i ks ds e
      split at h
      · rename_i hl
        cases h
        exact .inr ⟨.inl n, ks, ds, .o (.dct ks ds), .o (putKs ks ds (.inl n) d), rfl, e, rfl, rfl, rfl, .inl ⟨rfl, rfl⟩, hl, rfl⟩
      · cases h
    · rename_i ks ds e
      split at h
      · rename_i hl
        cases h
        exact .inr ⟨.inl n, ks, ds, .io (.dct ks ds), .io (putKs ks ds (.inl n) d), rfl, e, rfl, rfl, rfl, .inr ⟨rfl, rfl⟩, hl, rfl⟩
      · cases h
    · exact .inl ⟨n, rfl, h⟩
  · rename_i z
    split at h
    · rename_i ks ds e
      split at h
      · rename_i hl
        cases h
        exact .inr ⟨.inr z, ks, ds, .o (.dct ks ds), .o (putKs ks ds (.inr z) d), rfl, e, rfl, rfl, rfl, .inl ⟨rfl, rfl⟩, hl, rfl⟩
      · cases h
    · rename_i ks ds e
      split at h
      · rename_i hl
        cases h
        exact .inr ⟨.inr z, ks, ds, .io (.dct ks ds), .io (putKs ks ds (.inr z) d), rfl, e, rfl, rfl, rfl, .inr ⟨rfl, rfl⟩, hl, rfl⟩
      · cases h
    · cases h
  · cases h
section
variable {X : Cx} {G : Ct} {W : WX} {io : Expr} {mi : M Val} {pos p : Pos}
theorem g_putA (k : Nat) {x : Str} {T : List Nat} (hu : X.A.units + 64 < cLine) (hi : PE X io (tE G NoX mi)) (hN : X.N[k]? = some x := by rfl) (hv : Vis X.env.scope x := by first | exact Or.inl rfl | exact Or.inr (Or.inl rfl) | exact Or.inr (Or.inr rfl)) (hd : (x == ("__debug__" : Str)) = false := by decide) (hcd : (x == ("__classdict__" : Str)) = false := by decide)
    (ha : ∀ v, assign (.Subscript (.Name x p) io pos) X.env v = (do
      let ov ← holding [v] (eval (.Name x p) X.env)
      let iv ← holding [v, ov] (eval io X.env)
      standAt pos
      holding [v, ov, iv] (setItem ov iv v)
      release [v, ov, iv] []) := by intro _; rfl) : PG X (.Subscript (.Name x p) io pos) (tG G T (gPutA k mi)) :=
  imp_G (pg_sub (pe_var hN hv hd hcd) hi (set_any hu) ha) fun v σ H Q ⟨O, ad, env, d, j, r, q⟩ => by
    unfold gPutA at q
    split at q
    · rename_i e' eg
      split at eg
      · rename_i hl
        obtain ⟨s, c, es, hs⟩ := isCl_inv hl
        have z : σ.getD k none = some (.ref (ad k)) ∧ ClOk G.K (Fo O env ad) H (ad k) c := by
          rcases hs with rfl | rfl
          · exact j.at_ k _ es
          · exact j.at_ k _ es
        obtain ⟨e1, _⟩ := z
        refine ⟨_, getD_some e1, O, ad, env, j, ?_⟩
        cases em : mi env with
        | bad => rw [em] at eg; cases eg
        | ex _ _ => rw [em] at eg; cases eg
        | ok a env2 =>
          rw [em] at eg
          simp only [R.elim_ok] at eg
          intro ad2 u H2 k2 w2
          have j2 := w2.j
          have b2 := w2.vb (B := fun _ => False) fun _ z => z.elim
          cases ev : view env2 a with
          | none => rw [ev] at eg; cases eg
          | some xd =>
            rw [ev] at eg
            have bx := b2.view j2 ev
            have j3 := j2.less (valO_le a u)
            rcases putA_inv eg with ⟨n, rfl, eg2⟩ | ⟨key, ks, ds, s', t, rfl, es', cs, ct, io', hst, hlen, rfl⟩
            · have hu' := bx.toInt
              subst hu'
              obtain ⟨ds', jx, s', t, es', cs, ct, io', hst, hx, rfl⟩ := putAt_inv eg2
              have z2 : σ.getD k none = some (.ref (ad2 k)) ∧ ClOk G.K (Fo O env2 ad2) H2 (ad2 k) (.lst ds') := by
                rcases hst with ⟨rfl, _⟩ | ⟨rfl, _⟩
                · exact j3.at_ k _ es'
                · exact j3.at_ k _ es'
              obtain ⟨f1, xs, f2, rx⟩ := z2
              have f1' := f1
              rw [e1] at f1
              have ep : ad k = ad2 k := by injection f1 with f1; injection f1
              rw [ep]
              rw [rx.length] at hx
              refine .inl ⟨_, xs, n, jx, rfl, rfl, f2, hx, ?_⟩
              have kp : Kp (Fo O env2 ad2) (Fo O (env2.set k t) ad2) H2 (upd H2 (ad2 k) (.lst (xs.set jx v))) := (Kp.write f2 (.inl ⟨_, rfl⟩) (.inr ⟨k, s', es', cs, rfl⟩)).trans (Kp.weak (fo_same es' cs))
              have rr : RelL G.K (Fo O (env2.set k t) ad2) (upd H2 (ad2 k) (.lst (xs.set jx v))) (ds'.set jx d) (xs.set jx v) := ((RelL.set (r.keep k2.kq.kp) jx rx)).keep kp
              obtain ⟨j4, k4⟩ := j3.cell (t := t) (o' := .lst (xs.set jx v)) es' cs ct io' f2 (.inl ⟨_, rfl⟩) (by
                rcases hst with ⟨_, rfl⟩ | ⟨_, rfl⟩
                · exact ⟨f1', _, upd_same, rr⟩
                · exact ⟨f1', _, upd_same, rr⟩)
              exact q ad2 σ _ (k2.trans k4) j4 (.refl _ _)
            · have hu' := bx.key
              subst hu'
              have z2 : σ.getD k none = some (.ref (ad2 k)) ∧ ClOk G.K (Fo O env2 ad2) H2 (ad2 k) (.dct ks ds) := by
                rcases hst with ⟨rfl, _⟩ | ⟨rfl, _⟩
                · exact j3.at_ k _ es'
                · exact j3.at_ k _ es'
              obtain ⟨f1, vs, f2, lk, rx⟩ := z2
              have f1' := f1
              rw [e1] at f1
              have ep : ad k = ad2 k := by injection f1 with f1; injection f1
              rw [ep]
              have hz : (ks.zip vs).length = ks.length := by rw [List.length_zip]; omega
              refine .inr ⟨_, _, rfl, DPut.k f2 (by rw [hz, line_eq]; exact hlen), ?_⟩
              have kp : Kp (Fo O env2 ad2) (Fo O (env2.set k t) ad2) H2 (upd H2 (ad2 k) (.dK (putK (ks.zip vs) key v))) := (Kp.write f2 (.inr (.inl ⟨_, rfl⟩)) (.inr ⟨k, s', es', cs, rfl⟩)).trans (Kp.weak (fo_same es' cs))
              have cl : ClOk G.K (Fo O (env2.set k t) ad2) (upd H2 (ad2 k) (.dK (putK (ks.zip vs) key v))) (ad2 k) (putKs ks ds key d) := by
                have rv := r.keep k2.kq.kp
                rw [put_zip lk]
                unfold putKs
                by_cases hm : memK ks key = true
                · rw [if_pos hm, if_pos hm]
                  have kp2 := kp
                  rw [put_zip lk, if_pos hm] at kp2
                  exact ⟨_, upd_same, by rw [repK_len lk], (repK_rel rv rx).keep kp2⟩
                · rw [if_neg hm, if_neg hm]
                  have kp2 := kp
                  rw [put_zip lk, if_neg hm] at kp2
                  exact ⟨_, upd_same, by simp [lk], (rx.append (.cons rv .nil)).keep kp2⟩
              obtain ⟨j4, k4⟩ := j3.cell (t := t) (o' := .dK (putK (ks.zip vs) key v)) es' cs ct io' f2 (.inr (.inl ⟨_, rfl⟩)) (by
                rcases hst with ⟨_, rfl⟩ | ⟨_, rfl⟩
                · exact ⟨f1', cl⟩
                · exact ⟨f1', cl⟩)
              exact q ad2 σ _ (k2.trans k4) j4 (.refl _ _)
      · cases eg
    · exact q.elim
end

/-! ### {k: v} -/
def mDc (mk mv : M Val) : M Val := fun env => (mk env).bind fun a e1 => (mv e1).bind fun b e2 => ((view e2 a).bind keyOf).elim .bad fun k => (asD e2 b).elim .bad fun p => .ok (.f (.dct [k] [p.1])) p.2
section
variable {X : Cx} {G : Ct} {W : WX} {ke ve e : Expr} {mk mv me : M Val} {pos : Pos}
theorem key_inv {o : Option D} {k : Key} (h : o.bind keyOf = some k) : o = some (keyD k) := by
  cases o with
  | none => cases h
  | some d => rw [keyOf_eq h]
theorem e_dict (hk : PE X ke (tE G W mk)) (hv : PE X ve (tE G W mv)) : PE X (.Dict [some ke] [ve] pos) (tE G W (mDc mk mv)) :=
  imp_E (pe_disp (pps_cons hk hv pps_nil) rfl rfl (by simp) (by simp)) fun σ H Q ⟨O, ad, env, j, q⟩ p np => by
    have jp : J G (Add O p) ad env σ (upd H p (.dK [])) := j.laid np
    have nO : ¬ O p := fun z => j.outs p z np
    have kp0 : Kr O (Fo O env ad) (Fo O env ad) H (upd H p (.dK [])) := Kr.same (same_laid np)
    refine mono_E (seqE (β := R Val) (P := PostE G W O ad env σ H Q) xsE (fun _ z => .inl z) kp0 jp q) fun x H2 ⟨ad2, env2, a, k2, k3, w2, q2⟩ => ?_
    refine mono_E (seqE (β := R Val) (P := PostE G W O ad env σ H Q) xsE (fun _ z => valO_le a x _ (.inl z)) k2 w2.j q2) fun y H5 ⟨ad5, env5, b, k5, k6, w5, q5⟩ => ?_
    obtain ⟨k, ek, q6⟩ := opt_inv (P := PostE G W O ad env σ H Q) q5 fun z => z
    obtain ⟨⟨d, env7⟩, ea, q7⟩ := opt_inv (P := PostE G W O ad env σ H Q) q6 fun z => z
    have b1 := (w2.vb (B := fun _ => False) fun _ z => z.elim).later k6 w5
    have hx := (b1.view w5.j (key_inv ek)).key
    subst hx
    obtain ⟨j7, k7, r7⟩ := asD_val w5 ea
    have hp2 : H2 p = some (.dK []) := k3.kq.out p _ (.inr rfl) upd_same
    have hp5 : H5 p = some (.dK []) := k6.kq.out p _ (valO_le a (kV k) _ (.inr rfl)) hp2
    refine ⟨hp5, [(k, y)], rfl, by simp, ?_⟩
    have j8 : J G (Add O p) ad5 env7 σ H5 := j7.less fun z hz => valO_le a (kV k) _ hz
    have j9 := j8.outer_write (o' := .dK (mergeK [] [(k, y)])) (.inr rfl) hp5 (.inr (.inl ⟨_, rfl⟩)) (j.fresh np).2
    have wk : ∀ z, Fo (Add O p) env7 ad5 z → Fo (valO (Add O p) a (kV k)) env7 ad5 z := fun z hz => by
      rcases hz with hz | hz
      · exact .inl (valO_le a (kV k) _ hz)
      · exact .inr hz
    have kw : Kp (Fo (Add O p) env7 ad5) (Fo (Add O p) env7 ad5) H5 (upd H5 p (.dK (mergeK [] [(k, y)]))) := Kp.write hp5 (.inr (.inl ⟨_, rfl⟩)) (.inl (.inr rfl))
    have r9 := (r7.keep (Kp.weak wk)).keep kw
    have kk : Kr O (Fo O env ad) (Fo O env7 ad5) H H5 := k5.trans (k7.less (fun z hz => valO_le a (kV k) _ (.inl hz)) j7)
    refine q7 ad5 (.ref p) _ ⟨⟨⟨fun c xs h => kw.tup c xs (kk.kq.kp.tup c xs h), fun c o u h => kw.frz c o u (kk.kq.kp.frz c o u h), fun c o h n => ?_⟩, fun c o oc h => ?_⟩, fun c h => ?_⟩ ⟨p, rfl, np, nO, j9, [y], upd_same, rfl, .cons r9 .nil⟩
    · have ne : c ≠ p := ne_of_none h np
      obtain ⟨h1, h2⟩ := kk.kq.kp.obj c o h n
      exact ⟨by rw [upd_ne ne]; exact h1, h2⟩
    · rw [upd_ne (ne_of_none h np)]; exact kk.kq.out c o oc h
    · by_cases z : c = p
      · subst z; exact (h np).elim
      · rw [upd_ne z]; exact kk.dom c h

/-! ### for k in a dict that was just made -/
def tFrz (te : TE) : TE := fun σ H Q => te σ H fun x H1 => ∃ d u, x = .ref d ∧ H1 d = some u ∧ Mut (some u) ∧ ∀ od, Q x (upd H1 d (.frz od u))
theorem pe_frz {te : TE} (he : PE X e te) : PE X e (tFrz te) := by
  refine ⟨fun pins s σ H Q I h => ?_⟩
  refine thn (he.run pins s σ H _ I h) fun v s1 ⟨x, H1, I1, r1, d, u, ex, hd, mu, q⟩ => ?_
  obtain ⟨od, I2⟩ := I1.lock hd mu
  exact ⟨x, _, I2, r1, q od⟩
def keysOf (env : Ev) : Val → R (List D)
  | .f (.dct ks _) => .ok (ks.map keyD) env
  | _ => .bad
def mKeys (me : M Val) : M (List D) := fun env => (me env).bind fun a e1 => keysOf e1 a
theorem rel_key {K : PySem.W.Frag} {F : Fb} {H : Hp} (k : Key) : Rel K F H (keyD k) (kV k) := by
  cases k with
  | inl i => exact .int i
  | inr x => exact .str x
theorem src_keys {wk : Bool} {K : PySem.W.Frag} {O F : Fb} {H : Hp} {d : Addr} {o : Obj} {ks : List Key} {vs : List V} (h : H d = some (.frz o (.dK (ks.zip vs)))) (l : ks.length = vs.length) : Src wk K O F H (Itk d o (ks.zip vs)) (ks.map keyD) where
  stop := fun F2 H2 k => ⟨k.kq.kp.frz _ _ _ h, by rw [List.length_zip, List.length_map]; omega⟩
  go := fun F2 H2 i x k e => by
    have hi := (List.getElem?_eq_some_iff.mp e).1
    rw [List.length_map] at hi
    exact ⟨k.kq.kp.frz _ _ _ h, by rw [List.length_zip]; omega⟩
  yld := fun F2 H2 i x v H3 k e y => by
    obtain ⟨eH, q, u, e2, rfl⟩ := y
    subst eH
    have hi := (List.getElem?_eq_some_iff.mp e).1
    rw [List.length_map] at hi
    rw [List.zip_eq_zipWith, List.getElem?_zipWith, List.getElem?_eq_getElem hi, List.getElem?_eq_getElem (by omega)] at e2
    rw [List.getElem?_map, List.getElem?_eq_getElem hi] at e
    cases e2
    cases e
    exact ⟨Same.refl _, .of (rel_key _)⟩
theorem i_keys {tg : Expr} (he : PE X e (tE G W me)) : PI X tg e (tIt false G W (mKeys me)) := imp_I (pi_keys (pe_frz he)) fun σ H R0 ⟨O, ad, env, j, q⟩ => by
  refine mono_E (seqE (β := R (List D)) (P := PostI false G W O ad env σ H R0) xsI (fun _ z => z) (Kr.refl O (Fo O env ad) H) j q) fun x H1 ⟨ad2, env2, a, k2, k3, w2, q2⟩ => ?_
  unfold keysOf at q2
  split at q2
  · rename_i ks ds
    obtain ⟨p, rfl, np, nO, j2, vs, e1, l, r⟩ := w2
    refine ⟨p, _, rfl, e1, trivial, fun od => ⟨p, od, rfl, .inl ⟨_, upd_same, ?_⟩⟩⟩
    have j3 := (j2.outer_write (o' := .frz od (.dK (ks.zip vs))) (.inr rfl) e1 (.inr (.inl ⟨_, rfl⟩)) (j.fresh np).2).less (O' := O) fun _ z => .inl z
    refine q2 ad2 _ _ ?_ j3 (src_keys upd_same l)
    refine ⟨⟨⟨fun c xs h => ?_, fun c o u h => ?_, fun c o h n => ?_⟩, fun c o oc h => ?_⟩, fun c h => ?_⟩
    · rw [upd_ne (ne_of_none h np)]; exact k2.kq.kp.tup c xs h
    · rw [upd_ne (ne_of_none h np)]; exact k2.kq.kp.frz c o u h
    · obtain ⟨h1, h2⟩ := k2.kq.kp.obj c o h n
      exact ⟨by rw [upd_ne (ne_of_none h np)]; exact h1, h2⟩
    · rw [upd_ne (ne_of_none h np)]; exact k2.kq.out c o oc h
    · by_cases z : c = p
      · subst z; exact (h np).elim
      · rw [upd_ne z]; exact k2.dom c h
  · exact q2.elim
end

/-! ### sorted(set(..)) -/
def insU (x : Int) : List Int → List Int
  | [] => [x]
  | y :: ys => if x < y then x :: y :: ys else if x = y then y :: ys else y :: insU x ys
def sortU (ns : List Int) : List Int := ns.foldr insU []
theorem insU_mem {x k : Int} : ∀ {ys : List Int}, k ∈ insU x ys ↔ k = x ∨ k ∈ ys
  | [] => by simp [insU]
  | y :: ys => by
    unfold insU
    split
    · simp
    · split
      · rename_i h; subst h; simp
      · rw [List.mem_cons, insU_mem, List.mem_cons]
        constructor
        · rintro (h | h | h)
          · exact .inr (.inl h)
          · exact .inl h
          · exact .inr (.inr h)
        · rintro (h | h | h)
          · exact .inr (.inl h)
          · exact .inl h
          · exact .inr (.inr h)
theorem insU_sorted {x : Int} : ∀ {ys : List Int}, ys.Pairwise (· < ·) → (insU x ys).Pairwise (· < ·)
  | [], _ => by simp [insU]
  | y :: ys, h => by
    obtain ⟨h1, h2⟩ := List.pairwise_cons.mp h
    unfold insU
    split
    · rename_i hx
      exact List.pairwise_cons.mpr ⟨fun z hz => by
        rcases List.mem_cons.mp hz with e | hz
        · subst e; exact hx
        · exact Int.lt_trans hx (h1 z hz), h⟩
    · split
      · exact h
      · refine List.pairwise_cons.mpr ⟨fun z hz => ?_, insU_sorted h2⟩
        rcases insU_mem.mp hz with e | hz
        · subst e; omega
        · exact h1 z hz
theorem sortU_mem {k : Int} : ∀ {ns : List Int}, k ∈ sortU ns ↔ k ∈ ns
  | [] => by simp [sortU]
  | n :: ns => by
    have ih := sortU_mem (k := k) (ns := ns)
    unfold sortU at ih ⊢
    rw [List.foldr_cons, insU_mem, List.mem_cons, ih]
theorem sortU_sorted : ∀ ns : List Int, (sortU ns).Pairwise (· < ·)
  | [] => .nil
  | n :: ns => insU_sorted (sortU_sorted ns)
theorem sorted_unique {ns ms : List Int} (h1 : ns.Pairwise (· < ·)) (h2 : ms.Pairwise (· < ·)) (h : ∀ k, k ∈ ns ↔ k ∈ ms) : ns = ms := by
  have n1 : ns.Nodup := h1.imp fun h => Int.ne_of_lt h
  have n2 : ms.Nodup := h2.imp fun h => Int.ne_of_lt h
  exact List.Perm.eq_of_pairwise (fun a b _ _ x y => absurd x (Int.lt_asymm y)) h1 h2 ((List.perm_ext_iff_of_nodup n1 n2).mpr h)
def rSetT (K : PySem.W.Frag) (w : World) : List V → Hp → VK → Prop := fun vs H Q => ∃ (p : Addr) (ns : List Int), vs = [.ref p] ∧ SqT K H p (ns.map V.int) ∧ ns.length ≤ 1000 ∧ ∀ q c, H q = none → c ≤ ns.length → Q (.ref q) (upd H q (SetO w q (fun j => decide (j ∈ ns)) c))
theorem cr_setT {X : Cx} (hc : X.calm = true) : CallR X (.type "set") (rSetT X.K X.w) := by
  intro pins s σ H vs us Q I r h
  obtain ⟨p, ns, rfl, hq, hl, q⟩ := h
  obtain ⟨its, rel, ht, _⟩ := I.tuple hq
  rw [Vals.ref1 r]
  have hi : IntsAre its.toArray.toList ns := ints_of_vals rel
  refine call_set_tupI ns (I.ok.hd hc) (show s.heap.IsTuple p its.toArray from ht) hi (by unfold scanBound; omega) fun h' tk c R1 hcn k => ?_
  exact ⟨.ref s.heap.objs.size, _, I.laid (t' := tk) k (Nat.le_refl _) (setO_new R1), rfl, q _ c (I.hok.fresh (Nat.le_refl _)) hcn⟩
def gSortU : List D → Option Val
  | [.tuple ds] => (intsOf ds).bind fun ns => if ns.length < 64 then some (.f (.lst ((sortU ns).map PyData.int))) else none
  | _ => none
theorem g_sortU {K : PySem.W.Frag} {w : World} : OpA K gSortU (fun vs H Q => rSetT K w vs H fun x H1 => rSortedSet w [x] H1 Q) := fun F H vs ds res Q hF r hg q => by
  unfold gSortU at hg
  split at hg
  · rename_i es
    cases e : intsOf es with
    | none => rw [e] at hg; cases hg
    | some ns =>
      rw [e] at hg
      simp only [Option.bind_some] at hg
      split at hg
      · rename_i hl
        cases hg
        obtain ⟨v, rfl, r1⟩ := r.one
        obtain ⟨a, rfl, h⟩ := intsT_at r1 e
        refine ⟨a, ns, rfl, h, by omega, fun p c np hc => ⟨p, _, c, rfl, upd_same, by omega, fun ms t hs hm _ nt => ?_⟩⟩
        have em : ms = sortU ns := sorted_unique hs (sortU_sorted ns) fun k => by rw [hm k, sortU_mem]; simp
        subst em
        have ntp : t ≠ p := fun z => by rw [z, upd_same] at nt; cases nt
        have nt2 : H t = none := by rw [upd_ne ntp] at nt; exact nt
        refine q _ _ ⟨fun b o hb => ?_, t, rfl, nt2, _, upd_same, RelL.ints _⟩
        rw [upd_ne (ne_of_none hb nt2), upd_ne (ne_of_none hb np)]
        exact hb
      · cases hg
  · cases hg
section
variable {X : Cx} {G : Ct} {W : WX} {e : Expr} {ms : M (List Val)} {p p2 pos pos2 : Pos}
theorem e_sortset (hK : G.K = X.K) (hc : X.calm = true) (hg : Gl X "sorted") (hm : X.mg "sorted" = none) (hg2 : Gl X "set") (hm2 : X.mg "set" = none) (ha : PA X [e] (tA G W ms))
    (hs : starEach [e] X.env = (false, eval e X.env) :: starEach [] X.env := by rfl) (hpl : (backTo pos2 (starEach [] X.env)).any (·.1) = false := by rfl)
    (hs2 : starEach [.Call (.Name "set" p2) [e] [] pos2] X.env = (false, eval (.Call (.Name "set" p2) [e] [] pos2) X.env) :: starEach [] X.env := by rfl) (hpl2 : (backTo pos (starEach [] X.env)).any (·.1) = false := by rfl) :
    PE X (.Call (.Name "sorted" p) [.Call (.Name "set" p2) [e] [] pos2] [] pos) (tE G W (mA gSortU ms)) :=
  imp_E (pe_callB (cr_sortedSet hc) hg hm (by decide +kernel) (pa_cons (pe_callTy (cr_setT hc) hg2 hm2 (by decide +kernel) ha (he := hs) (hpl := hpl)) pa_nil hs2) (he := hs2) (hpl := hpl2)) fun σ H Q h => by
    have z := many (r := fun vs H Q => rSetT X.K X.w vs H fun x H1 => rSortedSet X.w [x] H1 Q) (hK ▸ g_sortU) h
    exact z
end
end Nb
namespace Nb
open L2 PySem PySem.Spec PyProof.Rows

/-! ### defs that are called where an exception is handled -/
theorem tk0 {X : Cx} : L2N.Takes X (fun _ _ _ _ => False) := fun _ _ ⟨_, _, _, _, _, _, _, _, _, _, _, _, _, _, _, _, z⟩ => z.elim
structure FnP (P : Program) (w : World) (K : PySem.W.Frag) (mg : Str → Option Value) (base : Heap) (C0 : CXT) (k : Nat) (f : Addr) (fd : FuncData) (ps : List Str) (sp : Addr × Obj → Sp) : Prop where
  size : ∀ q vs H Q E, sp q vs H Q E → vs.length = ps.length
  runs : ∀ (A : Around) (outer : List Env) (s : Shared) (H : Hp) (args : Args) (us : List Value) (vs : List V) (Q : VK) (E : XK) (q : Addr × Obj), L2H.RoomH k A → L2H.Hot1 A q → L2H.PinOk outer H s q → Env0 P w K mg base A outer s H →
    BindsTo s fd args (ps.zip us) → Vals vs us → sp q vs H Q E → codeAny (model P w) A (.call (.ref f) args) (CR C0 outer P w H s Q E) s
def spP (K : PySem.W.Frag) (mg : Str → Option Value) (n : Nat) (den : Fn) (q : Addr × Obj) : Sp := fun vs H Q E => ∃ cls dx, L2N.Zn cls dx q.2 ∧ (∃ fs, q.2.data = .fields fs) ∧ spX (some (q.1, cls, dx)) K mg n den vs H Q E
section
variable {P : Program} {w : World} {K : PySem.W.Frag} {mg : Str → Option Value} {base : Heap} {x qual : Str} {st : Stmt} {f : Addr} {fd : FuncData} {N ps : List Str} {k : Nat}
theorem fn_ofP {C0 : CXT} {sp : Addr × Obj → Sp} (F : Fun K x qual st f fd) (S : FnScope N ps (defScope st)) (size : ∀ q vs H Q E, sp q vs H Q E → vs.length = ps.length)
    (hb : ∀ (cdv : Value) (A : Around) (outer : List Env) (s : Shared) (H : Hp) (vs : List V) (Q : VK) (E : XK) (q : Addr × Obj), L2H.Hot1 A q → L2H.RoomH k (A.deeper (envOfC qual (defScope st) s.heap.objs.size f cdv)) → sp q vs H Q E →
      ∃ t, PSs (L2H.cxH C0 P w K mg base N qual (defScope st) f cdv A outer s H E q) (defBody st) t ∧ t { nx := fun _ H' => Q .non H', rt := Q } (start N vs) H) : FnP P w K mg base C0 (k + 1) f fd ps sp := by
  obtain ⟨oc, od, kV, doc, pm, an, cdv, ct, osl, rfl, lk, hcd⟩ := F.ex
  refine ⟨size, fun A outer s H args us vs Q E q rm ht pin e0 bd rv z => ?_⟩
  have inK : K.In s.heap := e0.mod.kin.keeps fun b o e => (e0.bs b o e).1
  have nolim : s.heap.NoLimit := e0.mod.nolimit.keeps fun b o e => (e0.bs b o e).1
  have kinds : ∀ y ∈ ps.zip us, (defScope st).names.lookup y.1 = some .local ∨ ((defScope st).names.lookup y.1 = some .cell ∧ ((cellsFrom (s.heap.objs.size + 1) (defScope st).names []).lookup y.1).isSome = true) := fun y hy => by
    obtain ⟨y1, y2⟩ := y
    rcases S.par y1 (List.of_mem_zip hy).1 with h | h
    · exact .inl h
    · exact .inr ⟨h, PySem.W.cellsFrom_some _ _ _ (.inl h)⟩
  refine codeAny_call_function rm.depth (inK _ _ lk) rfl S.co S.gen rfl (PySem.W.codeRec_of inK hcd) (bd _ _ _ _ (wpAny_newFunctionEnv_cells S.kind kinds fun env ee s1 ic => ?_))
  subst ee
  refine ⟨nolim.keeps ic.toInCall.keep, codeAny_func ?_⟩
  obtain ⟨t, tb, tq⟩ := hb cdv A outer s H vs Q E q ht (rm.deeper _) z
  have I := L2H.inv_startH (CX := C0) (qual := qual) (f := f) (cd := cdv) (E := E) S pin e0 (size _ _ _ _ _ z) rv ic
  refine wpAny_mono (tb.run [] s1 (start N vs) H _ I tq) (fun fl s' r => ?_) fun _ _ r => r
  cases fl with
  | ret u => obtain ⟨v, _, H', J, r1, r2⟩ := r; exact ⟨v, H', J.os, J.bare, J.base, J.hok, r1, r2⟩
  | next => obtain ⟨_, H', J, r2⟩ := r; exact ⟨V.non, H', J.os, J.bare, J.base, J.hok, rfl, r2⟩
  | brk => obtain ⟨_, _, _, r2⟩ := r; exact r2.elim
  | cont => obtain ⟨_, _, _, r2⟩ := r; exact r2.elim
/-- the handled exception, as the reading has it -/
structure HX (X : Cx) (G : Ct) (q : Addr × Obj) (cls : Value) (dx : Option Addr) : Prop where
  hot : L2H.Hot1 X.A q
  pin : q ∈ X.pn
  xa : G.xa = some (q.1, cls, dx)
  zn : L2N.Zn cls dx q.2
  fs : ∃ fs, q.2.data = .fields fs
theorem fn_denH {body : S} (F : Fun K x qual st f fd) (S0 : FnScope N ps (defScope st))
    (hbody : ∀ (cdv : Value) (A : Around) (outer : List Env) (s : Shared) (H : Hp) (E : XK) (G : Ct) (q : Addr × Obj) (cls : Value) (dx : Option Addr), G.K = K → G.mg = mg → HX (L2H.cxH (L2N.CX P w) P w K mg base N qual (defScope st) f cdv A outer s H E q) G q cls dx →
      L2H.RoomH k (A.deeper (envOfC qual (defScope st) s.heap.objs.size f cdv)) →
      PSs (L2H.cxH (L2N.CX P w) P w K mg base N qual (defScope st) f cdv A outer s H E q) (defBody st) (tS G (fun cls d _ H => E cls d H) body)) :
    FnP P w K mg base (L2N.CX P w) (k + 1) f fd ps (spP K mg ps.length (fnDen ps.length N.length body)) :=
  fn_ofP F S0 (fun _ vs H Q E ⟨_, _, _, _, h⟩ => h.1) fun cdv A outer s H vs Q E q ht hr ⟨cls, dx, hz, hf, h⟩ =>
    let ⟨M, P0, I, z⟩ := sp_body h
    ⟨_, hbody cdv A outer s H E ⟨K, mg, H, M, P0, I, some (q.1, cls, dx)⟩ q cls dx rfl rfl ⟨ht, List.mem_singleton.mpr rfl, rfl, hz, hf⟩ hr, z⟩
end
section
variable {X : Cx} {G : Ct} {W : WX} {k : Nat} {f : Addr} {fd : FuncData} {ps : List Str} {den : Fn} {x : Str} {p pos : Pos} {e : Expr} {es : List Expr} {ms : M (List Val)} {ks : List Bool} {q : Addr × Obj} {cls : Value} {dx : Option Addr}
theorem run_fnP {C0 : CXT} {sp : Addr × Obj → Sp} {pins : List (Addr × Obj)} {σ : L2.St} {H : Hp} {s : Shared} {Q : VK} {us : List Value} {vs : List V} {E : XK} (F : FnP X.prog X.w X.K X.mg X.base C0 k f fd ps sp) (rm : L2H.RoomH k X.A) (ht : L2H.Hot1 X.A q) (hp : q ∈ X.pn) (hb : Binds X.K fd ps []) (hx : PassesAt C0 X σ E)
    (I : Inv X pins σ H s) (r : Vals vs us) (h : sp q vs H Q E) : wpAny (model X.prog X.w) X.A (call (.ref f) us) (EP X pins σ Q) X.xe s := by
  have bd := hb s us I.kIn (by rw [List.append_nil, ← r.length]; exact F.size _ _ _ _ _ h)
  rw [List.append_nil] at bd
  obtain ⟨p1, p2, p3, p4, p5⟩ := I.pin q (List.mem_append_left _ hp)
  refine wpAny_call (codeAny_mono (F.runs X.A X.stack s H ⟨us, []⟩ us vs Q E q rm ht ⟨p1, p2, fun hm => (List.mem_cons.mp (I.stkSub q.1 hm)).elim p3 p4, p5⟩ I.env0 bd r h) fun rr s' z => ?_)
  match rr, z with
  | .error e, z => exact hx pins H s e s' I z
  | .ok (.ret u), z => exact I.after z
  | .ok .next, z => exact z.elim
  | .ok .brk, z => exact z.elim
  | .ok .cont, z => exact z.elim
theorem pe_callP {C0 : CXT} {sp : Addr × Obj → Sp} {E : L2.St → XK} {t : TA} (F : FnP X.prog X.w X.K X.mg X.base C0 k f fd ps sp) (rm : L2H.RoomH k X.A) (ht : L2H.Hot1 X.A q) (hp : q ∈ X.pn) (hg : Gl X x) (hm : X.mg x = some (.ref f)) (hk : PySem.W.keepIn X.K (.ref f) = true) (hb : Binds X.K fd ps []) (hx : ∀ σ, PassesAt C0 X σ (E σ))
    (ha : PA X (e :: es) t) (hdb : (x == ("__debug__" : Str)) = false) (he : starEach (e :: es) X.env = (false, eval e X.env) :: starEach es X.env) (hpl : (backTo pos (starEach es X.env)).any (·.1) = false) :
    PE X (.Call (.Name x p) (e :: es) [] pos) (tCallS (sp q) E t) :=
  ⟨fun pins s σ H Q I h => wpAny_Call_Name_kw (ld_glob I hg hm (PySem.W.callWith_K (h₀ := X.base) I.ok.mod.kin hk (thn (ha.run pos pins s σ H _ I h) fun us s1 ⟨vs, H1, I1, r, z⟩ => ⟨I1.kIn, run_fnP F rm ht hp hb (hx σ) I1 r z⟩) he hpl) hdb)⟩
theorem e_callH (F : FnP X.prog X.w X.K X.mg X.base (L2N.CX X.prog X.w) k f fd ps (spP X.K X.mg ps.length den)) (hr : L2H.RoomH k X.A) (hg : Gl X x) (hm : X.mg x = some (.ref f)) (hk : PySem.W.keepIn X.K (.ref f) = true) (hb : Binds X.K fd ps [])
    (tk : L2N.Takes X W) (hx : HX X G q cls dx) (hK : G.K = X.K) (hM : G.mg = X.mg) (hn : ∀ args, args.length ≠ ps.length → den args = .bad)
    (ha : PA X (e :: es) (tA G W ms)) (hdb : (x == ("__debug__" : Str)) = false := by decide) (he : starEach (e :: es) X.env = (false, eval e X.env) :: starEach es X.env := by rfl) (hpl : (backTo pos (starEach es X.env)).any (·.1) = false := by rfl) :
    PE X (.Call (.Name x p) (e :: es) [] pos) (tE G W (mF den ks ms)) := imp_E (pe_callP F hr hx.hot hx.pin hg hm hk hb (fun σ => L2N.passAt tk σ) ha hdb he hpl) fun σ H Q h => by
  have z := call_sp (ps := ps) hK hM hn h
  rw [hx.xa] at z
  exact mono_A z fun vs H1 z1 => ⟨cls, dx, hx.zn, hx.fs, z1⟩
end

/-! ### what the text says of its exceptions -/
def exN : List Str := ["NoArrows", "NoRoom", "NoWalkers", "NotShut", "NeverBack", "NoTour", "NoRow", "NoHouse", "NotOpen", "Nobody", "NoText", "TooGreat"]
def exF : List Str := ["at", "room", "many", "most"]
def exB (K : PySem.W.Frag) (A c : Addr) : Bool := (PySem.W.clsIn K c).isSome && (decide (PySem.W.findIn K (.ref c) "__getattribute__" = some (some (.builtin "BaseException.__getattribute__"))) && (decide (PySem.W.findIn K (.ref c) "__getattr__" = some none) &&
  (decide (PySem.W.subIn K (.ref c) (.type "BaseException") = some true) && (decide (PySem.W.findIn K (.ref c) "__class__" = some (some (.builtin "object.__class__"))) && (decide (PySem.W.mroIn K c (.type "object") = some true) && (decide (PySem.W.typeIn K (.ref c) = some (.type "type")) &&
  (PySem.W.keepIn K (.ref c) && (PySem.W.hasDictIn K c && (decide (PySem.W.exmOne K (.ref c) (.ref A) = some true) && (decide (PySem.W.kitOne K (.ref c) (.type "ValueError") = some true) && (exF.all fun f => decide (PySem.W.findIn K (.ref c) f = some none))))))))))))
def exTB (K : PySem.W.Frag) (A : Addr) (cs : List (Str × Addr)) : Bool := (cs.all fun p => exB K A p.2) && ((cs.all fun p => cs.all fun r => decide (PySem.W.kitOne K (.ref p.2) (.ref r.2) = some (decide (p.1 = r.1)))) &&
  (decide (PySem.W.specialIn K (.builtin "object.__class__") "__get__" = some (some (.builtin "getset_descriptor.__get__"))) && decide (PySem.W.takesIn K (.builtin "object.__class__") = some true)))
structure ExB (K : PySem.W.Frag) (A c : Addr) : Prop where
  cl : (PySem.W.clsIn K c).isSome = true
  ga : PySem.W.findIn K (.ref c) "__getattribute__" = some (some (.builtin "BaseException.__getattribute__"))
  gg : PySem.W.findIn K (.ref c) "__getattr__" = some none
  su : PySem.W.subIn K (.ref c) (.type "BaseException") = some true
  co : PySem.W.findIn K (.ref c) "__class__" = some (some (.builtin "object.__class__"))
  mr : PySem.W.mroIn K c (.type "object") = some true
  ty : PySem.W.typeIn K (.ref c) = some (.type "type")
  kp : PySem.W.keepIn K (.ref c) = true
  hd : PySem.W.hasDictIn K c = true
  ex : PySem.W.exmOne K (.ref c) (.ref A) = some true
  ve : PySem.W.kitOne K (.ref c) (.type "ValueError") = some true
  no : ∀ f ∈ exF, PySem.W.findIn K (.ref c) f = some none
theorem exB_ok {K : PySem.W.Frag} {A c : Addr} (h : exB K A c = true) : ExB K A c := by
  simp only [exB, Bool.and_eq_true, decide_eq_true_eq, List.all_eq_true] at h
  obtain ⟨h1, h2, h3, h4, h5, h6, h7, h8, h9, h10, h11, h12⟩ := h
  exact ⟨h1, h2, h3, h4, h5, h6, h7, h8, h9, h10, h11, h12⟩
/-- the exceptions' classes, where they stand -/
structure ExT (K : PySem.W.Frag) (mg : Str → Option Value) (A : Addr) (cs : List (Str × Addr)) : Prop where
  gA : mg "ArrowError" = some (.ref A)
  gs : ∀ p ∈ cs, mg p.1 = some (.ref p.2)
  ok : exTB K A cs = true
section
variable {K : PySem.W.Frag} {mg : Str → Option Value} {A : Addr} {cs : List (Str × Addr)}
theorem ExT.b (T : ExT K mg A cs) {p : Str × Addr} (h : p ∈ cs) : ExB K A p.2 := by
  have := T.ok
  simp only [exTB, Bool.and_eq_true, List.all_eq_true] at this
  exact exB_ok (this.1 p h)
theorem ExT.kit (T : ExT K mg A cs) {p r : Str × Addr} (h : p ∈ cs) (h2 : r ∈ cs) : PySem.W.kitOne K (.ref p.2) (.ref r.2) = some (decide (p.1 = r.1)) := by
  have := T.ok
  simp only [exTB, Bool.and_eq_true, List.all_eq_true, decide_eq_true_eq] at this
  exact this.2.1 p h r h2
theorem ExT.sp (T : ExT K mg A cs) : PySem.W.specialIn K (.builtin "object.__class__") "__get__" = some (some (.builtin "getset_descriptor.__get__")) ∧ PySem.W.takesIn K (.builtin "object.__class__") = some true := by
  have := T.ok
  simp only [exTB, Bool.and_eq_true, List.all_eq_true, decide_eq_true_eq] at this
  exact this.2.2
/-- the class of a known name -/
theorem ExT.cls (T : ExT K mg A cs) {n : Str} {C : Addr} (hn : n ∈ cs.map (·.1)) (h : mg n = some (.ref C)) : (n, C) ∈ cs := by
  obtain ⟨p, hp, rfl⟩ := List.mem_map.mp hn
  have := T.gs p hp
  rw [h] at this
  cases this
  exact hp
end
def dOk (H : Hp) : Option Addr → Prop
  | none => True
  | some d => ∃ fs, H d = some (.xd fs)
theorem RelX.dOk {K : PySem.W.Frag} {mg : Str → Option Value} {F : Fb} {H : Hp} {e : Ex} {cls : Value} {dx : Option Addr} (h : RelX K mg F H e cls dx) : dOk H dx := by
  rcases h.2 with ⟨_, rfl⟩ | ⟨d, us, rfl, _, e1, _⟩
  · trivial
  · exact ⟨_, e1.1⟩
section
variable {X : Cx} {G : Ct} {W : WX} {q : Addr × Obj} {cls : Value} {dx : Option Addr} {A : Addr} {cs : List (Str × Addr)}
theorem HX.inst {pins : List (Addr × Obj)} {σ : L2.St} {H : Hp} {s : Shared} {C : Addr} (hx : HX X G q (.ref C) dx) (I : Inv X pins σ H s) (hd : dOk H dx) : ∃ od, PySem.W.InstAt s.heap q.1 q.2 C od ∧ ∀ d fs, dx = some d → H d = some (.xd fs) → ∃ (o : Obj) (mA : Str → Option Value), od = some o ∧ (∀ n, PySem.W.lookIn n o = some (mA n)) ∧ ∀ n, RelO (fs.lookup n) (mA n) := by
  obtain ⟨hg, _⟩ := I.pin q (List.mem_append_left _ hx.pin)
  obtain ⟨z1, z2, _⟩ := hx.zn
  obtain ⟨us, hu⟩ := hx.fs
  have hn : PySem.W.notCls q.2 = true := by unfold PySem.W.notCls; rw [hu] <;> rfl
  cases dx with
  | none => exact ⟨none, ⟨hg, z1, hn, by rw [z2]; trivial⟩, fun d fs e => nomatch e⟩
  | some d =>
    obtain ⟨fs, hd⟩ := hd
    obtain ⟨mA, hns, hr⟩ := (show ObjOk X.prog X.w H s.heap d (.xd fs) from I.hok d _ hd)
    obtain ⟨od, ho, hl⟩ := lookIn_ns hns
    refine ⟨some od, ⟨hg, z1, hn, by rw [z2]; exact ho⟩, fun d' fs' e e2 => ?_⟩
    cases e
    rw [hd] at e2
    cases e2
    exact ⟨od, mA, rfl, hl, hr⟩
def rIsX (K : PySem.W.Frag) (A b : Addr) (cls : Value) (dx : Option Addr) : List V → Hp → VK → Prop := fun xs H Q => ∃ (C : Addr) (c : V) (cv : Value) (r : Bool), cls = .ref C ∧ ExB K A C ∧ xs = [.ref b, c] ∧ (∀ u, RelV c u → u = cv) ∧ PySem.W.kitOne K (.ref C) cv = some r ∧ dOk H dx ∧ Q (.bl r) H
theorem call_isX (T : ExT X.K X.mg A cs) (hx : HX X G q cls dx) : CallR X (.builtin "isinstance") (rIsX X.K A q.1 cls dx) := fun pins s σ H xs us Q I r ⟨C, c, cv, b, ec, hb, ex, hcv, e, hd, z⟩ => by
  subst ex ec
  cases r with
  | cons rx rr =>
    cases rr with
    | cons rt rr =>
      cases rr
      cases rx
      have ec := hcv _ rt
      subst ec
      obtain ⟨od, J, _⟩ := hx.inst I hd
      exact PySem.W.kia_one (PySem.W.kitx_exc hb.cl hb.ga hb.gg hb.su hb.co T.sp.1 T.sp.2 hb.mr) I.kIn J e (fun z => nomatch z) fun tk => ⟨.bl b, H, I.kept (t' := tk) fun _ _ z => z, rfl, z⟩
/-- the exception that a name holds -/
def mExc (i : Nat) (f : Ex → Option D) : M Val := fun env => match env[i]? with
  | some (.x e) => match f e with
    | some d => .ok (.d d) env
    | none => .bad
  | _ => .bad
theorem mExc_inv {i : Nat} {f : Ex → Option D} {env : Ev} {P : R Val → Prop} (h : P (mExc i f env)) (hb : P .bad → False) : ∃ e d, env[i]? = some (.x e) ∧ f e = some d ∧ P (.ok (.d d) env) := by
  unfold mExc at h
  split at h
  · split at h
    · exact ⟨_, _, by assumption, by assumption, h⟩
    · exact (hb h).elim
  · exact (hb h).elim
/-- isinstance(e, T) -/
def isOwn (T : Str) (e : Ex) : Option D := if e.cls ∈ exN then some (.bool (decide (e.cls = T))) else none
def isVE (e : Ex) : Option D := if e.cls ∈ exN then some (.bool true) else none
theorem exc_at {O : Fb} {ad : Nat → Addr} {env : Ev} {σ : L2.St} {H : Hp} {i : Nat} {e : Ex} (hx : HX X G q cls dx) (j : J G O ad env σ H) (h : env[i]? = some (.x e)) : σ.getD i none = some (.ref q.1) ∧ RelX G.K G.mg (Fo O env ad) H e cls dx := by
  obtain ⟨b, c, d, h1, h2, h3⟩ := j.at_ i _ h
  rw [hx.xa] at h3
  cases h3
  exact ⟨h1, h2⟩

theorem exc_cls {O : Fb} {ad : Nat → Addr} {env : Ev} {H : Hp} {e : Ex} (T : ExT X.K X.mg A cs) (hcs : cs.map (·.1) = exN) (hK : G.K = X.K) (hM : G.mg = X.mg) (r : RelX G.K G.mg (Fo O env ad) H e cls dx) (he : e.cls ∈ exN) : ∃ C, cls = .ref C ∧ (e.cls, C) ∈ cs := by
  obtain ⟨⟨C, h1, h2⟩, _⟩ := r
  exact ⟨C, h2, T.cls (by rw [hcs]; exact he) (hM ▸ h1)⟩
variable {i : Nat} {x t f : Str} {p p1 p2 pos : Pos}
theorem isOwn_inv {T : Str} {e : Ex} {d : D} (h : isOwn T e = some d) : e.cls ∈ exN ∧ d = .bool (decide (e.cls = T)) := by
  unfold isOwn at h
  split at h
  · cases h; exact ⟨by assumption, rfl⟩
  · cases h
theorem isVE_inv {e : Ex} {d : D} (h : isVE e = some d) : e.cls ∈ exN ∧ d = .bool true := by
  unfold isVE at h
  split at h
  · cases h; exact ⟨by assumption, rfl⟩
  · cases h
theorem e_isX (i : Nat) (T : ExT X.K X.mg A cs) (hcs : cs.map (·.1) = exN) (hx : HX X G q cls dx) (hK : G.K = X.K) (hM : G.mg = X.mg) {c : Addr} (ht : (t, c) ∈ cs) (hN : X.N[i]? = some x) (hv : Vis X.env.scope x) (hg : Gl X "isinstance") (hm : X.mg "isinstance" = none) (hgT : Gl X t)
    (hd1 : (x == ("__debug__" : Str)) = false := by decide) (hc1 : (x == ("__classdict__" : Str)) = false := by decide) (hd : (t == ("__debug__" : Str)) = false := by decide)
    (hs : starEach [.Name x p1, .Name t p2] X.env = (false, eval (.Name x p1) X.env) :: starEach [.Name t p2] X.env := by rfl) (hs2 : starEach [.Name t p2] X.env = (false, eval (.Name t p2) X.env) :: starEach [] X.env := by rfl) (hpl : (backTo pos (starEach [.Name t p2] X.env)).any (·.1) = false := by rfl) :
    PE X (.Call (.Name "isinstance" p) [.Name x p1, .Name t p2] [] pos) (tE G W (mExc i (isOwn t))) :=
  imp_E (pe_callB (call_isX T hx) hg hm (by decide +kernel) (pa_cons (pe_var hN hv hd1 hc1) (pa_cons (pe_glob (v := .ref c) hgT (T.gs _ ht) rfl hd) pa_nil hs2) hs) (he := hs) (hpl := hpl)) fun σ H Q ⟨O, ad, env, j, q0⟩ => by
    obtain ⟨e, d, e1, e2, z⟩ := mExc_inv (P := PostE G W O ad env σ H Q) q0 fun z => z
    obtain ⟨h1, rx⟩ := exc_at hx j e1
    obtain ⟨hc, rfl⟩ := isOwn_inv e2
    obtain ⟨C, rfl, hC⟩ := exc_cls T hcs hK hM rx hc
    exact ⟨_, getD_some h1, C, .ref c, .ref c, _, rfl, T.b hC, rfl, fun u hu => hu, T.kit hC ht, rx.dOk, z ad _ H (Kr.refl _ _ _) ⟨j, .bl _⟩⟩
theorem e_isXV (i : Nat) (T : ExT X.K X.mg A cs) (hcs : cs.map (·.1) = exN) (hx : HX X G q cls dx) (hK : G.K = X.K) (hM : G.mg = X.mg) (hN : X.N[i]? = some x) (hv : Vis X.env.scope x) (hg : Gl X "isinstance") (hm : X.mg "isinstance" = none) (hgT : Gl X "ValueError") (hmT : X.mg "ValueError" = none)
    (hd1 : (x == ("__debug__" : Str)) = false := by decide) (hc1 : (x == ("__classdict__" : Str)) = false := by decide)
    (hs : starEach [.Name x p1, .Name "ValueError" p2] X.env = (false, eval (.Name x p1) X.env) :: starEach [.Name "ValueError" p2] X.env := by rfl) (hs2 : starEach [.Name "ValueError" p2] X.env = (false, eval (.Name "ValueError" p2) X.env) :: starEach [] X.env := by rfl) (hpl : (backTo pos (starEach [.Name "ValueError" p2] X.env)).any (·.1) = false := by rfl) :
    PE X (.Call (.Name "isinstance" p) [.Name x p1, .Name "ValueError" p2] [] pos) (tE G W (mExc i isVE)) :=
  imp_E (pe_callB (call_isX T hx) hg hm (by decide +kernel) (pa_cons (pe_var hN hv hd1 hc1) (pa_cons (pe_bltn (v := .ty "ValueError") hgT hmT PyProof.Rows.Boot.«ValueError» rfl (by decide) (by decide)) pa_nil hs2) hs) (he := hs) (hpl := hpl)) fun σ H Q ⟨O, ad, env, j, q0⟩ => by
    obtain ⟨e, d, e1, e2, z⟩ := mExc_inv (P := PostE G W O ad env σ H Q) q0 fun z => z
    obtain ⟨h1, rx⟩ := exc_at hx j e1
    obtain ⟨hc, rfl⟩ := isVE_inv e2
    obtain ⟨C, rfl, hC⟩ := exc_cls T hcs hK hM rx hc
    exact ⟨_, getD_some h1, C, .ty "ValueError", .type "ValueError", _, rfl, T.b hC, rfl, fun u hu => hu, (T.b hC).ve, rx.dOk, z ad _ H (Kr.refl _ _ _) ⟨j, .bl _⟩⟩
/-- e.f -/
def exFld (f : Str) (e : Ex) : Option D := if e.cls ∈ exN then e.fs.lookup f else none
theorem rel_fld {K : PySem.W.Frag} {F : Fb} {H : Hp} {f : Str} {d : D} : ∀ {fs : List (Str × D)} {us : List V}, fs.lookup f = some d → RelL K F H (fs.map (·.2)) us → ∃ v, ((fs.map (·.1)).zip us).lookup f = some v ∧ Rel K F H d v
  | [], _, h, _ => by cases h
  | (g, d0) :: fs, _, h, .cons (v := v) r rs => by
    rw [List.lookup_cons] at h
    rw [List.map_cons, List.zip_cons_cons, List.lookup_cons]
    split at h
    · cases h
      rename_i e
      refine ⟨v, ?_, r⟩
      simp [e]
    · rename_i e
      obtain ⟨v', h1, h2⟩ := rel_fld h rs
      refine ⟨v', ?_, h2⟩
      simp [e, h1]
theorem e_xf (i : Nat) (T : ExT X.K X.mg A cs) (hcs : cs.map (·.1) = exN) (hx : HX X G q cls dx) (hK : G.K = X.K) (hM : G.mg = X.mg) (hf : f ∈ exF) (hN : X.N[i]? = some x) (hv : Vis X.env.scope x)
    (hd1 : (x == ("__debug__" : Str)) = false := by decide) (hc1 : (x == ("__classdict__" : Str)) = false := by decide)
    (hb : attributeBase (.Name x p1) f X.env (eval (.Name x p1) X.env) = eval (.Name x p1) X.env := by rfl) :
    PE X (.Attribute (.Name x p1) f pos) (tE G W (mExc i (exFld f))) := by
  refine ⟨fun pins s σ H Q I ⟨O, ad, env, j, q0⟩ => ?_⟩
  obtain ⟨e, d, e1, e2, z⟩ := mExc_inv (P := PostE G W O ad env σ H Q) q0 fun z => z
  obtain ⟨h1, rx⟩ := exc_at hx j e1
  unfold exFld at e2
  split at e2
  · rename_i hc
    obtain ⟨C, rfl, hC⟩ := exc_cls T hcs hK hM rx hc
    refine attr_of hb (thn ((pe_var (pos := p1) hN hv hd1 hc1).run pins s σ H (fun v H1 => v = .ref q.1 ∧ H1 = H) I ⟨_, getD_some h1, rfl, rfl⟩) fun u s1 ⟨v, H1, I1, r1, ev, eH⟩ => ?_)
    subst ev eH
    obtain rfl : u = Value.ref q.1 := r1
    have hb := T.b hC
    obtain ⟨od, J, look⟩ := hx.inst I1 rx.dOk
    rcases rx.2 with ⟨h2, _⟩ | ⟨dd, us, rfl, h3, ⟨h4, _⟩, h5⟩
    · rw [h2] at e2; cases e2
    · obtain ⟨v, e3, rv⟩ := rel_fld e2 h5
      obtain ⟨o, mA, rfl, hl, hr⟩ := look dd _ rfl h4
      obtain ⟨u, hu, ru⟩ := RelO.some_of (v := v) (o := mA f) (by rw [← e3]; exact hr f)
      exact HandSPX.exc_get I1.kIn J hb.ga hb.gg hb.su (PySem.W.findObj_own hb.hd (hb.no f hf) rfl (by rw [hl, hu])) (handed_of ru) ⟨v, H1, I1.tok _, ru, z ad v H1 (Kr.refl _ _ _) ⟨j, rv⟩⟩
  · cases e2
end

/-! ### raise -/
def mThrow (n : Str) : S := fun env => .ex ⟨n, []⟩ env
def intsO : List D → Option (List Int)
  | [] => some []
  | .int i :: ds => if i.natAbs.log2 < 1920 then (intsO ds).map (i :: ·) else none
  | _ => none
def mThrowF (n : Str) (fs : List Str) (ms : M (List Val)) : S := fun env => (ms env).elim (fun vals e1 => ((views e1 vals).bind intsO).elim .bad fun ns => if ns.length = fs.length then .ex ⟨n, (fs.zip ns).reverse.map fun p => (p.1, PyData.int p.2)⟩ e1 else .bad) .ex .bad
section
variable {X : Cx} {G : Ct} {W : WX} {n m : Str} {pos pos' p p2 : Pos} {j0 : Nat} {C : Addr}
theorem s_throw (hc : X.calm = true) (tk : L2N.Takes X W) (hM : G.mg = X.mg) (gC : X.mg n = some (.ref C)) (q : PySem.W.excIn X.K C [.type "ValueError", .type "Exception", .type "BaseException", .type "object"] "ValueError.__new__" = true) (kC : PySem.W.keepIn X.K (.ref C) = true)
    (h1 : PySem.W.subIn X.K (.ref C) (.type "BaseException") = some true) (h2 : PySem.W.typeIn X.K (.ref C) = some (.type "type")) (hg : Gl X n) (hdb : (n == ("__debug__" : Str)) = false := by decide) :
    PS X (.Raise (some (.Call (.Name n p) [.Constant (.str m) j0 p2] [] pos)) none pos') (tS G W (mThrow n)) :=
  imp_S (L2N.ps_raise hc tk (L2N.pmk_own PySem.F.excBase_ValueError q gC kC (raises_own h1 h2) hg hdb)) fun E σ H ⟨O, ad, env, j, z⟩ =>
    z ad (.ref C) none σ H (Kr.refl _ _ _) j ⟨⟨C, hM ▸ gC, rfl⟩, .inl ⟨rfl, rfl⟩⟩
end

/-! ### raise of a class with an __init__ of its own -/
def oexB (K : PySem.W.Frag) (c : Addr) : Bool := match K.lookup c with
  | some ⟨.type "type", _, .cls cd, sl⟩ => (match cd.mro, sl.toList with
    | .ref c' :: bm, [_, _, _, _, some (.builtin nn), _] => decide (c' = c) && (decide (nn = "ValueError.__new__") && (!cd.hasDel && (cd.hasDict && PySem.HandSPX.refsVE bm)))
    | _, _ => false)
  | _ => false
theorem oex_ok {K : PySem.W.Frag} {c : Addr} (h : oexB K c = true) : ∃ nm q N bs bm sn sub ab col dd k0 k1 k2 k3 k5, K.lookup c = some (excClassObj nm q c N bs bm true sn sub ab col dd k0 k1 k2 k3 k5 "ValueError.__new__") ∧ PySem.HandSPX.refsVE bm = true := by
  unfold oexB at h
  split at h
  · rename_i dd cd sl ho
    split at h
    · rename_i c' bm k0 k1 k2 k3 nn k5 hm hs
      simp only [Bool.and_eq_true, decide_eq_true_eq, Bool.not_eq_true'] at h
      obtain ⟨rfl, rfl, h1, h2, h3⟩ := h
      obtain ⟨nm, bs, mro, ns, qn, hd, sn, sub, ab, col, del⟩ := cd
      dsimp only at hm h1 h2
      subst hm h1 h2
      obtain ⟨l⟩ := sl
      dsimp only at hs
      subst hs
      exact ⟨_, _, _, _, _, _, _, _, _, _, _, _, _, _, _, ho, h3⟩
    · cases h
  · cases h
/-- what the text says of a class with an __init__ of its own -/
structure ExI (K : PySem.W.Frag) (c fI : Addr) : Prop where
  oe : oexB K c = true
  sa : PySem.W.findIn K (.ref c) "__setattr__" = some (some (.builtin "object.__setattr__"))
  iC : PySem.W.findIn K (.ref c) "__init__" = some (some (.ref fI))
  tI : PySem.W.typeIn K (.ref fI) = some (.type "function")
/-- ArrowError.__init__ is ValueError's -/
structure ExA (K : PySem.W.Frag) (A : Addr) : Prop where
  sp : PySem.W.specialIn K (.ref A) "__getattribute__" = some (some (.builtin "type.__getattribute__"))
  rd : PySem.W.readsIn K A (.type "type") = true
  fc : PySem.W.findCls K (.ref A) (.type "type") "__init__" = some (.val (.builtin "ValueError.__init__"))
theorem ExI.oex {K : PySem.W.Frag} {A c fI : Addr} (h : ExI K c fI) (b : ExB K A c) : OexC K c := ⟨oex_ok h.oe, h.sa, b.su, b.ty, b.kp⟩
/-- the promise of such an __init__ -/
def spInit (K : PySem.W.Frag) (fs : List Str) : Sp := fun vs H Q _ => ∃ (a c : Addr) (ns : List Int), vs = .ref a :: ns.map V.int ∧ ns.length = fs.length ∧ (∀ i ∈ ns, i.natAbs.log2 < 1920) ∧ OexC K c ∧ (∀ f ∈ fs, PySem.W.findIn K (.ref c) f = some none) ∧ H a = some (exo a c none) ∧
  ∀ d H2, H d = none → d ≠ a → H2 a = some (exo a c (some d)) → H2 d = some (exd d ((fs.zip ns).reverse.map fun p => (p.1, V.int p.2))) → (∀ b, b ≠ a → b ≠ d → H2 b = H b) → Q .non H2
section
variable {X : Cx} {e : Expr} {es : List Expr} {ta : TA} {p1 p2 pos : Pos} {A : Addr}
theorem pe_ainit {pl : Sem Bool} (T : ExA X.K A) (gA : X.mg "ArrowError" = some (.ref A)) (hg : Gl X "ArrowError") (ha : PA X (e :: es) ta)
    (hc : eval (.Call (.Attribute (.Name "ArrowError" p1) "__init__" p2) (e :: es) [] pos) X.env = (do
      let ov ← eval (.Name "ArrowError" p1) X.env
      standAt p2.atName
      let (f, first) ← holding [ov] (getMethod ov "__init__" pl)
      callWith pos f first (backTo pos (starEach (e :: es) X.env)) (backToKw pos (keywordEach [] X.env))) := by rfl)
    (he : starEach (e :: es) X.env = (false, eval e X.env) :: starEach es X.env := by rfl) (hpl : (backTo pos (starEach es X.env)).any (·.1) = false := by rfl) :
    PE X (.Call (.Attribute (.Name "ArrowError" p1) "__init__" p2) (e :: es) [] pos) (tVeI X.K ta) :=
  ⟨fun pins s σ H Q I h => by
    refine PySem.W.methodCall_KW (ld_glob I hg gA (PySem.W.method_cls I.kIn T.sp (PySem.W.cls_value I.kIn T.rd T.fc rfl ?_)) (by decide)) hc
    refine PyProof.Rows.callWith_method1 (thn (ha.run pos pins _ σ H _ (I.tok _) h) fun us s1 ⟨vs, H1, I1, r1, a, C, ws, ev, hl, To, ea, z⟩ => ?_) he hpl
    subst ev
    cases r1 with
    | @cons _ u0 _ ur ra rb =>
      obtain rfl : u0 = Value.ref a := ra
      exact oinit_ok To I1 ea (by rw [← Paired.length rb, sizeLine_eq]; omega) fun s' J' => ⟨.non, H1, J', rfl, z⟩⟩
/-- C(e, ..), where nothing is handled -/
theorem pmk_oexN {C0 : CXT} {x : Str} {c fI : Addr} {k : Nat} {fd : FuncData} {ps : List Str} {sp : Sp} (T : OexC X.K c) (I0 : ExI X.K c fI) (F1 : FnOk X.prog X.w X.K X.mg X.base C0 k fI fd ps sp) (hr : Room (k + 1) X.A) (hb : Binds X.K fd ps []) (hx : Passes C0 X (fun _ _ _ => False))
    (hg : Gl X x) (hm : X.mg x = some (.ref c)) (ha : PA X (e :: es) ta) (hdb : (x == ("__debug__" : Str)) = false) (he : starEach (e :: es) X.env = (false, eval e X.env) :: starEach es X.env) (hpl : (backTo pos (starEach es X.env)).any (·.1) = false) :
    L2N.PMk X (.Call (.Name x p1) (e :: es) [] pos) (tMkO c sp [] ta) := by
  intro pins s σ H Q I h
  refine wpAny_Call_Name_kw (ld_glob I hg hm (PySem.W.callWith_K (h₀ := X.base) I.ok.mod.kin T.kC (thn (ha.run pos pins s σ H _ I h) fun us s1 ⟨vs, H1, I1, r1, hz, z1⟩ => ⟨I1.kIn, ?_⟩) he hpl) hdb)
  obtain ⟨nm, qn, N, bs, bm, sn, sub, ab, col, dd, k0, k1, k2, k3, k5, hC, hbm⟩ := T.cls
  obtain ⟨hp, g, dr, tk, os⟩ := s1
  have up : ∀ b o, hp.get? b = some o → ((hp.push (PySem.W.kdv_tup us)).push (PySem.HandSPX.excO c hp.objs.size)).get? b = some o := fun b o e => Heap.get?_push_of_some _ (Heap.get?_push_of_some _ e)
  have at2 : ((hp.push (PySem.W.kdv_tup us)).push (PySem.HandSPX.excO c hp.objs.size)).get? (hp.objs.size + 1) = some (PySem.HandSPX.excO c hp.objs.size) := by heap_get
  have sz := Nat.le_succ hp.objs.size
  have z2 := z1 (hp.objs.size + 1) (I1.hok.fresh sz)
  rw [List.append_nil] at z2
  have I2 : Inv X pins σ (upd H1 (hp.objs.size + 1) (exo (hp.objs.size + 1) c none)) ⟨(hp.push (PySem.W.kdv_tup us)).push (PySem.HandSPX.excO c hp.objs.size), g, dr, tk, os⟩ := I1.laid (t' := tk) (o := exo (hp.objs.size + 1) c none) up sz (exo_ok at2)
  have rv : Vals (V.ref (hp.objs.size + 1) :: vs) (Value.ref (hp.objs.size + 1) :: us) := .cons rfl r1
  have lu : us.length ≤ sizeLine := by rw [← Paired.length r1, sizeLine_eq]; omega
  have bd := hb _ (Value.ref (hp.objs.size + 1) :: us) I2.kIn (by rw [List.append_nil]; exact rv.length.symm.trans (F1.len _ _ _ _ z2))
  rw [List.append_nil] at bd
  have run := F1.run _ X.stack _ _ ⟨Value.ref (hp.objs.size + 1) :: us, []⟩ (Value.ref (hp.objs.size + 1) :: us) _ _ (fun _ _ _ => False) (hr.make c us []) (I2.env0.make c us []) bd rv z2
  refine wpAny_call (PySem.HandSPX.call_own PySem.F.excBase_ValueError (fun Y => PySem.HandSPX.refsVE_contains Y bm hbm) (I1.kIn _ _ hC) (PySem.W.looks_findIn I1.kIn I0.iC) (fun self => PySem.W.bind_fn I1.kIn self I0.tI) lu (codeAny_mono run fun rr s' w => ?_))
  match rr, w with
  | .error er, w => exact hx pins σ _ _ er s' I2 w
  | .ok .next, w => exact w.elim
  | .ok .brk, w => exact w.elim
  | .ok .cont, w => exact w.elim
  | .ok (.ret u), ⟨v, H2, os2, bare2, un2, hok2, rv2, ev, d, fs, ea, ed, hd1, z3⟩ =>
    subst ev
    obtain ⟨h2, g2, d2, t2, os'⟩ := s'
    obtain ⟨t0, hG, J2, kG, ge, hoe, na⟩ := mk_end0 (d2 := d2) (t2 := t2) I1 sz up un2 hok2 os2 bare2 ea ed hd1
    exact ⟨rv2, _, _, _, ⟨hG, g2, d2, t2, os'⟩, _, .ref c, some d, rfl, J2, kG, ge, hoe, ⟨rfl, rfl, fun vs e => by cases e; rfl⟩, rfl, rfl, na, rfl, bare2, raises_own T.exC T.tyC, z3⟩
end
section
variable {X : Cx} {G : Ct} {W : WX} {A c fI : Addr} {cs : List (Str × Addr)} {n : Str} {fs : List Str} {ms : M (List Val)} {e : Expr} {es : List Expr} {p pos pos' : Pos} {k : Nat} {fd : FuncData} {ps : List Str}
theorem intsO_inv : ∀ {ds : List D} {ns : List Int}, intsO ds = some ns → ds = ns.map PyData.int ∧ ∀ i ∈ ns, i.natAbs.log2 < 1920
  | [], ns, h => by cases h; exact ⟨rfl, fun _ z => by cases z⟩
  | .int i :: ds, ns, h => by
    unfold intsO at h
    split at h
    · rename_i hi
      cases e : intsO ds with
      | none => rw [e] at h; cases h
      | some ms =>
        rw [e] at h
        cases h
        obtain ⟨h1, h2⟩ := intsO_inv e
        subst h1
        exact ⟨rfl, fun j hj => by
          rcases List.mem_cons.mp hj with rfl | hj
          · exact hi
          · exact h2 j hj⟩
    · cases h
  | .none :: _, _, h => by cases h
  | .bool _ :: _, _, h => by cases h
  | .str _ :: _, _, h => by cases h
  | .list _ :: _, _, h => by cases h
  | .tuple _ :: _, _, h => by cases h
  | .dict _ :: _, _, h => by cases h
theorem passN0 : Passes (L2N.CX X.prog X.w) X (fun _ _ _ => False) := fun _ _ _ _ _ _ _ ⟨_, _, _, _, _, _, _, _, _, _, _, _, z⟩ => z.elim
theorem relBs_ints {K : PySem.W.Frag} {F : Fb} {H : Hp} : ∀ {ns : List Int} {vs : List V}, RelBs K F H (ns.map PyData.int) vs → vs = ns.map V.int
  | [], _, .nil => rfl
  | _ :: _, _, .cons r rs => by rw [List.map_cons, relBs_ints rs, r.toInt]
theorem relL_fld {K : PySem.W.Frag} {F : Fb} {H : Hp} : ∀ (l : List (Str × Int)), RelL K F H ((l.map fun p => ((p.1 : Str), PyData.int p.2)).map (·.2)) (l.map fun p => V.int p.2)
  | [] => .nil
  | _ :: l => .cons (.int _) (relL_fld l)
theorem zip_fld : ∀ (l : List (Str × Int)), ((l.map fun p => ((p.1 : Str), PyData.int p.2)).map (·.1)).zip (l.map fun p => V.int p.2) = l.map fun p => ((p.1 : Str), V.int p.2)
  | [] => rfl
  | _ :: l => by rw [List.map_cons, List.map_cons, List.map_cons, List.zip_cons_cons, zip_fld l]; rfl
theorem s_throwF (hc : X.calm = true) (tk : L2N.Takes X W) (hK : G.K = X.K) (hM : G.mg = X.mg) (T : ExT X.K X.mg A cs) (hn : (n, c) ∈ cs) (I0 : ExI X.K c fI) (F1 : FnOk X.prog X.w X.K X.mg X.base (L2N.CX X.prog X.w) k fI fd ps (spInit X.K fs)) (hr : Room (k + 1) X.A) (hb : Binds X.K fd ps [])
    (hf : ∀ f ∈ fs, f ∈ exF) (hne : fs ≠ []) (hl0 : fs.length ≤ 4) (ha : PA X (e :: es) (tA G W ms)) (hg : Gl X n) (hdb : (n == ("__debug__" : Str)) = false := by decide) (he : starEach (e :: es) X.env = (false, eval e X.env) :: starEach es X.env := by rfl) (hpl : (backTo pos (starEach es X.env)).any (·.1) = false := by rfl) :
    PS X (.Raise (some (.Call (.Name n p) (e :: es) [] pos)) none pos') (tS G W (mThrowF n fs ms)) :=
  imp_S (L2N.ps_raise hc tk (pmk_oexN (I0.oex (T.b hn)) I0 F1 hr hb passN0 hg (T.gs _ hn) ha hdb he hpl)) fun E σ H ⟨O, ad, env, j, p⟩ => by
    refine mono_A (seqA (β := Out) (P := PostS G W O ad env H E) xsS (fun _ z => z) (Kr.refl O (Fo O env ad) H) j p) fun vs H1 ⟨O2, ad2, env2, vals, h1, h2, k2, k3, j2, w2, q2⟩ => ?_
    obtain ⟨ns, e1, q3⟩ := opt_inv (P := PostS G W O ad env H E) q2 fun z => z
    obtain ⟨ds, e2, e3⟩ := Option.bind_eq_some_iff.mp e1
    obtain ⟨rfl, hb1⟩ := intsO_inv e3
    obtain rfl := relBs_ints (w2.views j2 e2)
    split at q3
    · rename_i hl
      refine ⟨by rw [List.length_map]; omega, fun a na => ⟨a, c, ns, by rw [List.append_nil], hl, hb1, I0.oex (T.b hn), fun f h => (T.b hn).no f (hf f h), upd_same, fun d H2 nd ne f1 f2 same => ⟨rfl, d, _, f1, f2, by rw [upd_ne ne] at nd; exact nd, ?_⟩⟩⟩
      have nd1 : H1 d = none := by rw [upd_ne ne] at nd; exact nd
      have eH : upd (del H2 a) d (.xd ((fs.zip ns).reverse.map fun p => (p.1, V.int p.2))) = upd H1 d (.xd ((fs.zip ns).reverse.map fun p => (p.1, V.int p.2))) := by
        funext b
        by_cases hbd : b = d
        · rw [hbd, upd_same, upd_same]
        · rw [upd_ne hbd, upd_ne hbd]
          by_cases hba : b = a
          · rw [hba, del_same, na]
          · rw [del_ne hba, same b hba hbd, upd_ne hba]
      rw [eH]
      have sm : Same H1 (upd H1 d (.xd ((fs.zip ns).reverse.map fun p => (p.1, V.int p.2)))) := same_laid nd1
      have nF : ¬ Fo O env2 ad2 d := fun z => (j2.less h1).fo d z nd1
      refine q3 ad2 (.ref c) (some d) σ _ (k2.trans (Kr.same sm)) ((j2.less h1).same sm) ⟨⟨c, hM ▸ T.gs _ hn, rfl⟩, .inr ⟨d, (fs.zip ns).reverse.map fun p => V.int p.2, rfl, ?_, ⟨?_, nF⟩, relL_fld _⟩⟩
      · intro z
        have z2 := congrArg List.length z
        rw [List.length_map, List.length_reverse, List.length_zip, hl, Nat.min_self] at z2
        exact hne (List.eq_nil_of_length_eq_zero z2)
      · rw [upd_same]
        show some (HO.xd _) = some (HO.xd _)
        rw [zip_fld]
    · exact q3.elim
end

/-! ### try .. except ArrowError as e -/
def clr : Sl → Sl
  | .x _ => .no
  | s => s
def endX (i : Nat) (env : Ev) : Option Ev := match env[i]? with
  | some (.x _) => some (env.map clr)
  | _ => none
def outX (i : Nat) : Out → Out
  | .nx e => (endX i e).elim .bad .nx
  | .rt d e => (endX i e).elim .bad (.rt d)
  | .rto c e => (endX i e).elim .bad (.rto c)
  | .bk e => (endX i e).elim .bad .bk
  | .ct e => (endX i e).elim .bad .ct
  | _ => .bad
def putX (i : Nat) (x : Ex) (env : Ev) : Option Ev := match env[i]? with
  | some (.io _) => none
  | some _ => some (env.set i (.x x))
  | none => none
def mTry (i : Nat) (mb ms : S) : S := fun env => match mb env with
  | .ex x e => if x.cls ∈ exN then (putX i x e).elim .bad fun e1 => outX i (ms e1) else .bad
  | o => o
theorem clr_C {s : Sl} : isC (clr s) = isC s ∧ isIo (clr s) = isIo s := by cases s <;> exact ⟨rfl, rfl⟩
theorem clr_get {env : Ev} {k : Nat} {t : Sl} (h : (env.map clr)[k]? = some t) : ∃ s, env[k]? = some s ∧ t = clr s := by
  rw [List.getElem?_map] at h
  cases e : env[k]? with
  | none => rw [e] at h; cases h
  | some s => rw [e] at h; cases h; exact ⟨s, rfl, rfl⟩
section
variable {G : Ct} {O : Fb} {ad : Nat → Addr} {env : Ev} {σ : L2.St} {H : Hp} {y : Option (Addr × Value × Option Addr)}
theorem fo_clr : ∀ a, Fo O (env.map clr) ad a ↔ Fo O env ad a := fun a => by
  constructor
  · rintro (z | ⟨i, t, e, c, z⟩)
    · exact .inl z
    · obtain ⟨s, e1, rfl⟩ := clr_get e
      exact .inr ⟨i, s, e1, by rw [← clr_C.1]; exact c, z⟩
  · rintro (z | ⟨i, s, e, c, z⟩)
    · exact .inl z
    · exact .inr ⟨i, clr s, by rw [List.getElem?_map, e]; rfl, by rw [clr_C.1]; exact c, z⟩
/-- into a suite -/
theorem J.toX (hx : G.xa = none) (j : J G O ad env σ H) : J { G with xa := y } O ad env σ H :=
  ⟨j.len, j.inj, j.out, j.outs, j.io, j.ix, j.own, j.mi, j.fr, fun i s e => by
    have z := j.at_ i s e
    cases s with
    | x e => obtain ⟨b, c, d, h1, h2, h3⟩ := z; rw [hx] at h3; cases h3
    | no => trivial
    | v d => exact z
    | o c => exact z
    | io c => exact z
    | n c => exact z⟩
/-- out of it -/
theorem J.offX {i : Nat} {e : Ex} (he : env[i]? = some (.x e)) (j : J { G with xa := y } O ad env σ H) : J G O ad (env.map clr) (σ.set i none) H := by
  have kp : Kp (Fo O env ad) (Fo O (env.map clr) ad) H H := Kp.weak fun a z => (fo_clr a).mp z
  refine ⟨by rw [List.length_set, List.length_map]; exact j.len, fun a b s1 s2 e1 c1 e2 c2 h => ?_, fun a s1 e1 c1 => ?_, j.outs, fun a c e1 => ?_, fun a => ?_, fun a c e1 cc ci => ?_, j.mi, j.fr, fun a t e1 => ?_⟩
  · obtain ⟨t1, f1, rfl⟩ := clr_get e1
    obtain ⟨t2, f2, rfl⟩ := clr_get e2
    rw [clr_C.1] at c1 c2
    exact j.inj a b t1 t2 f1 c1 f2 c2 h
  · obtain ⟨t1, f1, rfl⟩ := clr_get e1
    rw [clr_C.1] at c1
    exact j.out a t1 f1 c1
  · obtain ⟨t1, f1, h⟩ := clr_get e1
    cases t1 with
    | io c1 => exact j.io a c1 f1
    | _ => cases h
  · rw [j.ix a]
    constructor
    · rintro ⟨c, h⟩
      exact ⟨c, by rw [List.getElem?_map, h]; rfl⟩
    · rintro ⟨c, h⟩
      obtain ⟨t1, f1, h⟩ := clr_get h
      cases t1 with
      | io c1 => exact ⟨c1, f1⟩
      | _ => cases h
  · obtain ⟨t1, f1, h⟩ := clr_get e1
    cases t1 with
    | o c1 => exact j.own a _ f1 rfl rfl
    | n c1 => exact j.own a _ f1 rfl rfl
    | io c1 => rw [h] at ci; cases ci
    | no => rw [h] at cc; cases cc
    | v c1 => rw [h] at cc; cases cc
    | x c1 => rw [h] at cc; cases cc
  · obtain ⟨s, f1, rfl⟩ := clr_get e1
    have hs : ∀ k, k ≠ i → (σ.set i none).getD k none = σ.getD k none := fun k hk => by
      rw [List.getD_eq_getElem?_getD, List.getD_eq_getElem?_getD, List.getElem?_set_ne (Ne.symm hk)]
    by_cases ha : a = i
    · subst ha
      rw [he] at f1
      cases f1
      trivial
    · rw [hs a ha]
      have z := (j.at_ a s f1).keep kp fun _ _ h => h
      cases s with
      | x e => trivial
      | no => trivial
      | v d => exact z
      | o c => exact z
      | io c => exact z
      | n c => exact z
theorem endX_inv {i : Nat} {e1 : Ev} (h : endX i env = some e1) : ∃ e, env[i]? = some (.x e) ∧ e1 = env.map clr := by
  unfold endX at h
  split at h
  · cases h; exact ⟨_, by assumption, rfl⟩
  · cases h
theorem putX_inv {i : Nat} {x : Ex} {e1 : Ev} (h : putX i x env = some e1) : ∃ s, env[i]? = some s ∧ isIo s = false ∧ e1 = env.set i (.x x) := by
  unfold putX at h
  split at h
  · cases h
  · rename_i s hs e
    cases h
    refine ⟨s, e, ?_, rfl⟩
    cases s with
    | io c => exact (hs c rfl).elim
    | _ => rfl
  · cases h
end
section
variable {X : Cx} {G : Ct} {W : WX} {A : Addr} {cs : List (Str × Addr)} {i : Nat} {n : Str} {body suite : List Stmt} {b0 : Stmt} {mb ms : S} {np pos pos' : Pos}
theorem s_try (i : Nat) (hs : X.stack = X.env :: X.outer) (hf : X.env.frame = some X.env.locals) (hN : X.N.Nodup) (hi : X.N[i]? = some n) (hln : X.env.kindOf n = some .local) (tk : L2N.Takes X W) (hx : G.xa = none) (hK : G.K = X.K) (hM : G.mg = X.mg) (T : ExT X.K X.mg A cs) (hcs : cs.map (·.1) = exN) (hg : Gl X "ArrowError")
    (hb : ∀ (W' : WX) (pn : List (Addr × Obj)) (xe : Value → Shared → Prop), L2N.Takes (X.tr pn xe) W' → PassesOwn (model X.prog X.w) X.A X.env xe → PSs (X.tr pn xe) body (tS G W' mb))
    (hsu : ∀ (q : Addr × Obj) (cls : Value) (d : Option Addr) (pn : List (Addr × Obj)), HX (X.suite q.1 (q :: pn)) { G with xa := some (q.1, cls, d) } q cls d → PSs (X.suite q.1 (q :: pn)) (b0 :: suite) (tS { G with xa := some (q.1, cls, d) } (fun _ _ _ _ => False) ms)) :
    PS X (.Try body [.ExceptHandler (some (.Name "ArrowError" np)) (some n) (b0 :: suite) pos'] [] [] pos) (tS G W (mTry i mb ms)) :=
  imp_S (L2N.ps_try_as (ts := fun a cls d => tS { G with xa := some (a, cls, d) } (fun _ _ _ _ => False) ms) hs hf hN hi hln (c := .ref A) ⟨hg, by decide, .inl T.gA⟩ tk hb fun a oe cls d pn hz hfs => hsu (a, oe) cls d pn ⟨⟨rfl, let ⟨vs, hv⟩ := hfs; ⟨vs, hv, hz.2.2 vs hv⟩⟩, List.mem_cons_self, rfl, hz, hfs⟩) fun D σ H ⟨O, ad, env, j, p⟩ => by
    refine ⟨O, ad, env, j, ?_⟩
    unfold mTry at p
    revert p
    cases mb env with
    | bad => exact fun p => p
    | nx e => exact fun p => p
    | bk e => exact fun p => p
    | ct e => exact fun p => p
    | rt d e => exact fun p => p
    | rto c e => exact fun p => p
    | rtt d c e => exact fun p => p
    | ex x e =>
      intro p ad' cls dx σ' H' k' j' r
      dsimp only at p
      split at p
      · rename_i hc
        obtain ⟨⟨C, h1, rfl⟩, r2⟩ := id r
        have hC : (x.cls, C) ∈ cs := T.cls (by rw [hcs]; exact hc) (hM ▸ h1)
        refine ⟨true, (T.b hC).ex, fun _ a na => ?_, fun z => nomatch z⟩
        obtain ⟨e1, ep, p⟩ := opt_inv (P := PostS G W O ad env H D) p fun z => z
        obtain ⟨s, es, ns, rfl⟩ := putX_inv ep
        have j1 : J { G with xa := some (a, Value.ref C, dx) } O ad' e σ' H' := j'.toX hx
        have fx : ∀ b, Fo O (e.set i (.x x)) ad' b → Fo O e ad' b := fun b z => by
          rcases z with z | ⟨k, s', e', c', z⟩
          · exact .inl z
          · rcases get_set_sl e' with ⟨_, rfl, _⟩ | ⟨_, e'⟩
            · cases c'
            · exact .inr ⟨k, s', e', c', z⟩
        have j2 : J { G with xa := some (a, Value.ref C, dx) } O ad' (e.set i (.x x)) (σ'.set i (some (.ref a))) H' :=
          j1.put (t := .x x) es ns rfl (fun _ _ => rfl) (fun _ z => z) (fun z => by cases z) (fun F' _ kp => ⟨a, .ref C, dx, rfl, r.keep kp, rfl⟩) (Kp.weak fx)
        refine ⟨O, ad', _, j2, ?_⟩
        have k2 : Kr O (Fo O env ad) (Fo O (e.set i (.x x)) ad') H H' := k'.trans ⟨⟨Kp.weak fx, fun _ _ _ h => h⟩, fun _ h => h⟩
        have kc : ∀ {e3 : Ev} {ad3 : Nat → Addr} {H3 : Hp}, Kr O (Fo O (e.set i (.x x)) ad') (Fo O e3 ad3) H' H3 → Kr O (Fo O env ad) (Fo O (e3.map clr) ad3) H H3 := fun {e3 ad3 H3} k3 => (k2.trans k3).trans ⟨⟨Kp.weak fun b z => (fo_clr b).mp z, fun _ _ _ h => h⟩, fun _ h => h⟩
        revert p
        cases ms (e.set i (.x x)) with
        | bad => exact fun p => p
        | ex y e3 => exact fun p => p.elim
        | nx e3 =>
          intro p ad3 σ3 H3 k3 j3
          obtain ⟨e4, h4, p⟩ := opt_inv (P := PostS G W O ad env H D) p fun z => z
          obtain ⟨x4, h5, rfl⟩ := endX_inv h4
          exact p ad3 _ H3 (kc k3) (j3.offX h5)
        | bk e3 =>
          intro p ad3 σ3 H3 k3 j3
          obtain ⟨e4, h4, p⟩ := opt_inv (P := PostS G W O ad env H D) p fun z => z
          obtain ⟨x4, h5, rfl⟩ := endX_inv h4
          exact p ad3 _ H3 (kc k3) (j3.offX h5)
        | ct e3 =>
          intro p ad3 σ3 H3 k3 j3
          obtain ⟨e4, h4, p⟩ := opt_inv (P := PostS G W O ad env H D) p fun z => z
          obtain ⟨x4, h5, rfl⟩ := endX_inv h4
          exact p ad3 _ H3 (kc k3) (j3.offX h5)
        | rt d e3 =>
          intro p ad3 v σ3 H3 k3 j3 r3
          obtain ⟨e4, h4, p⟩ := opt_inv (P := PostS G W O ad env H D) p fun z => z
          obtain ⟨x4, h5, rfl⟩ := endX_inv h4
          exact p ad3 v _ H3 (kc k3) (j3.offX h5) (r3.keep (Kp.weak fun b z => (fo_clr b).mp z))
        | rtt d c e3 => exact fun p => p.elim
        | rto c e3 =>
          intro p ad3 p1 σ3 H3 k3 n1 n2 j3 r3
          obtain ⟨e4, h4, p⟩ := opt_inv (P := PostS G W O ad env H D) p fun z => z
          obtain ⟨x4, h5, rfl⟩ := endX_inv h4
          exact p ad3 p1 _ H3 (kc k3) n1 n2 (j3.offX h5) (r3.keep (Kp.weak fun b z => (fo_clr b).mp z) fun _ h => h)
      · exact p.elim
end
end Nb
namespace Nb
open L2 PySem PySem.Spec PyProof.Rows

/-! ### c.count(x), l.index(x): the method by what stands there -/
def tyW (K : PySem.W.Frag) (T : String) (x : V) (H : Hp) : Prop := ∃ a, x = .ref a ∧ ((T = "list" ∧ ∃ xs, SqL K H a xs) ∨ (T = "tuple" ∧ TupD K H a))
theorem tyW_is {X : Cx} {pins : List (Addr × Obj)} {σ : L2.St} {H : Hp} {s : Shared} {T : String} {x : V} {v : Value} (I : Inv X pins σ H s) (r : RelV x v) (ty : tyW X.K T x H) : s.TypeIs v T ∧ ∀ a, v = .ref a → ∃ ob, s.heap.get? a = some ob ∧ ob.dict = none := by
  obtain ⟨a, rfl, h⟩ := ty
  cases r
  rcases h with ⟨rfl, xs, hq⟩ | ⟨rfl, h⟩
  · exact tyV_is I (x := .ref a) rfl (.inl ⟨rfl, xs, hq⟩)
  · have : ∃ o, s.heap.get? a = some o ∧ o.cls = .type "tuple" ∧ o.dict = none := by
      rcases h with ⟨o, u, h, c, d⟩ | ⟨o, h, c, d⟩
      · obtain ⟨e, _⟩ := I.hok a _ h; exact ⟨o, e, c, d⟩
      · exact ⟨o, I.kIn a o h, c, d⟩
    obtain ⟨o, e, c, d⟩ := this
    exact ⟨⟨o, e, c⟩, fun b z => by cases z; exact ⟨o, e, d⟩⟩
/-- the way of a method -/
structure MW (X : Cx) (name : Str) (T id : String) (r : V → List V → Hp → VK → Prop) : Prop where
  pa : PlainAttrs T
  sl : Slot T name id
  ty : typeOf (.builtin id) = pure (.type "method_descriptor")
  mt : MtR X id r
def tMW (X : Cx) (name : Str) (to : TE) (t : TA) : TE := fun σ H Q => to σ H fun x H1 => ∃ T id r, MW X name T id r ∧ tyW X.K T x H1 ∧ t σ H1 fun xs H2 => r x xs H2 Q
section
variable {X : Cx} {o e : Expr} {es : List Expr} {to : TE} {t : TA} {name : Str} {apos cpos : Pos}
theorem pe_mw (ho : PE X o to) (ha : PA X (e :: es) t)
    (hbase : attributeBase o name X.env (eval o X.env) = eval o X.env)
    (hfew : ((backTo cpos (starEach (e :: es) X.env)).all (fun x => !x.1) && (backToKw cpos (keywordEach [] X.env)).all (fun x => x.1.isSome)
      && decide ((e :: es).length + ([] : List Keyword).length + (if ([] : List Keyword).isEmpty then 0 else 1) < 30)) = true)
    (hline : (apos.endLine == cpos.line) = true) (hs : starEach (e :: es) X.env = (false, eval e X.env) :: starEach es X.env) (hpl : (backTo cpos (starEach es X.env)).any (·.1) = false) :
    PE X (.Call (.Attribute o name apos) (e :: es) [] cpos) (tMW X name to t) :=
  ⟨fun pins s σ H Q I h => wpAny_Call_method_late hbase hfew hline rfl (thn (ho.run pins s σ H _ I h) fun v s1 ⟨x, H1, I1, r1, T, id, r, m, ty, q1⟩ => by
    obtain ⟨h1, h2⟩ := tyW_is I1 r1 ty
    have hA := ha.run cpos pins s1 σ H1 _ I1 q1
    refine ⟨T, id, m.pa, m.sl, m.ty, h1, h2, ?_⟩
    rw [hs] at hA ⊢
    exact Calls.callWith_builtin (by show (false || (backTo cpos (starEach es X.env)).any (·.1)) = false; rw [hpl] <;> rfl) (Calls.evalArgs_plain (thn hA fun us s2 ⟨vs, H2, I2, r2, q2⟩ => m.mt pins s2 σ H2 x vs v us Q I2 r1 r2 q2)))⟩
end
/-- one that reads a list or a tuple of data, and data -/
def rDat (K : PySem.W.Frag) (tup : Bool) (f : List D → D → Option V) : V → List V → Hp → VK → Prop := fun x xs H Q => ∃ (a : Addr) (vs : List V) (y : V) (ds : List D) (d : D) (v : V), x = .ref a ∧ xs = [y] ∧ (if tup = true then SqT K H a vs else SqL K H a vs) ∧ DpAll K H vs ds ∧ Dp K H y d ∧
  PyData.plainAll ds = true ∧ d.plain = true ∧ d.depth ≤ 60 ∧ f ds d = some v ∧ Q v H
def fCnt (ds : List D) (d : D) : Option V := some (.int ((ds.countP fun y => PyData.eqv y d : Nat) : Int))
def fIdx (ds : List D) (d : D) : Option V := (ds.findIdx? fun y => PyData.eqv y d).map fun j => .int ((j : Nat) : Int)
section
variable {X : Cx}
theorem roomD {A : Around} {ds : List D} {d : D} (h : d.depth ≤ 60) (hu : A.units + 65 < cLine) : A.units + 1 + min (PyData.depthAll ds) d.depth < cLine := by
  have := Nat.min_le_right (PyData.depthAll ds) d.depth
  omega
theorem mt_cntL (hu : X.A.units + 65 < cLine) : MtR X "list.count" (rDat X.K false fCnt) := fun pins s σ H x xs v us Q I rx rxs ⟨a, vs, y, ds, d, w, ex, ey, hs, hd, hy, p1, p2, p3, hf, q⟩ => by
  subst ex ey
  cases rx
  obtain ⟨u, rfl, ru⟩ := rxs.one
  cases hf
  obtain ⟨its, rv, pl, _⟩ := I.list hs
  obtain ⟨as, r1⟩ := Dp.readsAll I ds _ its hd rv
  obtain ⟨bs, r2⟩ := Dp.reads I d y u hy ru
  exact PySem.SeqAt.count_list_data pl.isList r1 r2 p1 p2 (roomD p3 hu) ⟨.int _, H, I.tok _, ⟨_, rfl⟩, q⟩
theorem mt_cntT (hu : X.A.units + 65 < cLine) : MtR X "tuple.count" (rDat X.K true fCnt) := fun pins s σ H x xs v us Q I rx rxs ⟨a, vs, y, ds, d, w, ex, ey, hs, hd, hy, p1, p2, p3, hf, q⟩ => by
  subst ex ey
  cases rx
  obtain ⟨u, rfl, ru⟩ := rxs.one
  cases hf
  obtain ⟨its, rv, pl, _⟩ := I.tuple hs
  obtain ⟨as, r1⟩ := Dp.readsAll I ds _ its hd rv
  obtain ⟨bs, r2⟩ := Dp.reads I d y u hy ru
  exact PySem.SeqAt.count_tuple_data pl r1 r2 p1 p2 (roomD p3 hu) ⟨.int _, H, I.tok _, ⟨_, rfl⟩, q⟩
theorem mt_idxL (hu : X.A.units + 65 < cLine) : MtR X "list.index" (rDat X.K false fIdx) := fun pins s σ H x xs v us Q I rx rxs ⟨a, vs, y, ds, d, w, ex, ey, hs, hd, hy, p1, p2, p3, hf, q⟩ => by
  subst ex ey
  cases rx
  obtain ⟨u, rfl, ru⟩ := rxs.one
  obtain ⟨j, hj, rfl⟩ := Option.map_eq_some_iff.mp hf
  obtain ⟨its, rv, ⟨⟨cls, dd, data, sls⟩, n, ho, hc, hdn, hdt⟩, hz⟩ := I.list hs
  dsimp only at hc hdt
  subst hc hdt
  obtain ⟨as, r1⟩ := Dp.readsAll I ds _ its hd rv
  obtain ⟨bs, r2⟩ := Dp.reads I d y u hy ru
  have hmap : its.map (PySem.SeqAt.readOf s.heap) = ds := PySem.SeqAt.readsAll_map_plain ds its as p1 r1
  have hfi : its.findIdx? (fun z => PyData.eqv (PySem.SeqAt.readOf s.heap z) d) = some j := by
    rw [← hmap, List.findIdx?_map] at hj
    exact hj
  obtain ⟨hjl, hhit, hno⟩ := List.findIdx?_eq_some_iff_getElem.mp hfi
  have hvl := rv.length
  refine call_meets PySem.F.slot_list_index ⟨_, ho, rfl⟩ PySem.F.entry_list_index (PySem.F.args_list_index_2 _ _)
    (PySem.SeqAt.list_indexAt a its.toArray n dd sls u (fun z => PyData.eqv (PySem.SeqAt.readOf s.heap z) d) j (by simpa using hjl) (by have := sizeLine_eq; omega) (by simpa using hhit) fun m hm hmj => ?_)
    ⟨ho, PySem.SeqAt.items_plain r1 r2 p1 p2 (roomD p3 hu), .int (j : Nat), H, I.tok _, ⟨_, rfl⟩, q⟩
  have := hno m hmj
  simpa using this
end
def kd : Option D → Nat
  | some (.list _) => 1
  | some (.tuple _) => 2
  | _ => 0
def itemsK : D → List D
  | .list ds => ds
  | .tuple ds => ds
  | _ => []
def m2T (ks : List Nat) (f : List D → D → Option D) (mo me : M Val) : M Val := fun env => (mo env).bind fun o e1 => if kd (view e1 o) ∈ ks then (me e1).bind fun a e2 => if kd (view e2 o) = kd (view e1 o) then
  (view e2 o).elim .bad fun c => (view e2 a).elim .bad fun d => if PyData.plainAll (itemsK c) = true ∧ d.plain = true ∧ d.depth ≤ 60 then (f (itemsK c) d).elim .bad fun r => .ok (.d r) e2 else .bad
  else .bad else .bad
def dCnt (ds : List D) (d : D) : Option D := some (.int ((ds.countP fun y => PyData.eqv y d : Nat) : Int))
def dIdx (ds : List D) (d : D) : Option D := (ds.findIdx? fun y => PyData.eqv y d).map fun j => .int ((j : Nat) : Int)
def V2 (fV : List D → D → Option V) (fD : List D → D → Option D) : Prop := ∀ ds d r, fD ds d = some r → ∃ v, fV ds d = some v ∧ ∀ K F H, Rel K F H r v
theorem v2_cnt : V2 fCnt dCnt := fun ds d r h => by cases h; exact ⟨_, rfl, fun _ _ _ => .int _⟩
theorem v2_idx : V2 fIdx dIdx := fun ds d r h => by
  obtain ⟨j, hj, rfl⟩ := Option.map_eq_some_iff.mp h
  exact ⟨_, by unfold fIdx; rw [hj]; rfl, fun _ _ _ => .int _⟩
theorem kd_inv {o : Option D} (h : kd o ≠ 0) : ∃ c, o = some c ∧ ((∃ ds, c = .list ds ∧ kd o = 1) ∨ ∃ ds, c = .tuple ds ∧ kd o = 2) := by
  unfold kd at h
  split at h
  · exact ⟨_, rfl, .inl ⟨_, rfl, rfl⟩⟩
  · exact ⟨_, rfl, .inr ⟨_, rfl, rfl⟩⟩
  · exact absurd rfl h
section
variable {X : Cx} {G : Ct} {W : WX} {o e : Expr} {mo me : M Val} {name : Str} {apos cpos : Pos} {fV : List D → D → Option V} {fD : List D → D → Option D} {ks : List Nat}
theorem e_mw (hK : G.K = X.K) (hf : V2 fV fD) (h0 : 0 ∉ ks) (wL : 1 ∈ ks → ∃ id, MW X name "list" id (rDat X.K false fV)) (wT : 2 ∈ ks → ∃ id, MW X name "tuple" id (rDat X.K true fV)) (ho : PE X o (tE G W mo)) (he : PE X e (tE G W me))
    (hbase : attributeBase o name X.env (eval o X.env) = eval o X.env := by rfl)
    (hfew : ((backTo cpos (starEach [e] X.env)).all (fun x => !x.1) && (backToKw cpos (keywordEach [] X.env)).all (fun x => x.1.isSome)
      && decide (([e] : List Expr).length + ([] : List Keyword).length + (if ([] : List Keyword).isEmpty then 0 else 1) < 30)) = true := by rfl)
    (hline : (apos.endLine == cpos.line) = true := by rfl) (hs : starEach [e] X.env = (false, eval e X.env) :: starEach [] X.env := by rfl) (hpl : (backTo cpos (starEach [] X.env)).any (·.1) = false := by rfl) :
    PE X (.Call (.Attribute o name apos) [e] [] cpos) (tE G W (m2T ks fD mo me)) :=
  imp_E (pe_mw ho (pa_cons he pa_nil hs) hbase hfew hline hs hpl) fun σ H Q ⟨O, ad, env, j, p⟩ => by
    refine mono_E (seqE (β := R Val) (P := PostE G W O ad env σ H Q) xsE (fun _ z => z) (Kr.refl O (Fo O env ad) H) j p) fun x H1 ⟨ad2, env2, val2, k2, k3, w2, q2⟩ => ?_
    split at q2
    · rename_i hk
      have nz : kd (view env2 val2) ≠ 0 := fun z => h0 (by rw [← z]; exact hk)
      obtain ⟨c, ec, hc⟩ := kd_inv nz
      have rb := (w2.vb (B := fun _ => False) fun _ z => z.elim).view w2.j ec
      have fin : ∀ (tup : Bool), (kd (view env2 val2) = if tup = true then 2 else 1) → tCons (tE G W me) tNil σ H1 fun xs H2 => rDat X.K tup fV x xs H2 Q := fun tup ht => by
        refine mono_E (seqE (β := R Val) (P := PostE G W O ad env σ H Q) xsE (valO_le val2 x) k2 w2.j q2) fun y H4 ⟨ad5, env5, val5, k5, k6, w5, q5⟩ => ?_
        have jj := w5.j
        have b1 := (w2.vb (B := fun _ => False) fun _ z => z.elim).later k6 w5
        have b2 := w5.vb (B := fun _ => False) fun _ z => z.elim
        split at q5
        · rename_i hk5
          obtain ⟨c5, ec5, q5⟩ := opt_inv (P := PostE G W O ad env σ H Q) q5 fun z => z
          obtain ⟨d5, ed5, q5⟩ := opt_inv (P := PostE G W O ad env σ H Q) q5 fun z => z
          split at q5
          · rename_i hp
            obtain ⟨p1, p2, p3⟩ := hp
            obtain ⟨r, er, q6⟩ := opt_inv (P := PostE G W O ad env σ H Q) q5 fun z => z
            obtain ⟨v, ev, rv⟩ := hf _ _ _ er
            have rc := b1.view jj ec5
            have rd := (b2.view jj ed5).dp p2
            have nz5 : kd (view env5 val2) ≠ 0 := by rw [hk5]; exact nz
            obtain ⟨c6, ec6, hc6⟩ := kd_inv nz5
            rw [ec5] at ec6
            cases ec6
            have qq := fun (h : PostE G W O ad env σ H Q (.ok (.d r) env5)) => finE (Q := Q) (fun a z => valO_le _ _ _ (valO_le _ _ _ z)) k5 jj h (NewOk.dat (rv G.K _ H4))
            rw [hK] at rc rd
            rcases hc6 with ⟨ds, rfl, hk6⟩ | ⟨ds, rfl, hk6⟩
            · have ef : tup = false := by
                cases tup with
                | false => rfl
                | true => rw [if_pos rfl] at ht; rw [hk5, ht] at hk6; cases hk6
              subst ef
              obtain ⟨a, vs, rfl, h1, h2⟩ := rc.toLst
              exact ⟨a, vs, y, ds, d5, v, rfl, rfl, h1, h2.dp p1, rd, p1, p2, p3, ev, qq q6⟩
            · have ef : tup = true := by
                cases tup with
                | true => rfl
                | false => rw [if_neg Bool.false_ne_true] at ht; rw [hk5, ht] at hk6; cases hk6
              subst ef
              obtain ⟨a, vs, rfl, h1, h2⟩ := rc.toTup
              exact ⟨a, vs, y, ds, d5, v, rfl, rfl, h1, h2.dp p1, rd, p1, p2, p3, ev, qq q6⟩
          · exact q5.elim
        · exact q5.elim
      rw [hK] at rb
      rcases hc with ⟨ds, rfl, hk1⟩ | ⟨ds, rfl, hk1⟩
      · obtain ⟨id, m⟩ := wL (by rw [← hk1]; exact hk)
        obtain ⟨a, vs, rfl, h1, _⟩ := rb.toLst
        exact ⟨"list", id, _, m, ⟨a, rfl, .inl ⟨rfl, vs, h1⟩⟩, fin false hk1⟩
      · obtain ⟨id, m⟩ := wT (by rw [← hk1]; exact hk)
        obtain ⟨a, vs, rfl, _, h1, _⟩ := rb.toTupD
        exact ⟨"tuple", id, _, m, ⟨a, rfl, .inr ⟨rfl, h1⟩⟩, fin true hk1⟩
    · exact q2.elim
theorem mw_cntL (hu : X.A.units + 65 < cLine) : MW X "count" "list" "list.count" (rDat X.K false fCnt) := ⟨PySem.F.plainAttrs_list, PySem.F.slot_list_count, PySem.F.type_list_count, mt_cntL hu⟩
theorem mw_cntT (hu : X.A.units + 65 < cLine) : MW X "count" "tuple" "tuple.count" (rDat X.K true fCnt) := ⟨PySem.F.plainAttrs_tuple, PySem.F.slot_tuple_count, PySem.F.type_tuple_count, mt_cntT hu⟩
theorem mw_idxL (hu : X.A.units + 65 < cLine) : MW X "index" "list" "list.index" (rDat X.K false fIdx) := ⟨PySem.F.plainAttrs_list, PySem.F.slot_list_index, PySem.F.type_list_index, mt_idxL hu⟩
theorem e_count (hK : G.K = X.K) (hu : X.A.units + 65 < cLine) (ho : PE X o (tE G W mo)) (he : PE X e (tE G W me))
    (hbase : attributeBase o "count" X.env (eval o X.env) = eval o X.env := by rfl)
    (hfew : ((backTo cpos (starEach [e] X.env)).all (fun x => !x.1) && (backToKw cpos (keywordEach [] X.env)).all (fun x => x.1.isSome)
      && decide (([e] : List Expr).length + ([] : List Keyword).length + (if ([] : List Keyword).isEmpty then 0 else 1) < 30)) = true := by rfl)
    (hline : (apos.endLine == cpos.line) = true := by rfl) (hs : starEach [e] X.env = (false, eval e X.env) :: starEach [] X.env := by rfl) (hpl : (backTo cpos (starEach [] X.env)).any (·.1) = false := by rfl) :
    PE X (.Call (.Attribute o "count" apos) [e] [] cpos) (tE G W (m2T [1, 2] dCnt mo me)) := e_mw hK v2_cnt (by decide) (fun _ => ⟨_, mw_cntL hu⟩) (fun _ => ⟨_, mw_cntT hu⟩) ho he hbase hfew hline hs hpl
theorem e_index (hK : G.K = X.K) (hu : X.A.units + 65 < cLine) (ho : PE X o (tE G W mo)) (he : PE X e (tE G W me))
    (hbase : attributeBase o "index" X.env (eval o X.env) = eval o X.env := by rfl)
    (hfew : ((backTo cpos (starEach [e] X.env)).all (fun x => !x.1) && (backToKw cpos (keywordEach [] X.env)).all (fun x => x.1.isSome)
      && decide (([e] : List Expr).length + ([] : List Keyword).length + (if ([] : List Keyword).isEmpty then 0 else 1) < 30)) = true := by rfl)
    (hline : (apos.endLine == cpos.line) = true := by rfl) (hs : starEach [e] X.env = (false, eval e X.env) :: starEach [] X.env := by rfl) (hpl : (backTo cpos (starEach [] X.env)).any (·.1) = false := by rfl) :
    PE X (.Call (.Attribute o "index" apos) [e] [] cpos) (tE G W (m2T [1] dIdx mo me)) := e_mw hK v2_idx (by decide) (fun _ => ⟨_, mw_idxL hu⟩) (fun h => absurd h (by decide)) ho he hbase hfew hline hs hpl
end
end Nb
namespace Nb
open L2 PySem PySem.Spec PyProof.Rows

/-! ### list(range(a)), tuple(range(a)), range(a, b) too -/
def rgOk (a b : Int) : Bool := decide (-(2 ^ 62) ≤ a) && (decide (a < 2 ^ 62) && (decide (-(2 ^ 62) ≤ b) && (decide (b < 2 ^ 62) && decide ((b - a).toNat ≤ 1000000))))
theorem rgOk_ok {a b : Int} (h : rgOk a b = true) : RgOk a b := by
  simp only [rgOk, Bool.and_eq_true, decide_eq_true_eq] at h
  obtain ⟨h1, h2, h3, h4, h5⟩ := h
  exact ⟨h1, h2, h3, h4, by omega⟩
def gLr1 : D → Option Val
  | .int b => if rgOk 0 b = true then some (.f (.lst (rngD 0 b))) else none
  | _ => none
def gTr1 : D → Option Val
  | .int b => if rgOk 0 b = true then some (.d (.tuple (rngD 0 b))) else none
  | _ => none
def gLr2 : D → D → Option Val
  | .int a, .int b => if rgOk a b = true then some (.f (.lst (rngD a b))) else none
  | _, _ => none
theorem rel_rg {K : PySem.W.Frag} {F : Fb} {H : Hp} {a b : Int} : RelL K F H (rngD a b) (rgV a b) := by
  unfold rngD rgV
  generalize (b - a).toNat = n
  induction List.range n with
  | nil => exact .nil
  | cons i l ih => exact .cons (.int _) ih
section
variable {X : Cx} {G : Ct} {W : WX} {a b : Expr} {ma mb : M Val} {p p2 pos pos2 : Pos}
theorem g_lr1 {K : PySem.W.Frag} : Op1 K gLr1 (fun x H Q => ∃ n, x = .int n ∧ RgOk 0 n ∧ ∀ q, H q = none → Q (.ref q) (upd H q (.lst (rgV 0 n)))) := by
  intro F H x d res Q hF rx hg q
  unfold gLr1 at hg
  split at hg
  · split at hg
    · rename_i h
      cases hg
      exact ⟨_, rx.toInt, rgOk_ok h, fun p np => q _ _ (NewOk.lst np rel_rg)⟩
    · cases hg
  · cases hg
theorem g_tr1 {K : PySem.W.Frag} : Op1 K gTr1 (fun x H Q => ∃ n, x = .int n ∧ RgOk 0 n ∧ ToT H (rgV 0 n) Q) := by
  intro F H x d res Q hF rx hg q
  unfold gTr1 at hg
  split at hg
  · split at hg
    · rename_i h
      cases hg
      exact ⟨_, rx.toInt, rgOk_ok h, fun p _ np => q _ _ (NewOk.tup np rel_rg)⟩
    · cases hg
  · cases hg
theorem e_lr1 (hK : G.K = X.K) (hc : X.calm = true) (hgL : Gl X "list") (hmL : X.mg "list" = none) (hg : Gl X "range") (hm : X.mg "range" = none) (ha : PE X a (tE G W ma))
    (n1 : starEach [a] X.env = (false, eval a X.env) :: starEach [] X.env := by rfl) (n2 : starEach [.Call (.Name "range" p2) [a] [] pos2] X.env = (false, eval (.Call (.Name "range" p2) [a] [] pos2) X.env) :: starEach [] X.env := by rfl) :
    PE X (.Call (.Name "list" p) [.Call (.Name "range" p2) [a] [] pos2] [] pos) (tE G W (m1 gLr1 ma)) :=
  imp_E (pe_listRg hc hgL hmL (prg_1 hg hm ha n1) n2) fun σ H Q h => one g_lr1 h
/-- tuple(range), a new tuple's object told -/
def tTupRgF (te : L2.St → Hp → (Int → Int → Hp → Prop) → Prop) : TE := fun σ H Q => te σ H fun a b H1 => RgOk a b ∧ ToT H1 (rgV a b) Q
theorem pe_tupRgF {e : Expr} {te : L2.St → Hp → (Int → Int → Hp → Prop) → Prop} (hc : X.calm = true) (hg : Gl X "tuple") (hm : X.mg "tuple" = none) (he : PRg X e te) (n1 : starEach [e] X.env = (false, eval e X.env) :: starEach [] X.env) : PE X (.Call (.Name "tuple" p) [e] [] pos) (tTupRgF te) :=
  ⟨fun pins s σ H Q I h => Call_ (ld_blt I hg hm boot_tuple (PyProof.Rows.callWith_type1 (args_cons (thn (he pins s σ H _ I h) fun x s1 ⟨r, a, b, t, u, v, H1, ex, hr, I1, ok, q⟩ => args_nil (by
    subst ex
    obtain ⟨o1, o2, o3, o4, o5⟩ := ok
    refine call_tuple_range (n := (b - a).toNat) (I1.ok.hd hc) hr (small_one o1 o2 o3 o4) (rangeSize_nat a b) o5 fun h' tk acc hk hi => ?_
    exact newT_ep (tk := tk) (us := acc.toList) (I1.kept (t' := tk) hk) (vals_rg hi) (by rw [rgV_length, sizeLine_eq]; omega) q)) n1) n1))⟩
theorem e_tr1 (hK : G.K = X.K) (hc : X.calm = true) (hgL : Gl X "tuple") (hmL : X.mg "tuple" = none) (hg : Gl X "range") (hm : X.mg "range" = none) (ha : PE X a (tE G W ma))
    (n1 : starEach [a] X.env = (false, eval a X.env) :: starEach [] X.env := by rfl) (n2 : starEach [.Call (.Name "range" p2) [a] [] pos2] X.env = (false, eval (.Call (.Name "range" p2) [a] [] pos2) X.env) :: starEach [] X.env := by rfl) :
    PE X (.Call (.Name "tuple" p) [.Call (.Name "range" p2) [a] [] pos2] [] pos) (tE G W (m1 gTr1 ma)) :=
  imp_E (pe_tupRgF hc hgL hmL (prg_1 hg hm ha n1) n2) fun σ H Q h => one g_tr1 h

/-! ### xs[::-1] -/
theorem rev_pick (us : List Value) : ((List.range us.length).filterMap fun (m : Nat) => us.toArray[((us.length : Int) - 1 + (m : Int) * (-1)).toNat]?).toArray = us.reverse.toArray := by
  have e : ((List.range us.length).filterMap fun (m : Nat) => us.toArray[((us.length : Int) - 1 + (m : Int) * (-1)).toNat]?) = (List.range us.length).filterMap fun m => us.reverse[m]? := by
    have key : ∀ l : List Nat, (∀ m ∈ l, m < us.length) → (l.filterMap fun (m : Nat) => us.toArray[((us.length : Int) - 1 + (m : Int) * (-1)).toNat]?) = l.filterMap fun m => us.reverse[m]? := fun l => by
      induction l with
      | nil => intro _; rfl
      | cons m l ih =>
        intro hl
        have hm := hl m (List.mem_cons_self)
        have : ((us.length : Int) - 1 + (m : Int) * (-1)).toNat = us.length - 1 - m := by omega
        rw [List.filterMap_cons, List.filterMap_cons, ih fun k hk => hl k (List.mem_cons_of_mem _ hk), this, List.getElem?_toArray, List.getElem?_reverse hm]
    exact key _ fun m hm => List.mem_range.mp hm
  rw [e]
  have : (List.range us.length).filterMap (fun m => us.reverse[m]?) = us.reverse := by
    have h := List.length_reverse (as := us)
    rw [← h]
    generalize us.reverse = l
    induction l with
    | nil => rfl
    | cons x l ih => rw [List.length_cons, List.range_succ_eq_map, List.filterMap_cons, List.filterMap_map]; simp only [List.getElem?_cons_zero, Function.comp_def, List.getElem?_cons_succ]; rw [ih]
  rw [this]
def rRev (K : PySem.W.Frag) : V → Hp → VK → Prop := fun x H Q => ∃ a xs, x = .ref a ∧ ((SqL K H a xs ∧ ∀ p, H p = none → Q (.ref p) (upd H p (.lst xs.reverse))) ∨ (SqT K H a xs ∧ ToT H xs.reverse Q))
section
variable {prog : Program} {w : World} {A : Around} {E : Value → Shared → Prop} {s : Shared}
theorem applied_rev {sl : Addr} {tk : Tok} {n : Nat} {Q : Int × Int × Nat → Shared → Prop} (hs : s.heap.IsSliceOf sl .none .none (.int (-1) tk)) (h : Q ((n : Int) - 1, -1, n) s) : wpAny (model prog w) A (Builtin.Slice.sliceApplied (.ref sl) (pure (n : Int))) Q E s := by
  obtain ⟨os, hos, _, hds⟩ := id hs
  unfold Builtin.Slice.sliceApplied Builtin.Slice.sliceFields
  refine wpAny_bind (wpAny_bind (wpAny_field hos hds (x := .none) rfl (wpAny_bind (wpAny_field hos hds (x := .none) rfl (wpAny_bind (wpAny_field hos hds (x := .int (-1) tk) rfl (wpAny_pure ?_)))))))
  refine wpAny_bind (slicePart_int ?_)
  show wpAny _ _ (if ((-1 : Int) == 0) = true then _ else _) _ _ s
  rw [if_neg (by decide)]
  refine wpAny_bind (slicePart_none (wpAny_bind (slicePart_none (wpAny_bind (wpAny_pure ?_)))))
  have e1 : Builtin.Slice.sliceAdjust none none (-1) (n : Int) = ((n : Int) - 1, -1) := by
    unfold Builtin.Slice.sliceAdjust
    simp
  have e2 : Builtin.Slice.slicePlaces ((n : Int) - 1) (-1) (-1) = n := by
    unfold Builtin.Slice.slicePlaces
    have h1 : ¬ ((-1 : Int) > 0) := by decide
    have h2 : -(-1 : Int) = 1 := by decide
    rw [if_neg h1, h2, Int.ediv_one]
    split <;> omega
  show wpAny _ _ (match Builtin.Slice.sliceAdjust none none (-1) (n : Int) with | (lo, hi) => pure (lo, (-1 : Int), Builtin.Slice.slicePlaces lo hi (-1))) _ _ s
  rw [e1]
  show wpAny _ _ (pure ((n : Int) - 1, (-1 : Int), Builtin.Slice.slicePlaces ((n : Int) - 1) (-1) (-1))) _ _ s
  rw [e2]
  exact wpAny_pure h
theorem getItem_tuple_rev {t sl : Addr} {us : List Value} {tk : Tok} {Q : Value → Shared → Prop} (ht : IsTup s.heap t us.toArray) (hs : s.heap.IsSliceOf sl .none .none (.int (-1) tk)) (h : Q (.ref s.heap.objs.size) { s with heap := s.heap.push (tobj us.reverse) })
    (hsz : us.length ≤ sizeLine) : wpAny (model prog w) A (getItem (.ref t) (.ref sl)) Q E s := by
  have hS : sizeOk (.seq us.reverse.toArray) := by show us.reverse.toArray.size ≤ sizeLine; rw [List.size_toArray, List.length_reverse]; exact hsz
  have hTs : s.TypeIs (.ref sl) "slice" := by obtain ⟨os, h1, h2, _⟩ := hs; exact ⟨os, h1, h2⟩
  unfold getItem
  try with_reducible refine wpAny_holding ?_
  first | refine wpAny_bind (wpAny_pure ?_) | skip
  refine wpAny_bind (wpAny_sequenceKey ht.typeIs (by decide) (wpAny_bind (wpAny_callSpecial?_slot (name := Str.ofString "__getitem__") ht.typeIs PyProof.Rows.slot_tuple_getitem
    (wpAny_call_entry PyProof.Rows.slot_tuple_getitem ht.typeIs entry_tuple_getitem ?_ (args_tuple_getitem _ _)))))
  show wpAny (model prog w) A.in1 (Builtin.Tuple.tupleItemsOf (Value.ref t) >>= _) _ _ s
  refine wpAny_bind (tupleItemsOf_ ht (wpAny_bind (wpAny_typeOf hTs ?_)))
  rw [if_pos (by decide)]
  refine wpAny_bind (applied_rev hs ?_)
  have hno : ¬ ((((us.toArray.size : Int) - 1) == 0 && (-1 : Int) == 1 && us.toArray.size == us.toArray.size) = true) := by
    rw [show ((-1 : Int) == 1) = false by decide, Bool.and_false, Bool.false_and]; decide
  show wpAny _ _ (if ((((us.toArray.size : Int) - 1) == 0 && (-1 : Int) == 1 && us.toArray.size == us.toArray.size) = true) then _ else _) _ _ s
  rw [if_neg hno, List.size_toArray, rev_pick]
  first
    | exact wpAny_bind (m := Builtin.Tuple.tupleExact _) (wpAny_newObj_type (wpAny_pure ⟨_, rfl, wpAny_pure h⟩) hS)
    | exact wpAny_bind (m := Builtin.Tuple.tupleExact _) (wpAny_newObj_type (wpAny_bind (wpAny_pure (wpAny_pure ⟨_, rfl, wpAny_pure h⟩))) hS)
    | exact wpAny_bind (wpAny_bind (m := Builtin.Tuple.tupleExact _) (wpAny_newObj_type (wpAny_pure (wpAny_pure ⟨_, rfl, wpAny_pure h⟩)) hS))
    | exact wpAny_bind (wpAny_bind (m := Builtin.Tuple.tupleExact _) (wpAny_newObj_type (wpAny_pure ⟨_, rfl, wpAny_pure h⟩) hS))
end
variable {e : Expr} {te : TE} {me : M Val} {k0 : Nat} {p3 p4 : Pos}
def tRevE (K : PySem.W.Frag) (te : TE) : TE := fun σ H Q => te σ H fun x H1 => rRev K x H1 Q
theorem pe_rev (he : PE X e te) : PE X (.Subscript e (.Slice none none (some (.UnaryOp .USub (.Constant (.int 1) k0 p3) p4)) p2) pos) (tRevE X.K te) := by
  refine ⟨fun pins s σ H Q I h => Subscript_ (thn (he.run pins s σ H _ I h) fun v s1 ⟨x, H1, I1, r1, q1⟩ => wpAny_Slice ?_)⟩
  rw [evalPart_none]
  refine wpAny_pure ?_
  refine wpAny_pure ?_
  rw [evalPart_some]
  refine thn ((pe_un un_neg (pe_int (i := 1) (j := k0) (pos := p3))).run pins s1 σ H1 (fun y H2 => y = .int (-1) ∧ H2 = H1) I1 ⟨_, rfl, rfl, rfl⟩) fun u s2 ⟨y, H2, I2, r2, ey, eH⟩ => ?_
  subst ey eH
  obtain ⟨tk, rfl⟩ := r2
  have I4 : Inv X pins σ H2 { s2 with heap := s2.heap.push { cls := .type "slice", data := .fields #[.none, .none, .int (-1) tk] } } := I2.kept (t' := s2.toks) fun b ob q => Heap.get?_push_of_some _ q
  have hs := Heap.IsSliceOf.new s2.heap .none .none (.int (-1) tk)
  obtain ⟨a, xs, rfl, hq⟩ := q1
  cases r1
  rcases hq with ⟨hq, q⟩ | ⟨hq, q⟩
  · obtain ⟨us, r, pl, hz⟩ := I4.list hq
    refine tail_any (ops := [.ref a, .ref s2.heap.objs.size]) pl.isList.typeIs slot_list_getitem.lookup (wpAny_getItem_list_slice pl.isList hs .none .none (.int (-1) tk) (by decide) ?_ (by rw [List.size_toArray, ← r.length]; exact hz)) (by with_unfolding_all rfl)
    rw [PySem.W.krv_pick]
    exact ⟨.ref _, _, I4.lnew (t' := s2.toks) r.reverse (by rw [List.length_reverse]; exact hz), rfl, q _ I4.fresh⟩
  · obtain ⟨us, r, pl, hz⟩ := I4.tuple hq
    exact tail_any (ops := [.ref a, .ref s2.heap.objs.size]) pl.typeIs PyProof.Rows.slot_tuple_getitem.lookup (getItem_tuple_rev pl hs (newT_ep (tk := s2.toks) I4 r.reverse (by rw [List.length_reverse]; exact hz) q) (by rw [← r.length]; exact hz)) (by with_unfolding_all rfl)
def gRev : D → Option Val
  | .list ds => some (.f (.lst ds.reverse))
  | .tuple ds => some (.d (.tuple ds.reverse))
  | _ => none
theorem RelL.reverse {K : PySem.W.Frag} {F : Fb} {H : Hp} : ∀ {ds : List D} {vs : List V}, RelL K F H ds vs → RelL K F H ds.reverse vs.reverse
  | _, _, .nil => .nil
  | _, _, .cons a b => by rw [List.reverse_cons, List.reverse_cons]; exact (RelL.reverse b).append (.cons a .nil)
theorem g_rev {K : PySem.W.Frag} : Op1 K gRev (rRev K) := by
  intro F H x d res Q hF rx hg q
  unfold gRev at hg
  split at hg
  · cases hg
    obtain ⟨a, xs, rfl, h1, h2⟩ := rx.toLst
    exact ⟨a, xs, rfl, .inl ⟨h1, fun p np => q _ _ (NewOk.lst np h2.reverse)⟩⟩
  · cases hg
    obtain ⟨a, xs, rfl, h1, h2⟩ := rx.toTup
    exact ⟨a, xs, rfl, .inr ⟨h1, fun p _ np => q _ _ (NewOk.tup np h2.reverse)⟩⟩
  · cases hg
theorem e_rev (hK : G.K = X.K) (he : PE X e (tE G W me)) : PE X (.Subscript e (.Slice none none (some (.UnaryOp .USub (.Constant (.int 1) k0 p3) p4)) p2) pos) (tE G W (m1 gRev me)) :=
  imp_E (pe_rev he) fun σ H Q h => one (hK ▸ g_rev) h
end
end Nb
namespace Nb
open L2 PySem PySem.Spec PyProof.Rows

/-! ### __init__ of the exceptions' classes -/
def clsB : Stmt → List Stmt
  | .ClassDef _ _ _ b _ _ _ _ _ _ _ => b
  | _ => []
abbrev rStrI : List V → Hp → VK → Prop := fun xs H Q => ∃ i, xs = [.int i] ∧ i.natAbs.log2 < 1920 ∧ Q (.str (toString i)) H
abbrev rCatSS : R2 := fun x y H Q => ∃ i j, x = .str i ∧ y = .str j ∧ i.length + j.length ≤ sizeLine ∧ Q (.str (i ++ j)) H
theorem fn_init {P : Program} {w : World} {K : PySem.W.Frag} {mg : Str → Option Value} {base : Heap} {x qual : Str} {st : Stmt} {f : Addr} {fd : FuncData} {N ps fs : List Str} {k : Nat} {t : TS} (F : Fun K x qual st f fd) (S0 : FnScope N ps (defScope st)) (hl : ps.length = fs.length + 1)
    (hb : ∀ (cdv : Value) (A : Around) (outer : List Env) (s : Shared) (H : Hp) (E : XK), PSs (cxOf (L2N.CX P w) P w K mg base N qual (defScope st) f cdv A outer s H E) (defBody st) t)
    (rd : ∀ vs H Q E, spInit K fs vs H Q E → t { nx := fun _ H' => Q .non H', rt := Q } (start N vs) H) : FnOk P w K mg base (L2N.CX P w) (k + 1) f fd ps (spInit K fs) := by
  obtain ⟨oc, od, kV, doc, pm, an, cdv, ct, osl, rfl, lk, hcd⟩ := F.ex
  exact fn_of lk hcd S0 (fun vs H Q E ⟨a, c, ns, e, l, _⟩ => by rw [e, List.length_cons, List.length_map, l, hl]) fun A outer s H vs Q E _ h => ⟨t, hb cdv A outer s H E, rd vs H Q E h⟩
theorem str_len {n : Int} (h : n.natAbs.log2 < 1920) : (Str.ofString (toString n)).length ≤ 1921 := PyProof.Rows.int_text_len_1921 h
theorem rd_init1 {K : PySem.W.Frag} {f m : Str} {N : List Str} (hm : m.length ≤ 1000) (vs : List V) (H : Hp) (Q : VK) (E : XK) (h : spInit K [f] vs H Q E) :
    tSeq (tDrop (tVeI K (tCons (tVar 0) (tCons (tOp rCatSS (tC (.str m)) (tCB rStrI (tCons (tVar 1) tNil))) tNil)))) (tOst K f (tVar 0) (tVar 1)) { nx := fun _ H' => Q .non H', rt := Q } (start N vs) H := by
  obtain ⟨a, c, ns, rfl, hl, hb, T, hf, ha, z⟩ := h
  match ns, hl with
  | [n], _ =>
    have hn := hb n (by simp)
    have e0 : (start N (.ref a :: [n].map V.int))[0]? = some (some (.ref a)) := rfl
    have e1 : (start N (.ref a :: [n].map V.int))[1]? = some (some (.int n)) := rfl
    have len : m.length + (Str.ofString (toString n)).length ≤ sizeLine := by have := str_len hn; rw [sizeLine_eq]; omega
    refine ⟨_, e0, _, e1, n, rfl, hn, _, _, rfl, rfl, len, a, c, _, rfl, by simp, T, ha, ?_⟩
    refine ⟨_, e1, _, e0, a, c, rfl, T, hf f (by simp), .inl ⟨ha, fun d nd ne => ?_⟩⟩
    refine z d _ nd ne upd_same ?_ fun b h1 h2 => by rw [upd_ne h1, upd_ne h2]
    rw [upd_ne ne, upd_same]
    rfl
theorem rd_init2 {K : PySem.W.Frag} {f g m : Str} {N : List Str} (hm : m.length ≤ 1000) (hfg : f ≠ g) (vs : List V) (H : Hp) (Q : VK) (E : XK) (h : spInit K [f, g] vs H Q E) :
    tSeq (tDrop (tVeI K (tCons (tVar 0) (tCons (tOp rCatSS (tOp rCatSS (tCB rStrI (tCons (tVar 1) tNil)) (tC (.str m))) (tCB rStrI (tCons (tVar 2) tNil))) tNil)))) (tSeq (tOst K f (tVar 0) (tVar 1)) (tOst K g (tVar 0) (tVar 2))) { nx := fun _ H' => Q .non H', rt := Q } (start N vs) H := by
  obtain ⟨a, c, ns, rfl, hl, hb, T, hf, ha, z⟩ := h
  match ns, hl with
  | [n, k], _ =>
    have hn := hb n (by simp)
    have hk := hb k (by simp)
    have e0 : (start N (.ref a :: [n, k].map V.int))[0]? = some (some (.ref a)) := rfl
    have e1 : (start N (.ref a :: [n, k].map V.int))[1]? = some (some (.int n)) := rfl
    have e2 : (start N (.ref a :: [n, k].map V.int))[2]? = some (some (.int k)) := rfl
    have l1 := str_len hn
    have l2 := str_len hk
    have len : (Str.ofString (toString n)).length + m.length ≤ sizeLine := by rw [sizeLine_eq]; omega
    have len2 : ((Str.ofString (toString n)) ++ m).length + (Str.ofString (toString k)).length ≤ sizeLine := by
      have e : ((Str.ofString (toString n)) ++ m).length = (Str.ofString (toString n)).length + m.length := Array.size_append ..
      rw [e, sizeLine_eq]; omega
    refine ⟨_, e0, _, e1, n, rfl, hn, _, _, rfl, rfl, len, _, e2, k, rfl, hk, _, _, rfl, rfl, len2, a, c, _, rfl, by simp, T, ha, ?_⟩
    refine ⟨_, e1, _, e0, a, c, rfl, T, hf f (by simp), .inl ⟨ha, fun d nd ne => ?_⟩⟩
    refine ⟨_, e2, _, e0, a, c, rfl, T, hf g (by simp), .inr ⟨d, _, upd_same, by rw [upd_ne ne, upd_same], by simp, ?_⟩⟩
    refine z d _ nd ne (by rw [upd_ne (Ne.symm ne), upd_same]) (by rw [upd_same]; rfl) fun b h1 h2 => by rw [upd_ne h2, upd_ne h1, upd_ne h2]
/-! ### the table of the classes -/
def exC (ca : Nat → Addr) : List (Str × Addr) := [("NoArrows", ca 0), ("NoRoom", ca 1), ("NoWalkers", ca 2), ("NotShut", ca 3), ("NeverBack", ca 4), ("NoTour", ca 5), ("NoRow", ca 6), ("NoHouse", ca 7), ("NotOpen", ca 8), ("Nobody", ca 9), ("NoText", ca 10), ("TooGreat", ca 11)]
theorem exC_n {ca : Nat → Addr} : (exC ca).map (·.1) = exN := rfl
theorem exC_at (j : Nat) {ca : Nat → Addr} {p : Str × Addr} (h : (exC ca)[j]? = some p := by rfl) : p ∈ exC ca := List.mem_of_getElem? h
theorem exC_gs {mg : Str → Option Value} {ca : Nat → Addr} (h0 : mg "NoArrows" = some (.ref (ca 0))) (h1 : mg "NoRoom" = some (.ref (ca 1))) (h2 : mg "NoWalkers" = some (.ref (ca 2))) (h3 : mg "NotShut" = some (.ref (ca 3))) (h4 : mg "NeverBack" = some (.ref (ca 4))) (h5 : mg "NoTour" = some (.ref (ca 5)))
    (h6 : mg "NoRow" = some (.ref (ca 6))) (h7 : mg "NoHouse" = some (.ref (ca 7))) (h8 : mg "NotOpen" = some (.ref (ca 8))) (h9 : mg "Nobody" = some (.ref (ca 9))) (h10 : mg "NoText" = some (.ref (ca 10))) (h11 : mg "TooGreat" = some (.ref (ca 11))) : ∀ p ∈ exC ca, mg p.1 = some (.ref p.2) := fun p hp => by
  simp only [exC, List.mem_cons, List.not_mem_nil, or_false] at hp
  rcases hp with rfl | rfl | rfl | rfl | rfl | rfl | rfl | rfl | rfl | rfl | rfl | rfl <;> assumption
theorem hu65 {k : Nat} {A : Around} (r : Room k A) : A.units + 65 < cLine := by have := r.un; omega
theorem hu65H {k : Nat} {A : Around} (r : L2H.RoomH k A) : A.units + 65 < cLine := by have := r.un; omega
theorem hu64H {k : Nat} {A : Around} (r : L2H.RoomH k A) : A.units + 64 < cLine := by have := r.un; omega
theorem hu64 {k : Nat} {A : Around} (r : Room k A) : A.units + 64 < cLine := by have := r.un; omega
theorem roomS {k : Nat} {A : Around} {h : Option Value} (r : Room k A) : L2H.RoomH k (A.mark h) := ⟨r.dp, r.un⟩
theorem hu64S {k : Nat} {A : Around} {h : Option Value} (r : Room k A) : (A.mark h).units + 64 < cLine := hu64 (A := A) r
theorem hu65S {k : Nat} {A : Around} {h : Option Value} (r : Room k A) : (A.mark h).units + 65 < cLine := hu65 (A := A) r
end Nb
namespace Nb
open L2 PySem PySem.Spec PyProof.Rows
section
open SrtO
variable {prog : Program} {w : World} {A : Around} {E : Value → Shared → Prop} {s : Shared}
theorem collect_tuple {l : Addr} {vs : List Value} {Q : List Value → Shared → Prop} (hl : s.heap.IsTuple l vs.toArray)
    (h : Q vs { s with heap := (s.heap.push (seqObj "list" #[] 0)).update s.heap.objs.size (Obj.mapSeq (· ++ vs.toArray)) }) (hsz : vs.length ≤ sizeLine) :
    wpAny (model prog w) A (collect (.ref l)) Q E s := by
  obtain ⟨o, ho, hc, n, hd⟩ := id hl
  unfold collect
  refine wpAny_bind (wpAny_runValue (codeAny_builtin entry_proto_collect' ?_))
  show wpAny _ _ (do again (.builtin "list.__iadd__" ⟨[← newList [], .ref l], []⟩)) _ _ s
  refine wpAny_bind (wpAny_newList (wpAny_pure ⟨Code.quiet_builtin _ (by decide +kernel), codeAny_builtin entry_list_iadd' ?_⟩))
  show wpAny _ _ (Builtin.List.listExtendWith (.ref s.heap.objs.size) (.ref l) (.ref s.heap.objs.size)) _ _ { s with heap := s.heap.push (seqObj "list" #[] 0) }
  unfold Builtin.List.listExtendWith
  have ho' : (s.heap.push (seqObj "list" #[] 0)).get? l = some o := Heap.get?_push_of_some _ ho
  refine wpAny_bind (wpAny_typeOf (T := "tuple") ⟨o, ho', hc⟩ ?_)
  have ht : (Value.type "tuple" == Value.type "tuple") = true := by rfl
  rw [if_pos (by rw [ht]; simp)]
  refine wpAny_bind (listItems_at ho' hd ?_)
  refine wpAny_bind (listItems_at (xs := #[]) (n := 0) (Heap.get?_push_size _ rfl) rfl ?_)
  rw [if_neg (by simp)]
  refine wpAny_bind (listUpdate_at (xs := #[]) (n := 0) (Heap.get?_push_size _ rfl) rfl ?_ (Nat.zero_le _) (by show (#[] ++ vs.toArray).size ≤ sizeLine + 1; simp only [Array.size_append, List.size_toArray, List.length_nil]; omega))
  refine wpAny_pure ?_
  show wpAny (model prog w) A (do
      let o ← load s.heap.objs.size
      match o.data with
      | .seq xs _ => pure xs.toList
      | _ => unsupported "internal:collect") Q E { s with heap := (s.heap.push (seqObj "list" #[] 0)).update s.heap.objs.size (Obj.mapSeq (· ++ vs.toArray)) }
  refine wpAny_bind (wpAny_load (get?_update_seq (Heap.get?_push_size _ rfl) _) ?_)
  show wpAny _ _ (pure ((#[] : Array Value) ++ vs.toArray).toList) Q E _
  rw [show ((#[] : Array Value) ++ vs.toArray).toList = vs by simp]
  exact wpAny_pure h
theorem sorted_ordT {l : Addr} {vs : List Value} {ltv : Value → Value → Bool} {Q : Value → Shared → Prop} (O : Swo ltv) (hl : s.heap.IsTuple l vs.toArray) (hz : vs.length ≤ sizeLine)
    (hS : 2 ≤ vs.length → ∀ (h₁ : Heap) (a : Addr), h₁.get? a = some (seqObj "list" vs.toArray 0) → (∀ b o, s.heap.get? b = some o → b ≠ a ∧ h₁.get? b = some o) → SortableO prog w A.in1.in1 { s with heap := h₁ } a vs ltv)
    (h : ∀ out : List Value, Srtd ltv out → Stb ltv out vs → Q (.ref (s.heap.objs.size + 1)) { s with heap := sortedAll s.heap vs out.toArray }) :
    wpAny (model prog w) A (call (.builtin "sorted") [.ref l]) Q E s := by
  refine Calls.call_function_entry kind_sorted plain_sorted entry_sorted (args_sorted1 _) ?_
  unfold Builtin.«sorted»
  refine wpAny_bind (m := checkCount "sorted" 1 1 _) (wpAny_pure ?_)
  refine wpAny_bind (collect_tuple hl ?_ hz)
  refine wpAny_bind (wpAny_newList ?_ hz)
  have hsz : ((s.heap.push (seqObj "list" #[] 0)).update s.heap.objs.size (Obj.mapSeq (· ++ vs.toArray))).objs.size = s.heap.objs.size + 1 := by
    rw [Heap.size_update, size_push']
  have hoL : (((s.heap.push (seqObj "list" #[] 0)).update s.heap.objs.size (Obj.mapSeq (· ++ vs.toArray))).push (seqObj "list" vs.toArray 0)).get? (s.heap.objs.size + 1) = some (seqObj "list" vs.toArray 0) := by
    rw [← hsz]; exact Heap.get?_push_size _ rfl
  have keep : ∀ b o, s.heap.get? b = some o → b ≠ s.heap.objs.size + 1 ∧ (((s.heap.push (seqObj "list" #[] 0)).update s.heap.objs.size (Obj.mapSeq (· ++ vs.toArray))).push (seqObj "list" vs.toArray 0)).get? b = some o := fun b o q => by
    have hlt : b < s.heap.objs.size := Heap.lt_size q
    refine ⟨Nat.ne_of_lt (Nat.lt_succ_of_lt hlt), Heap.get?_push_of_some _ ?_⟩
    rw [Heap.get?_update_ne _ _ _ _ (Nat.ne_of_lt hlt)]
    exact Heap.get?_push_of_some _ q
  show wpAny _ _ _ _ _ { s with heap := ((s.heap.push (seqObj "list" #[] 0)).update s.heap.objs.size (Obj.mapSeq (· ++ vs.toArray))).push (seqObj "list" vs.toArray 0) }
  rw [hsz]
  refine wpAny_bind (wpAny_holding (wpAny_call_entry slot_list_sort ⟨_, hoL, rfl⟩ entry_list_sort (list_sort_ord O hoL hz (fun h2 => hS h2 _ _ hoL keep) fun out hs hb => ⟨_, rfl, ?_⟩) (args_list_sort _)))
  exact wpAny_pure ⟨_, rfl, h out hs hb⟩
end

/-! ### sorted(t), xs.extend(t) of a tuple -/
def rSortedIT (K : PySem.W.Frag) : List V → Hp → VK → Prop := fun vs H Q => ∃ (a : Addr) (ns : List Int), vs = [V.ref a] ∧ SqT K H a (ns.map V.int) ∧
  ∀ (ns' : List Int) (p : Addr), ns'.Perm ns → ns'.Pairwise (· ≤ ·) → H p = none → Q (.ref p) (upd H p (.lst (ns'.map V.int)))
section
variable {X : Cx}
theorem cr_sortedIT : CallR X (.builtin "sorted") (rSortedIT X.K) := by
  intro pins s σ H vs us Q I r h
  obtain ⟨a, ns, rfl, hs, q⟩ := h
  obtain ⟨its, rv, hl, hz⟩ := I.tuple hs
  rw [Vals.ref1 r]
  have hi := rv.ints
  refine sorted_ordT SrtO.swo_int hl (by rw [← rv.length]; exact hz) (fun h2 h₁ a' _ _ => SrtO.ints_sortable hi h2) fun out h1 h2 => ?_
  obtain ⟨k1, k2, k3⟩ := SrtO.ints_out hi h1 h2
  obtain ⟨ep, he'⟩ := PyProof.Rows.sortedAll_at s.heap its out.toArray
  have hlen : ((out.map SrtO.iv).map V.int).length ≤ sizeLine := by
    rw [List.length_map, k2.length_eq]
    rw [List.length_map] at hz
    exact hz
  exact ⟨.ref _, upd H (s.heap.objs.size + 1) (.lst ((out.map SrtO.iv).map V.int)), I.laid (t' := s.toks) (fun _ _ => PyProof.Rows.sortedAll_old) (Nat.le_succ _) ⟨hlen, out, ep, vals_of_ints k1, he'⟩, rfl, q _ _ k2 k3 (I.hok.fresh (Nat.le_succ _))⟩
end
def gSortA : List D → Option Val
  | [.tuple ds] => (intsOf ds).map fun ns => .f (.lst ((ns.mergeSort fun a b => decide (a ≤ b)).map PyData.int))
  | ds => gSorted ds
theorem g_sortA {K : PySem.W.Frag} : OpA K gSortA (fun vs H Q => rSortedI K vs H Q ∨ rSortedIT K vs H Q) := fun F H vs ds res Q hF r hg q => by
  unfold gSortA at hg
  split at hg
  · rename_i es
    cases e : intsOf es with
    | none => rw [e] at hg; cases hg
    | some ns =>
      rw [e] at hg
      cases hg
      obtain ⟨v, rfl, r1⟩ := r.one
      obtain ⟨a, rfl, h⟩ := intsT_at r1 e
      exact .inr ⟨a, ns, rfl, h, fun ms p pm ps np => q _ _ (by rw [sort_unique pm ps]; exact NewOk.lst np (RelL.ints _))⟩
  · exact .inl (g_sorted F H vs _ res Q hF r hg q)
/-! ### extend -/
def rExtA (K : PySem.W.Frag) : V → List V → Hp → VK → Prop := fun x vs H Q => ∃ l b xs zs, x = .ref l ∧ vs = [.ref b] ∧ H l = some (.lst xs) ∧ (SqL K H b zs ∨ SqT K H b zs) ∧ xs.length + zs.length ≤ sizeLine ∧ Q .non (upd H l (.lst (xs ++ zs)))
theorem ext_meets (l : Addr) (items : Array Value) (n : Nat) (b : Addr) (items2 : Array Value) (hs : items.size + items2.size ≤ sizeLine) :
    Meets (Builtin.«list.extend» ⟨[.ref l, .ref b], []⟩) (fun _ R s => s.heap.get? l = some { cls := .type "list", dict := none, data := .seq items n, slots := #[] } ∧ (∃ (T : String) (o : Obj) (n2 : Nat), (T = "list" ∨ T = "tuple") ∧ s.heap.get? b = some o ∧ o.cls = .type T ∧ o.data = .seq items2 n2) ∧ R (.ok (.ret Value.none)) { s with heap := s.heap.update l (Obj.mapSeq fun x => x ++ items2), toks := s.toks }) :=
  .of_wp fun prog w A R s ⟨hl, ⟨T, o, n2, hT, hb, hc, hd⟩, h⟩ => by
    show wpAny _ _ (Builtin.List.listExtendWith (.ref l) (.ref b) .none) _ _ s
    unfold Builtin.List.listExtendWith
    refine wpAny_bind (wpAny_typeOf (T := T) ⟨o, hb, hc⟩ ?_)
    rw [if_pos (by rcases hT with rfl | rfl <;> simp)]
    refine wpAny_bind (listItems_at hb hd ?_)
    refine wpAny_bind (listItems_at hl rfl ?_)
    have hlong : ¬ (!items.isEmpty && Builtin.List.listTooLong (items.size + items2.size)) = true := by
      rw [notLongL hs, Bool.and_false]
      exact Bool.false_ne_true
    rw [if_neg hlong]
    refine wpAny_bind (listUpdate_at hl rfl ?_ (by omega) (by show (items ++ items2).size ≤ sizeLine + 1; rw [Array.size_append]; omega))
    exact wpAny_pure ⟨_, rfl, h⟩
theorem mt_extA {X : Cx} : MtR X "list.extend" (rExtA X.K) := by
  intro pins s σ H x vs v us Q I rx rv h
  obtain ⟨l, b, xs, zs, rfl, rfl, hH, hB, hz, q⟩ := h
  cases rx
  obtain ⟨u, rfl, ru⟩ := rv.one
  cases ru
  obtain ⟨z, its, n, r, hl, e⟩ := I.lstM hH
  have key : ∃ its2 : List Value, Vals zs its2 ∧ ∃ (T : String) (o : Obj) (n2 : Nat), (T = "list" ∨ T = "tuple") ∧ s.heap.get? b = some o ∧ o.cls = .type T ∧ o.data = .seq its2.toArray n2 := by
    rcases hB with hB | hB
    · obtain ⟨its2, r2, hl2, _⟩ := I.list hB
      obtain ⟨o, ho, hc, n2, hd⟩ := hl2.isList
      exact ⟨its2, r2, "list", o, n2, .inl rfl, ho, hc, hd⟩
    · obtain ⟨its2, r2, ⟨o, ho, hc, n2, hd⟩, _⟩ := I.tuple hB
      exact ⟨its2, r2, "tuple", o, n2, .inr rfl, ho, hc, hd⟩
  obtain ⟨its2, r2, hobj⟩ := key
  have hl2 := r2.length
  refine call_meets PySem.F.slot_list_extend ⟨_, e, rfl⟩ PySem.F.entry_list_extend (PySem.F.args_list_extend_2 _ _) (ext_meets l its.toArray n b its2.toArray (by rw [List.size_toArray, List.size_toArray]; omega)) ⟨e, hobj, ?_⟩
  refine ⟨.non, _, I.lset (its' := its ++ its2) hH e (by simp) (r.append r2) ?_, rfl, q⟩
  rw [List.length_append]
  omega
def fExtend : List D → List D → Option (D × List D)
  | ds, [.list es] => if ds.length + es.length ≤ line then some (.none, ds ++ es) else none
  | ds, [.tuple es] => if ds.length + es.length ≤ line then some (.none, ds ++ es) else none
  | _, _ => none
theorem m_extend {K : PySem.W.Frag} : OpM K fExtend (rExtA K) := fun F H l xs vs ds args ds' res Q e rx ra ef q => by
  unfold fExtend at ef
  split at ef
  · split at ef
    · rename_i hl
      cases ef
      cases ra with
      | cons r rr =>
        cases rr
        obtain ⟨a, ys, rfl, h1, h2⟩ := r.toLst
        exact ⟨l, a, xs, ys, rfl, rfl, e, .inl h1.sq, by rw [← rx.length, ← h2.length, line_eq]; exact hl, q _ _ (rx.append h2) .non⟩
    · cases ef
  · split at ef
    · rename_i hl
      cases ef
      cases ra with
      | cons r rr =>
        cases rr
        obtain ⟨a, ys, rfl, h1, h2⟩ := r.toTup
        exact ⟨l, a, xs, ys, rfl, rfl, e, .inr h1, by rw [← rx.length, ← h2.length, line_eq]; exact hl, q _ _ (rx.append h2) .non⟩
    · cases ef
  · cases ef
end Nb
namespace Nb
open L2 PySem PySem.Spec PyProof.Rows

/-! ### zip of two or three rows, each a tuple or a list -/
def SqK (k : Bool) (K : PySem.W.Frag) (H : Hp) (a : Addr) (xs : List V) : Prop := match k with
  | true => SqT K H a xs
  | false => SqL K H a xs
def StK (k : Bool) (h : Heap) (i l : Addr) (n : Nat) : Prop := match k with
  | true => h.IsTupleIter i l n
  | false => h.IsListIter i l n
def InK (k : Bool) (h : Heap) (l : Addr) (us : Array Value) : Prop := match k with
  | true => h.IsTuple l us
  | false => h.IsList l us
def objK (k : Bool) (l : Addr) : Obj := match k with
  | true => { cls := .type "tuple_iterator", data := .fields #[.ref l, .int 0 0] }
  | false => { cls := .type "list_iterator", data := .fields #[.ref l, .int 0 0] }
theorem draws_k {P : Program} {w : World} {A : Around} (k : Bool) (hA : A.handled = none) (i l : Addr) (hne : l ≠ i) (us : Array Value) : Draws P w A i [i, l] us.size (fun n v => us[n]? = some v) (fun n h => StK k h i l n ∧ InK k h l us) := by
  cases k
  · exact Draws.list hA i l hne us
  · exact Draws.tuple hA i l hne us
theorem begins_k (k : Bool) (l : Addr) (us : Array Value) : Begins (.ref l) (objK k l) fun h => InK k h l us := by
  cases k
  · exact begins_list l us
  · exact begins_tuple l us
theorem StK.there {k : Bool} {h : Heap} {i l : Addr} {n : Nat} (x : StK k h i l n) : ∃ o, h.get? i = some o ∧ ∀ v, o.data ≠ .cell v := by
  cases k <;> (obtain ⟨o, e, _, d⟩ := x; exact ⟨o, e, fun v q => by rw [d] at q; cases q⟩)
theorem StK.kept {k : Bool} {h h' : Heap} {i l : Addr} {n : Nat} (x : StK k h i l n) (q : ∀ o, h.get? i = some o → h'.get? i = some o) : StK k h' i l n := by
  cases k <;> (obtain ⟨o, e, d⟩ := x; exact ⟨o, q o e, d⟩)
theorem StK.lt {k : Bool} {h : Heap} {i l : Addr} {n : Nat} (x : StK k h i l n) : i < h.objs.size := by
  obtain ⟨o, e, _⟩ := x.there
  exact Heap.lt_size e
theorem InK.lt {k : Bool} {h : Heap} {l : Addr} {us : Array Value} (x : InK k h l us) : l < h.objs.size := by
  cases k <;> (obtain ⟨o, e, _⟩ := x; exact Heap.lt_size e)
theorem StK.new {k : Bool} {h : Heap} {i l : Addr} (e : h.get? i = some (objK k l)) : StK k h i l 0 := by
  cases k <;> exact ⟨_, e, rfl, rfl⟩
section
variable {X : Cx} {pins : List (Addr × Obj)} {s : Shared} {σ : L2.St} {H : Hp} {a : Addr} {xs ys : List V}
theorem inv_k {k : Bool} (I : Inv X pins σ H s) (h : SqK k X.K H a xs) : ∃ us : List Value, Vals xs us ∧ InK k s.heap a us.toArray := by
  cases k
  · obtain ⟨us, r, p, _⟩ := I.list h
    exact ⟨us, r, p.isList⟩
  · obtain ⟨us, r, p, _⟩ := I.tuple h
    exact ⟨us, r, p⟩
theorem inj_k {k : Bool} (I : Inv X pins σ H s) (h : SqK k X.K H a xs) (h' : SqK k X.K H a ys) : xs = ys := by
  cases k
  · exact I.list_inj h h'
  · exact I.tuple_inj h h'
end
theorem sep2 {z TI TO i j a b : Addr} (D : ZipApart z TI TO i j a b) : ZipSep2 z TI TO i j [i, a] [j, b] where
  TIz := D.TIz
  TOz := D.TOz
  TITO := D.TITO
  TIi1 := D.TIi1
  mem1 := by simp
  zf1 := by simp [D.i1z.symm, D.l1z.symm]
  Tf1 := by simp [D.TOi1, D.l1TO.symm]
  TIi2 := D.TIi2
  mem2 := by simp
  zf2 := by simp [D.i2z.symm, D.l2z.symm]
  Tf2 := by simp [D.TOi2, D.l2TO.symm]
  sep1_2 := by simp [D.i12, D.l2i1.symm]
  sep2_1 := by simp [D.i12.symm, D.l1i2.symm]
/-- the rows at a and b, the items in new pairs -/
def ItzK (k l : Bool) (K : PySem.W.Frag) (a b : Addr) : It where
  go := fun i H => ∃ (xs ys : List V) (x y : V), SqK k K H a xs ∧ SqK l K H b ys ∧ xs[i]? = some x ∧ ys[i]? = some y
  yld := fun i H v H2 => ∃ t x y, v = .ref t ∧ H t = none ∧ H2 = upd H t (.tup [x, y]) ∧ (∀ xs, SqK k K H a xs → xs[i]? = some x) ∧ ∀ ys, SqK l K H b ys → ys[i]? = some y
  stop := fun i H => ∃ xs ys : List V, SqK k K H a xs ∧ SqK l K H b ys ∧ i ≤ xs.length ∧ i ≤ ys.length ∧ (i = xs.length ∨ i = ys.length)
theorem five {z a b c d x : Addr} (h : x ∈ [z, a, b, c, d]) : x = z ∨ x = a ∨ x = b ∨ x = c ∨ x = d := by simpa using h
theorem turn_mz {P : Program} {w : World} {K : PySem.W.Frag} {elts : List Expr} {kk : Nat} {tp : Pos} {k l : Bool} {a b z TI TO i j : Addr} (D : ZipApart z TI TO i j a b) :
    Turn P w K (.Tuple elts kk tp) (ItzK k l K a b) [z, TI, TO, i, j] z (fun n h => IsZip h z TI TO .none ∧ IsTupOf2 h TI (.ref i) (.ref j) ∧ (∃ x y, IsTupOf2 h TO x y) ∧ StK k h i a n ∧ StK l h j b n) where
  mem := List.mem_cons_self ..
  obj := fun n h ⟨e1, e2, ⟨x, y, e3⟩, e4, e5⟩ c hc => by
    rcases five hc with rfl | rfl | rfl | rfl | rfl
    · exact ⟨_, e1, nofun⟩
    · exact ⟨_, e2, nofun⟩
    · exact ⟨_, e3, nofun⟩
    · exact e4.there
    · exact e5.there
  keep := fun n h h2 ⟨e1, e2, ⟨x, y, e3⟩, e4, e5⟩ q => ⟨q z (by simp) _ e1, q TI (by simp) _ e2, ⟨x, y, q TO (by simp) _ e3⟩, e4.kept (q i (by simp)), e5.kept (q j (by simp))⟩
  item := fun X hP hw hK hcalm n pins s σ H E I hf ⟨e1, e2, ⟨x0, y0, e3⟩, e4, e5⟩ ⟨xs, ys, x, y, s1, s2, g1, g2⟩ => by
    subst hP hw hK
    obtain ⟨us, r1, p1⟩ := inv_k I s1
    obtain ⟨vs, r2, p2⟩ := inv_k I s2
    obtain ⟨u, gu, ru⟩ := r1.get g1
    obtain ⟨v, gv, rv⟩ := r2.get g2
    have lz : z < s.heap.objs.size := Heap.lt_size e1
    have hA : X.A.in1.handled = none := I.ok.hd hcalm
    have lu := (List.getElem?_eq_some_iff.mp gu).1
    have lv := (List.getElem?_eq_some_iff.mp gv).1
    refine wpAny_pyNext_zipD2_item (sep2 D) (draws_k k hA i a D.l1i1 us.toArray) (draws_k l hA j b D.l2i2 vs.toArray) e1 e2 e3 ⟨e4, p1⟩ ⟨e5, p2⟩ (by simpa using lu) (by simpa using lv) fun u' v' h2 tk w1 w2 z1 z2 z3 z4 z5 z6 q => ?_
    have hu : u' = u := by
      have : us[n]? = some u' := by simpa using w1
      rw [gu] at this; exact (Option.some.inj this).symm
    have hv : v' = v := by
      have : vs[n]? = some v' := by simpa using w2
      rw [gv] at this; exact (Option.some.inj this).symm
    subst hu hv
    refine ⟨_, rfl, wpAny_letOwnedTupleGo_zip (s := { s with heap := h2, toks := tk }) z1 fun h3 y1 sb => ?_⟩
    have at3 : h3.get? s.heap.objs.size = some { cls := .type "tuple", data := .seq #[u', v'] } := (sb.2 _ (Nat.ne_of_gt lz)).trans z5
    have out : ∀ c o, c ∉ [z, TI, TO, i, j] → s.heap.get? c = some o → h3.get? c = some o := fun c o nc g =>
      (sb.2 c fun y => nc (by simp [y])).trans (q c o (fun y => nc (by simp [y])) (fun y => nc (by simp [y])) (fun y => nc (by simp [y])) (fun y => nc (by simp [y])) g)
    have new : ObjOk X.prog X.w (upd H s.heap.objs.size (.tup [x, y])) h3 s.heap.objs.size (.tup [x, y]) := ⟨(by decide : 2 ≤ sizeLine), [u', v'], .cons ru (.cons rv .nil), ⟨_, at3, rfl, _, rfl⟩⟩
    refine ⟨.ref s.heap.objs.size, _, I.turnedNew (t' := tk) out hf (Nat.le_refl _) new, rfl, ⟨_, x, y, rfl, I.hok.fresh (Nat.le_refl _), rfl, fun m hm => by rw [inj_k I hm s1]; exact g1, fun m hm => by rw [inj_k I hm s2]; exact g2⟩, ⟨y1, ?_, ⟨u', v', ?_⟩, ?_, ?_⟩, fun c hcm => ?_⟩
    · exact (sb.2 _ D.TIz).trans (q _ _ D.TIz D.TITO D.TIi1 D.TIi2 e2)
    · exact (sb.2 _ D.TOz).trans z2
    · exact z3.1.kept fun o g => (sb.2 _ D.i1z).trans g
    · exact z4.1.kept fun o g => (sb.2 _ D.i2z).trans g
    · have lc : c < s.heap.objs.size := by
        rcases five hcm with rfl | rfl | rfl | rfl | rfl
        · exact lz
        · exact Heap.lt_size e2
        · exact Heap.lt_size e3
        · exact e4.lt
        · exact e5.lt
      rw [upd_ne (Nat.ne_of_lt lc)]
      exact (hf c hcm).1
  done := fun X hP hw hK hcalm n pins s σ H E I hf ⟨e1, e2, ⟨x0, y0, e3⟩, e4, e5⟩ ⟨xs, ys, s1, s2, l1, l2, hend⟩ => by
    subst hP hw hK
    obtain ⟨us, r1, p1⟩ := inv_k I s1
    obtain ⟨vs, r2, p2⟩ := inv_k I s2
    have m1 := r1.length
    have m2 := r2.length
    have hA : X.A.in1.handled = none := I.ok.hd hcalm
    exact wpAny_pyNext_zipD2_end (sep2 D) (draws_k k hA i a D.l1i1 us.toArray) (draws_k l hA j b D.l2i2 vs.toArray) e1 e2 e3 ⟨e4, p1⟩ ⟨e5, p2⟩ (by simp; omega) (by simp; omega) (by simp; omega) fun h2 tk q => ⟨rfl, I.turnedL (t' := tk) (ch := [z, TI, TO, i, j]) (fun c o nc g =>
      q c o (fun y => nc (by simp [y])) (fun y => nc (by simp [y])) (fun y => nc (by simp [y])) (fun y => nc (by simp [y])) g) hf⟩
  self := fun A n s Q E st h => wpAny_pyIter_zip st.1 h
/-! what the loop gives, as data -/
def FzK (k : Bool) (K : PySem.W.Frag) (F : Fb) (H : Hp) (a : Addr) (xs : List V) : Prop := match k with
  | true => SqT K H a xs
  | false => FzL K F H a xs
section
variable {K : PySem.W.Frag} {O F F2 : Fb} {H H2 : Hp} {a b : Addr} {ds es : List D} {xs ys : List V}
theorem FzK.sq {k : Bool} (h : FzK k K F H a xs) : SqK k K H a xs := by
  cases k
  · exact FzL.sq h
  · exact h
theorem FzK.to {k : Bool} (h : FzK k K F H a xs) (q : Kr O F F2 H H2) : SqK k K H2 a xs := by
  cases k
  · exact SqL.of_fz h q
  · exact SqT.of_fz h q
theorem src_mz {k l : Bool} (h : FzK k K F H a xs) (r : RelL K F H ds xs) (h2 : FzK l K F H b ys) (r2 : RelL K F H es ys) : Src true K O F H (ItzK k l K a b) (zipD ds es) where
  stop := fun F2 H2 q => ⟨xs, ys, h.to q, h2.to q, by
    have e1 := r.length
    have e2 := r2.length
    simp only [zipD, List.length_map, List.length_zip]
    omega⟩
  go := fun F2 H2 i d q e => by
    obtain ⟨d0, e0, e1, e2, _⟩ := zipD_get e
    obtain ⟨v, ev, _⟩ := r.get e1
    obtain ⟨u, eu, _⟩ := r2.get e2
    exact ⟨xs, ys, v, u, h.to q, h2.to q, ev, eu⟩
  yld := fun F2 H2 i d x H3 q e y => by
    obtain ⟨d0, e0, e1, e2, rfl⟩ := zipD_get e
    obtain ⟨v, ev, rv⟩ := r.get e1
    obtain ⟨u, eu, ru⟩ := r2.get e2
    obtain ⟨t, x0, y0, rfl, nt, rfl, q1, q2⟩ := y
    have q1 := q1 xs (h.to q)
    have q2 := q2 ys (h2.to q)
    rw [ev] at q1
    rw [eu] at q2
    cases q1
    cases q2
    exact ⟨same_laid nt, rel_pair nt (rv.keep q.kq.kp) (ru.keep q.kq.kp)⟩
end
def seqD : D → Option (Bool × List D)
  | .list ds => some (false, ds)
  | .tuple ds => some (true, ds)
  | _ => none
theorem Rel.seqK {K : PySem.W.Frag} {F : Fb} {H : Hp} {d : D} {v : V} {k : Bool} {ds : List D} (r : Rel K F H d v) (e : seqD d = some (k, ds)) : ∃ a xs, v = .ref a ∧ FzK k K F H a xs ∧ RelL K F H ds xs := by
  cases d with
  | list es => cases e; exact r.toLst
  | tuple es => cases e; exact r.toTup
  | _ => cases e
def zipM2 : List D → Option (List D)
  | [x, y] => (seqD x).bind fun p => (seqD y).map fun q => zipD p.2 q.2
  | _ => none
def mZipM (ms : M (List Val)) : M (List D) := fun env => (ms env).bind fun vals e1 => (asDs e1 vals).elim .bad fun p => (zipM2 p.1).elim .bad fun ds => .ok ds p.2
theorem v_zipM {ms : M (List Val)} {env : Ev} : mZipM ms env = (ms env).elim (fun vals e1 => (asDs e1 vals).elim .bad fun p => (zipM2 p.1).elim .bad fun ds => .ok ds p.2) .ex .bad := rfl
theorem zm_ll {ds es : List D} : zipM2 [.list ds, .list es] = some (zipD ds es) := rfl
theorem zm_lt {ds es : List D} : zipM2 [.list ds, .tuple es] = some (zipD ds es) := rfl
theorem zm_tl {ds es : List D} : zipM2 [.tuple ds, .list es] = some (zipD ds es) := rfl
theorem zm_tt {ds es : List D} : zipM2 [.tuple ds, .tuple es] = some (zipD ds es) := rfl
theorem ls2 {K : PySem.W.Frag} {F : Fb} {H : Hp} {x y : D} {vs : List V} (r : RelL K F H [x, y] vs) : ∃ u v, vs = [u, v] ∧ Rel K F H x u ∧ Rel K F H y v := by
  cases r with
  | cons r1 rr => cases rr with
    | cons r2 rr => cases rr; exact ⟨_, _, rfl, r1, r2⟩
section
variable {X : Cx} {G : Ct} {W : WX} {e e2 e3 : Expr} {ms : M (List Val)} {p pos tpos : Pos} {elts : List Expr} {kk : Nat}
def iZipK (K : PySem.W.Frag) (ta : TA) : TI := fun σ H R => ta σ H fun vs H1 => ∃ a b xs ys k l, vs = [.ref a, .ref b] ∧ SqK k K H1 a xs ∧ SqK l K H1 b ys ∧ R (ItzK k l K a b) H1
theorem pi_mz {ta : TA} (hg : Gl X "zip") (hm : X.mg "zip" = none) (ha : PA X [e, e2] ta) (hs : starEach [e, e2] X.env = (false, eval e X.env) :: starEach [e2] X.env := by rfl) (hpl : (backTo pos (starEach [e2] X.env)).any (·.1) = false := by rfl) :
    PI X (.Tuple elts kk tpos) (.Call (.Name "zip" p) [e, e2] [] pos) (iZipK X.K ta) := by
  constructor
  intro pins s σ H R I h
  refine Call_ (ld_blt I hg hm PyProof.Rows.boot_zip (PyProof.Rows.callWith_type1 (thn (ha.run pos pins s σ H _ I h) fun us s1 ⟨vs, H1, I1, r1, q1⟩ => ?_) hs hpl))
  obtain ⟨a, b, xs, ys, k, l, rfl, s1', s2', q⟩ := q1
  obtain ⟨u, v, hu, ru, rv⟩ : ∃ u v, us = [u, v] ∧ RelV (.ref a) u ∧ RelV (.ref b) v := by
    cases r1 with
    | cons r rr => cases rr with
      | cons r' rr => cases rr; exact ⟨_, _, rfl, r, r'⟩
  subst hu
  cases ru
  cases rv
  obtain ⟨w1, t1, p1⟩ := inv_k I1 s1'
  obtain ⟨w2, t2, p2⟩ := inv_k I1 s2'
  refine zip_begins2 (begins_k k a w1.toArray) (begins_k l b w2.toArray) p1 p2 fun h2 z1 z2 z3 z4 z5 z6 z7 => wpAny_pyIter_zip z1 ?_
  refine ⟨s1.heap.objs.size + 4, [s1.heap.objs.size + 4, s1.heap.objs.size + 2, s1.heap.objs.size + 3, s1.heap.objs.size, s1.heap.objs.size + 1], _, _, H1, rfl, I1.kept (t' := s1.toks) z7, turn_mz (k := k) (l := l) (PySem.W.ktu_apart s1.heap.objs.size a b p1.lt p2.lt), ⟨z1, z2, ⟨_, _, z3⟩, .new z4, .new z5⟩, fun c hc => ?_, q⟩
  have hle : s1.heap.objs.size ≤ c := by
    rcases five hc with rfl | rfl | rfl | rfl | rfl <;> omega
  exact I1.fpOk hle (I1.hok.fresh hle)
theorem i_zipM (hK : G.K = X.K) (hg : Gl X "zip") (hm : X.mg "zip" = none) (ha : PA X [e, e2] (tA G W ms)) (hs : starEach [e, e2] X.env = (false, eval e X.env) :: starEach [e2] X.env := by rfl) (hpl : (backTo pos (starEach [e2] X.env)).any (·.1) = false := by rfl) :
    PI X (.Tuple elts kk tpos) (.Call (.Name "zip" p) [e, e2] [] pos) (tIt true G W (mZipM ms)) :=
  imp_I (pi_mz hg hm ha hs hpl) fun σ H R0 ⟨O, ad, env, j, q⟩ => by
    refine mono_A (seqA (β := R (List D)) (P := PostI true G W O ad env σ H R0) xsI (fun _ z => z) (Kr.refl O (Fo O env ad) H) j q) fun vs H1 ⟨O2, ad2, env2, vals, h1, h2, k2, k3, j2, w2, q2⟩ => ?_
    obtain ⟨⟨ds, env3⟩, ea, q3⟩ := opt_inv (P := PostI true G W O ad env σ H R0) q2 fun z => z
    obtain ⟨items, ez, q4⟩ := opt_inv (P := PostI true G W O ad env σ H R0) q3 fun z => z
    obtain ⟨j3, _, k4, r3⟩ := asDs_ok h1 j2 w2 ea
    dsimp only at ez q4
    unfold zipM2 at ez
    split at ez
    · rename_i x y
      obtain ⟨u, v, rfl, rx, ry⟩ := ls2 r3
      cases e1 : seqD x with
      | none => rw [e1] at ez; cases ez
      | some a1 =>
        obtain ⟨k, ds1⟩ := a1
        rw [e1] at ez
        cases e2 : seqD y with
        | none => simp only [Option.bind_some, e2] at ez; cases ez
        | some a2 =>
          obtain ⟨l, ds2⟩ := a2
          simp only [Option.bind_some, e2, Option.map_some, Option.some.injEq] at ez
          subst ez
          obtain ⟨a, xs, rfl, f1, f2⟩ := rx.seqK e1
          obtain ⟨b, ys, rfl, g1, g2⟩ := ry.seqK e2
          exact ⟨a, b, xs, ys, k, l, rfl, hK ▸ f1.sq, hK ▸ g1.sq, q4 ad2 _ H1 (k2.trans k4) (j3.less h1) (hK ▸ src_mz f1 f2 g1 g2)⟩
    · cases ez
end
end Nb
namespace Nb
open L2 PySem PySem.Spec PyProof.Rows

/-! ### a, b = [..], [..]: both stay lists of their own -/
def putO (i : Nat) (c : Cl) (env : Ev) : Option Ev := match env[i]? with
  | some s => if isIo s = true then none else some (env.set i (.o c))
  | none => none
theorem putO_inv {i : Nat} {c : Cl} {env e' : Ev} (h : putO i c env = some e') : ∃ s, env[i]? = some s ∧ isIo s = false ∧ e' = env.set i (.o c) := by
  unfold putO at h
  split at h
  · rename_i s e
    split at h
    · cases h
    · rename_i n
      cases h
      exact ⟨s, e, by simpa using n, rfl⟩
  · cases h
def mParO (i j : Nat) (ms : M (List Val)) : S := fun env => (ms env).out fun vals e1 => match vals with
  | [.f a, .f b] => (putO i a e1).elim .bad fun e2 => (putO j b e2).elim .bad .nx
  | _ => .bad
section
variable {X : Cx} {G : Ct} {W : WX} {a b : Expr} {ms : M (List Val)} {pos : Pos}
theorem s_parO {i j : Nat} {x y : Str} {px py pt : Pos} {kt k2 pt2} (hc : X.calm = true) (hN : X.N.Nodup) (hi : X.N[i]? = some x) (hj : X.N[j]? = some y) (hij : i ≠ j)
    (hx : X.env.scope.names.lookup x = some .local) (hy : X.env.scope.names.lookup y = some .local) (ha : PA X [a, b] (tA G W ms))
    (hw : swappedStores [.Tuple [.Name x px, .Name y py] kt pt] (.Tuple [a, b] k2 pt2) X.env = pure (some [x, y]))
    (hs : swapsWithSole [.Tuple [.Name x px, .Name y py] kt pt] (.Tuple [a, b] k2 pt2) pos.line X.env = pure false := by rfl) :
    PS X (.Assign [.Tuple [.Name x px, .Name y py] kt pt] (.Tuple [a, b] k2 pt2) pos) (tS G W (mParO i j ms)) := imp_S (ps_par hc hN hi hj hij hx hy ha hw hs) fun E σ H ⟨O, ad, env, j0, p⟩ => by
  refine mono_A (seqA (β := Out) (P := PostS G W O ad env H E) xsS (fun _ z => z) (Kr.refl O (Fo O env ad) H) j0 p) fun vs H1 ⟨O2, ad2, env2, vals, h1, h2, k2, k3, j2, w2, q2⟩ => ?_
  split at q2
  · rename_i c1 c2
    obtain ⟨e3, q3, q⟩ := opt_inv (P := PostS G W O ad env H E) q2 fun z => z
    obtain ⟨e5, q5, q⟩ := opt_inv (P := PostS G W O ad env H E) q fun z => z
    obtain ⟨s, es, ns, rfl⟩ := putO_inv q3
    obtain ⟨t, et, nt, rfl⟩ := putO_inv q5
    match vs, w2 with
    | [v, w], ⟨⟨p1, ev, o1, n1, x1⟩, ⟨p2, ew, o2, n2, x2⟩, _⟩ =>
      subst ev ew
      have np1 : H p1 = none := (h2 p1 o1).resolve_left n1
      have nO2 : ¬ O p2 := fun z => n2 (.inl z)
      have np2 : H p2 = none := (h2 p2 o2).resolve_left nO2
      have ne : p1 ≠ p2 := fun z => n2 (.inr z.symm)
      have jA : J G (Add (Add O p2) p1) ad2 env2 σ H1 := j2.less fun a z => by
        rcases z with (z | z) | z
        · exact h1 a z
        · rw [z]; exact o2
        · rw [z]; exact o1
      have x1' : ClOk G.K (Fo (Add (Add O p2) p1) env2 ad2) H1 p1 c1 := x1.keep (Kp.weak fun a z => by
        rcases z with ((z | z) | z) | z
        · exact .inl (h1 a z)
        · rw [z]; exact .inl o2
        · rw [z]; exact .inl o1
        · exact .inr z) fun _ h => h
      have j3 := jA.put_o (fun z => z.elim n1 ne) (j0.fresh np1).2 es ns x1'
      have et' : (env2.set i (.o c1))[j]? = some t := et
      have fo1 : ∀ a, Fo (Add O p2) (env2.set i (.o c1)) (fun k => if k = i then p1 else ad2 k) a → Fo O2 env2 ad2 a := fun a z => by
        rcases fo_put (ad' := fun k => if k = i then p1 else ad2 k) (fun k h => if_neg h) a z with z | ⟨_, z⟩
        · rcases z with (z | z) | z
          · exact .inl (h1 a z)
          · rw [z]; exact .inl o2
          · exact .inr z
        · rw [z]; exact .inl (by rw [if_pos rfl]; exact o1)
      have x2' := x2.keep (Kp.weak fo1) fun _ h => h
      have j5 := j3.put_o nO2 (j0.fresh np2).2 et' nt x2'
      refine ⟨_, _, rfl, q _ _ H1 ?_ j5⟩
      refine (k2.add (F1 := fun a => Fo O env2 ad2 a ∨ a = p1) np1 fun a z => z).add np2 fun a z => ?_
      rcases fo_put (ad' := fun k => if k = j then p2 else if k = i then p1 else ad2 k) (ad := fun k => if k = i then p1 else ad2 k) (fun k h => if_neg h) a z with z | ⟨_, z⟩
      · rcases fo_put (ad' := fun k => if k = i then p1 else ad2 k) (fun k h => if_neg h) a z with z | ⟨_, z⟩
        · exact .inl (.inl z)
        · exact .inl (.inr (by rw [z]; exact if_pos rfl))
      · exact .inr (by rw [z]; exact if_pos rfl)
  · exact q2.elim
end
end Nb
namespace Nb
open L2 PySem PySem.Spec PyProof.Rows

/-! ### told pairs: something, and a new list that stays its asker's own -/
inductive Pv where
  | d (d : D) | t (d : D) (c : Cl)
/-- new: since the expression began, or since the def began -/
def Nw (b : Bool) (G : Ct) (H : Hp) (q : Addr) : Prop := match b with
  | true => H q = none
  | false => G.H0 q = none
def PvOk (b : Bool) (G : Ct) (O : Fb) (H : Hp) (ad : Nat → Addr) (env : Ev) (σ : L2.St) (H' : Hp) : Pv → V → Prop
  | .d d, v => J G O ad env σ H' ∧ Rel G.K (Fo O env ad) H' d v
  | .t d c, v => ∃ p u q, v = .ref p ∧ Nw b G H q ∧ ¬ O q ∧ J G (Add O q) ad env σ H' ∧ PairAt G.K H' p u q ∧ Rel G.K (Fo (Add O q) env ad) H' d u ∧ ClOk G.K (Fo (Add O q) env ad) H' q c
def PostP (b : Bool) (G : Ct) (W : WX) (O : Fb) (ad : Nat → Addr) (env : Ev) (σ : L2.St) (H : Hp) (Q : VK) : R Pv → Prop
  | .ok val e' => ∀ ad' v H', Kr O (Fo O env ad) (Fo O e' ad') H H' → PvOk b G O H ad' e' σ H' val v → Q v H'
  | .ex x e' => ∀ ad' cls dx H', Kr O (Fo O env ad) (Fo O e' ad') H H' → J G O ad' e' σ H' → RelX G.K G.mg (Fo O e' ad') H' x cls dx → W cls dx σ H'
  | .bad => False
def tP (b : Bool) (G : Ct) (W : WX) (m : M Pv) : TE := fun σ H Q => ∃ O ad env, J G O ad env σ H ∧ PostP b G W O ad env σ H Q (m env)
theorem xsP {b : Bool} {G : Ct} {W : WX} {O : Fb} {ad : Nat → Addr} {env : Ev} {σ : L2.St} {H : Hp} {Q : VK} : Xs G W O ad env σ H (PostP b G W O ad env σ H Q) .ex .bad := ⟨fun _ _ h => h, fun h => h⟩
theorem seqP {b : Bool} {G : Ct} {W : WX} {O : Fb} {ad : Nat → Addr} {env : Ev} {σ : L2.St} {H : Hp} {mb : M Pv} {mk : Pv → Ev → Out} {E : Ends} (j : J G O ad env σ H) (p : PostS G W O ad env H E ((mb env).out mk)) :
    tP b G W mb σ H fun y H2 => ∃ ad2 env2 val2, Kr O (Fo O env ad) (Fo O env2 ad2) H H2 ∧ PvOk b G O H ad2 env2 σ H2 val2 y ∧ PostS G W O ad env H E (mk val2 env2) := by
  refine ⟨O, ad, env, j, ?_⟩
  cases e : mb env with
  | ok val e' => rw [e] at p; exact fun ad' v H' k w => ⟨ad', e', val, k, w, p⟩
  | ex x e' => rw [e] at p; exact fun ad' cls dx H' k j' r => p ad' cls dx σ H' k j' r
  | bad => rw [e] at p; exact p
theorem mono_P {b : Bool} {G : Ct} {W : WX} {m : M Pv} {σ : L2.St} {H : Hp} {Q Q' : VK} (h : tP b G W m σ H Q) (f : ∀ v H', Q v H' → Q' v H') : tP b G W m σ H Q' := by
  obtain ⟨O, ad, env, j, p⟩ := h
  refine ⟨O, ad, env, j, ?_⟩
  revert p
  cases m env with
  | bad => exact fun z => z
  | ex x e => exact fun z => z
  | ok v1 e1 => exact fun z ad' v H' k w => f v H' (z ad' v H' k w)
/-! a call that gives a pair -/
def fOutP (r : FOut) (env : Ev) (as : List Ag) : R Pv := match r with
  | .ok d os => .ok (.d d) (putBack env as os)
  | .okt d c os => .ok (.t d c) (putBack env as os)
  | .ex x os => .ex x (putBack env as os)
  | _ => .bad
def mFP (den : Fn) (ks : List Bool) (ms : M (List Val)) : M Pv := fun env => (ms env).bind fun vals e1 => (prep e1 ks vals).elim .bad fun p => (cellsOf p.2 p.1).elim .bad fun args => if (slots p.1).Nodup then fOutP (den args) p.2 p.1 else .bad
section
variable {X : Cx} {G : Ct} {W : WX} {CX : CXT} {k n : Nat} {f : Addr} {fd : FuncData} {ps : List Str} {den : Fn} {x : Str} {p pos : Pos} {e : Expr} {es : List Expr} {ms : M (List Val)} {ks : List Bool}
theorem call_spP (hK : G.K = X.K) (hM : G.mg = X.mg) (hn : ∀ args, args.length ≠ ps.length → den args = .bad) {σ : L2.St} {H : Hp} {Q : VK} (h : tP true G W (mFP den ks ms) σ H Q) :
    tA G W ms σ H fun vs H1 => spX G.xa X.K X.mg ps.length den vs H1 Q (WE W σ) := by
  obtain ⟨O, ad, env, j, p⟩ := h
  refine mono_A (seqA (β := R Pv) xsP (fun _ z => z) (Kr.refl O (Fo O env ad) H) j p) fun xs H4 ⟨O5, ad5, env5, vals, h1, h2, k5, k6, j5, w5, q5⟩ => ?_
  obtain ⟨⟨as, env6⟩, e1, q5⟩ := opt_inv (P := PostP true G W O ad env σ H Q) q5 fun z => z
  obtain ⟨args, e2, q5⟩ := opt_inv (P := PostP true G W O ad env σ H Q) q5 fun z => z
  dsimp only at e2 q5
  by_cases nd : (slots as).Nodup
  · rw [if_pos nd] at q5
    obtain ⟨j6, _, k7, pr⟩ := prep_ok h1 j5 w5 e1
    have j7 : J G O ad5 env6 σ H4 := j6.less h1
    obtain ⟨jc, hF, hl2⟩ := callee j7 pr e2 nd
    have bk := fun (os : List Sl) (E : Fb) H' => back (os := os) (E := E) (H' := H') j7 pr e2 nd
    have hlen : xs.length = ps.length := by
      have z := jc.len
      rw [List.length_map] at z
      rw [z]
      by_cases h : args.length = ps.length
      · exact h
      · rw [hn args h] at q5
        exact q5.elim
    have kr := k5.trans k7
    refine ⟨hlen, (CtC G H4 as ad5).M, (CtC G H4 as ad5).P, (CtC G H4 as ad5).I, OutC O env6 ad5 as, adC as ad5, args, ?_⟩
    rw [← hK, ← hM]
    refine ⟨jc, ?_⟩
    cases e3 : den args with
    | bad => rw [e3] at q5; exact q5.elim
    | oko c os => rw [e3] at q5; exact q5.elim
    | ok d os =>
      rw [e3] at q5
      intro v H' j' dom r
      obtain ⟨b1, b2, b3⟩ := bk os (fun _ => False) H' (fun _ z => z.elim) (j'.less fun _ z => z.elim id False.elim) dom
      exact q5 ad5 v H' (kr.trans b2) ⟨b1.less fun _ z => .inl z, r.keep (Kp.weak fun a z => by
        have z' := b3 a (by
          rcases z with z | z
          · exact .inl (.inl z)
          · exact .inr z)
        rcases z' with (z' | z') | z'
        · exact .inl z'
        · exact z'.elim
        · exact .inr z')⟩
    | okt d c os =>
      rw [e3] at q5
      intro p1 v1 q1 H' j' dom np nO y r1 r
      obtain ⟨b1, b2, b3⟩ := bk os (fun a => a = q1) H' (fun a z => by rw [z]; exact np) j' dom
      exact q5 ad5 _ H' (kr.trans b2) ⟨p1, v1, q1, rfl, kr.none np, fun z => j7.outs q1 z np, b1, y, r1.keep (Kp.weak b3), r.keep (Kp.weak b3) fun _ h => h⟩
    | ex x os =>
      rw [e3] at q5
      intro cls dx H' j' dom r
      obtain ⟨b1, b2, b3⟩ := bk os (fun _ => False) H' (fun _ z => z.elim) (j'.less fun _ z => z.elim id False.elim) dom
      exact q5 ad5 cls dx H' (kr.trans b2) (b1.less fun _ z => .inl z) (r.keep (Kp.weak fun a z => by
        have z' := b3 a (by
          rcases z with z | z
          · exact .inl (.inl z)
          · exact .inr z)
        rcases z' with (z' | z') | z'
        · exact .inl z'
        · exact z'.elim
        · exact .inr z'))
  · rw [if_neg nd] at q5
    exact q5.elim
theorem e_callP (F : FnOk X.prog X.w X.K X.mg X.base (L2N.CX X.prog X.w) k f fd ps (spI X.K X.mg ps.length den)) (hr : Room k X.A) (hg : Gl X x) (hm : X.mg x = some (.ref f)) (hk : PySem.W.keepIn X.K (.ref f) = true) (hb : Binds X.K fd ps [])
    (tk : L2N.Takes X W) (hx : G.xa = none) (hK : G.K = X.K) (hM : G.mg = X.mg) (hn : ∀ args, args.length ≠ ps.length → den args = .bad)
    (ha : PA X (e :: es) (tA G W ms)) (hdb : (x == ("__debug__" : Str)) = false := by decide) (he : starEach (e :: es) X.env = (false, eval e X.env) :: starEach es X.env := by rfl) (hpl : (backTo pos (starEach es X.env)).any (·.1) = false := by rfl) :
    PE X (.Call (.Name x p) (e :: es) [] pos) (tP true G W (mFP den ks ms)) := imp_E (pe_callS F hr hg hm hk hb (fun σ => L2N.passAt tk σ) ha hdb he hpl) fun σ H Q h => by
  have z := call_spP (ps := ps) hK hM hn h
  rw [hx] at z
  exact z
end
/-! a pair as it is displayed -/
def ownAt (o : Option Sl) : Option Cl := match o with
  | some (.o c) => some c
  | _ => none
theorem ownAt_inv {o : Option Sl} {c : Cl} (h : ownAt o = some c) : o = some (.o c) := by
  unfold ownAt at h
  split at h
  · cases h; rfl
  · cases h
def pairD (env : Ev) (vals : List Val) : R Pv := (asDs env vals).elim .bad fun p => if p.1.length ≤ line then .ok (.d (.tuple p.1)) p.2 else .bad
def apTP (env : Ev) (vals : List Val) : R Pv := match vals with
  | [a, .f c] => (asD env a).elim .bad fun p => .ok (.t p.1 c) p.2
  | [a, .s i] => (asD env a).elim .bad fun p => (ownAt p.2[i]?).elim (pairD env [a, .s i]) fun c => .ok (.t p.1 c) (p.2.set i .no)
  | vals => pairD env vals
def mTupP (ms : M (List Val)) : M Pv := fun env => (ms env).bind fun vals e1 => apTP e1 vals
section
variable {X : Cx} {G : Ct} {W : WX} {es : List Expr} {ms : M (List Val)} {pos : Pos}
theorem e_tupP {x1} (h : PA X es (tA G W ms)) : PE X (.Tuple es x1 pos) (tP false G W (mTupP ms)) := imp_E (pe_tupF h) fun σ H Q ⟨O, ad, env, j, p⟩ => by
  refine mono_A (seqA (β := R Pv) xsP (fun _ z => z) (Kr.refl O (Fo O env ad) H) j p) fun xs H4 ⟨O5, ad5, env5, vals, h1, h2, k5, k6, j5, w5, q5⟩ => ?_
  have plain : PostP false G W O ad env σ H Q (pairD env5 vals) → xs.length ≤ sizeLine ∧ ToT H4 xs Q := fun q => by
    unfold pairD at q
    obtain ⟨⟨ds, e2⟩, ea, q6⟩ := opt_inv (P := PostP false G W O ad env σ H Q) q fun z => z
    dsimp only at q6
    split at q6
    · rename_i hl
      obtain ⟨j6, _, k7, r⟩ := asDs_ok h1 j5 w5 ea
      refine ⟨by rw [← r.length, line_eq]; exact hl, fun p us np => ?_⟩
      have n := NewOk.tup (us := us) np r
      exact q6 ad5 _ _ ((k5.trans k7).trans (Kr.same n.1)) ⟨(j6.less h1).same n.1, n.2⟩
    · exact q6.elim
  -- a new list q that no one else has
  have two : ∀ {a : Val} {c : Cl} {u : V} {q : Addr} {d : D} {e2 e3 : Ev}, xs = [u, .ref q] → G.H0 q = none → ¬ O q → J G (Add O q) ad5 e3 σ H4 → Kr O (Fo O env ad) (Fo O e3 ad5) H H4 → Rel G.K (Fo (Add O q) e3 ad5) H4 d u → ClOk G.K (Fo (Add O q) e3 ad5) H4 q c → PostP false G W O ad env σ H Q (.ok (.t d c) e3) → xs.length ≤ sizeLine ∧ ToT H4 xs Q := fun {a c u q d e2 e3} ex nq nO j6 k7 r1 r q6 => by
    subst ex
    refine ⟨(by decide : 2 ≤ sizeLine), fun p us np => ?_⟩
    have sm : Same H4 (upd H4 p (.frz (tobj us) (.tup [u, .ref q]))) := same_laid np
    exact q6 ad5 _ _ (k7.trans (Kr.same sm)) ⟨p, u, q, rfl, nq, nO, j6.same sm, ⟨.inl (.inr ⟨_, upd_same⟩), .inl ⟨_, _, upd_same, rfl, rfl⟩⟩, r1.keep (Kp.same sm), r.keep (Kp.same sm) fun o e => sm _ _ e⟩
  replace q5 : PostP false G W O ad env σ H Q (apTP env5 vals) := q5
  unfold apTP at q5
  split at q5
  · rename_i a c
    obtain ⟨⟨d, e2⟩, ea, q6⟩ := opt_inv (P := PostP false G W O ad env σ H Q) q5 fun z => z
    match xs, w5 with
    | [u, w], ⟨wa, ⟨q, ew, o1, n1, x1⟩, _⟩ =>
      subst ew
      have nO : ¬ O q := fun z => n1 (valO_le a u q z)
      have nq : G.H0 q = none := (j.fresh ((h2 q o1).resolve_left nO)).2
      have hB : ∀ b, Add O q b → O5 b := fun b z => by
        rcases z with z | z
        · exact h1 b z
        · rw [z]; exact o1
      have wa' : VB G (Add O q) O5 ad5 env5 σ H4 a u := by
        cases a with
        | d d => exact wa
        | s i => exact wa
        | f c1 =>
          obtain ⟨p1, rfl, z1, z2, z3⟩ := wa
          refine ⟨p1, rfl, z1, fun z => ?_, z3⟩
          rcases z with z | z
          · exact z2 z
          · exact n1 (.inr z.symm)
      obtain ⟨j6, kp6, kr6, r6⟩ := asD_ok j5 hB wa' ea
      have wk : ∀ b, Fo (Add O q) e2 ad5 b → Fo O5 e2 ad5 b := fun b z => by
        rcases z with z | z
        · exact .inl (hB b z)
        · exact .inr z
      have j7 := j6.less hB
      have k7 : Kr O (Fo O env5 ad5) (Fo O e2 ad5) H4 H4 := kr6.less (fun _ z => .inl z) j7
      exact two (a := a) (e2 := e2) rfl nq nO j7 (k5.trans k7) r6 ((x1.keep kp6 fun _ h => h).keep (Kp.weak wk) fun _ h => h) q6
  · rename_i a i
    obtain ⟨⟨d, e2⟩, ea, q6⟩ := opt_inv (P := PostP false G W O ad env σ H Q) q5 fun z => z
    dsimp only at q6
    cases eo : ownAt e2[i]? with
    | none => rw [eo] at q6; exact plain q6
    | some c =>
      rw [eo] at q6
      have ei := ownAt_inv eo
      match xs, w5 with
      | [u, w], ⟨wa, ws, _⟩ =>
        have gi : σ.getD i none = some w := ws
        obtain ⟨j6, kp6, kr6, r6⟩ := asD_ok j5 h1 wa ea
        have j7 : J G O ad5 e2 σ H4 := j6.less h1
        obtain ⟨j8, x8, n8, nO, e8, w8⟩ := j7.release ei
        have ew : w = .ref (ad5 i) := by
          have := gi.symm.trans e8
          exact Option.some.inj this
        subst ew
        have fo8 : ∀ b, Fo (Add O (ad5 i)) (e2.set i .no) ad5 b → Fo O e2 ad5 b := fun b z => by
          rcases z with (z | z) | z
          · exact .inl z
          · rw [z]; exact .inr ⟨i, _, ei, rfl, rfl⟩
          · exact w8 b (.inr z)
        exact two (a := a) (e2 := e2) rfl n8 nO j8 ((k5.trans kr6).trans ⟨⟨Kp.weak w8, fun _ _ _ h => h⟩, fun _ h => h⟩) (r6.keep (Kp.weak fo8)) x8 q6
  · exact plain q5
/-! return of a pair; a pair unpacked -/
def apRetP : Pv → Ev → Out
  | .d d, env => .rt d env
  | .t d c, env => .rtt d c env
def mRetP (me : M Pv) : S := fun env => (me env).out apRetP
def unpP (i k : Nat) (env : Ev) : Pv → Option Ev
  | .d (.tuple [d, e]) => (store i env (.d d)).bind fun e2 => store k e2 (.d e)
  | .t d c => (store i env (.d d)).bind fun e2 => putO k c e2
  | _ => none
def mUnpP (i k : Nat) (me : M Pv) : S := fun env => (me env).out fun a e1 => (unpP i k e1 a).elim .bad .nx
variable {e : Expr} {me : M Pv}
theorem s_retP {b : Bool} (he : PE X e (tP b G W me)) : PS X (.Return (some e) pos) (tS G W (mRetP me)) := imp_S (ps_ret he) fun E σ H ⟨O, ad, env, j, p⟩ => by
  refine mono_P (seqP j p) fun x H1 ⟨ad2, env2, val2, k2, w2, q2⟩ => ?_
  cases val2 with
  | d d => exact q2 ad2 x σ H1 k2 w2.1 w2.2
  | t d c =>
    obtain ⟨p1, u, q, rfl, nq, nO, j1, y, r1, r⟩ := w2
    have n0 : G.H0 q = none := by
      cases b
      · exact nq
      · exact (j.fresh nq).2
    exact q2 ad2 p1 u q σ H1 k2 n0 nO j1 y r1 r
theorem opt_bindI {α β : Type} {o : Option α} {f : α → Option β} {b : β} (h : o.bind f = some b) : ∃ a, o = some a ∧ f a = some b := by
  cases o with
  | none => cases h
  | some a => exact ⟨a, rfl, h⟩
theorem s_unpP {i k : Nat} {x y : Str} {px py pt : Pos} {kt} (hK : G.K = X.K) (hc : X.calm = true) (hN : X.N.Nodup) (hi : X.N[i]? = some x) (hk : X.N[k]? = some y)
    (hx : Loc X.env.scope x) (hy : Loc X.env.scope y) (he : PE X e (tP true G W me))
    (fx : X.fn x = true ∨ X.env.scope.names.lookup x = some .local := by first | exact .inl rfl | exact .inr rfl) (fy : X.fn y = true ∨ X.env.scope.names.lookup y = some .local := by first | exact .inl rfl | exact .inr rfl)
    (a1 : (assignEach [Expr.Name x px, Expr.Name y py] X.env).map (·.2) = assign (.Name x px) X.env :: (assignEach [Expr.Name y py] X.env).map (·.2) := by rfl)
    (a2 : (assignEach [Expr.Name y py] X.env).map (·.2) = assign (.Name y py) X.env :: (assignEach [] X.env).map (·.2) := by rfl)
    (hn : (assignEach [Expr.Name x px, Expr.Name y py] X.env).length = 2 := by rfl) (hst : (assignEach [Expr.Name x px, Expr.Name y py] X.env).findIdx? (·.1) = none := by rfl)
    (hs : swapsWithSole [.Tuple [.Name x px, .Name y py] kt pt] e pos.line X.env = pure false := by rfl) (hw : swappedStores [.Tuple [.Name x px, .Name y py] kt pt] e X.env = pure none := by rfl)
    (h1 : (assignEach [.Tuple [.Name x px, .Name y py] kt pt] X.env).map (·.2) = [assign (.Tuple [.Name x px, .Name y py] kt pt) X.env] := by rfl) :
    PS X (.Assign [.Tuple [.Name x px, .Name y py] kt pt] e pos) (tS G W (mUnpP i k me)) :=
  imp_S (ps_asg he (pg_tup hc (pgs_cons (pg_name hN hi hx fx) (pgs_cons (pg_name hN hk hy fy) pgs_nil a2) a1) hn hst) hs hw h1) fun E σ H ⟨O, ad, env, j, p⟩ => by
    refine mono_P (seqP j p) fun v H1 ⟨ad2, env2, val2, k2, w2, q2⟩ => ?_
    obtain ⟨e5, eu, q5⟩ := opt_inv (P := PostS G W O ad env H E) q2 fun z => z
    cases val2 with
    | d d =>
      obtain ⟨j2, r⟩ := w2
      unfold unpP at eu
      split at eu
      · rename_i _ d1 d2 ed
        cases ed
        obtain ⟨e4, s1, s2⟩ := opt_bindI eu
        obtain ⟨a, xs, rfl, h3, h4⟩ := r.toTup
        obtain ⟨v1, v2, rfl, r1, r2⟩ := ls2 h4
        obtain ⟨ad3, k3, j3⟩ := store_ok (F0 := Fo O env2 ad2) (val := .d d1) (fun p np => (j2.fresh np).2) (Kr.refl _ _ _) ⟨j2, r1⟩ s1
        obtain ⟨ad4, k4, j4⟩ := store_ok (F0 := Fo O e4 ad3) (val := .d d2) (fun p np => (j3.fresh np).2) (Kr.refl _ _ _) ⟨j3, r2.keep k3.kq.kp⟩ s2
        exact ⟨a, [v1, v2], rfl, hK ▸ h3, rfl, v1, [v2], rfl, v2, [], rfl, rfl, q5 ad4 _ H1 ((k2.trans k3).trans k4) j4⟩
      · rename_i z
        cases z
      · cases eu
    | t d c =>
      obtain ⟨p1, u, q, rfl, nq, nO, j2, y, r1, r⟩ := w2
      obtain ⟨e4, s1, s2⟩ := opt_bindI (show (store i env2 (.d d)).bind (fun e2 => putO k c e2) = some e5 from eu)
      obtain ⟨ad3, k3, j3⟩ := store_ok (F0 := Fo (Add O q) env2 ad2) (val := .d d) (fun p np => (j2.fresh np).2) (Kr.refl _ _ _) ⟨j2, r1⟩ s1
      obtain ⟨s, es, ns, rfl⟩ := putO_inv s2
      have x3 : ClOk G.K (Fo (Add O q) e4 ad3) H1 q c := r.keep k3.kq.kp fun _ h => h
      have j5 := j3.put_o nO (j.fresh nq).2 es ns x3
      have k4 : Kr O (Fo O env2 ad2) (Fo O e4 ad3) H1 H1 := k3.less (fun _ z => .inl z) j3
      refine ⟨p1, [u, .ref q], rfl, hK ▸ y.1, rfl, u, [.ref q], rfl, .ref q, [], rfl, rfl, q5 _ _ H1 ?_ j5⟩
      refine (k2.trans k4).add nq fun a z => ?_
      rcases fo_put (ad' := fun l => if l = k then q else ad3 l) (ad := ad3) (fun l h => if_neg h) a z with z | ⟨_, z⟩
      · exact .inl z
      · exact .inr (by rw [z]; exact if_pos rfl)
end
/-! reckoning -/
section
variable {env : Ev} {i k : Nat} {d e : D} {c : Cl} {a : Val} {as : List Ag} {os : List Sl} {me : M Pv} {ms : M (List Val)} {den : Fn} {ks : List Bool} {x : Ex}
theorem fp_ok : fOutP (.ok d os) env as = .ok (.d d) (putBack env as os) := rfl
theorem fp_okt : fOutP (.okt d c os) env as = .ok (.t d c) (putBack env as os) := rfl
theorem fp_ex : fOutP (.ex x os) env as = .ex x (putBack env as os) := rfl
theorem v_mFP : mFP den ks ms env = (ms env).elim (fun vals e1 => (prep e1 ks vals).elim .bad fun p => (cellsOf p.2 p.1).elim .bad fun args => if (slots p.1).Nodup then fOutP (den args) p.2 p.1 else .bad) .ex .bad := rfl
theorem v_tupP : mTupP ms env = (ms env).elim (fun vals e1 => apTP e1 vals) .ex .bad := rfl
theorem tp_f : apTP env [a, .f c] = (asD env a).elim .bad fun p => .ok (.t p.1 c) p.2 := rfl
theorem tp_s : apTP env [a, .s i] = (asD env a).elim .bad fun p => (ownAt p.2[i]?).elim (pairD env [a, .s i]) fun c => .ok (.t p.1 c) (p.2.set i .no) := rfl
theorem tp_d : apTP env [a, .d d] = pairD env [a, .d d] := rfl
theorem v_pairD {vals : List Val} : pairD env vals = (asDs env vals).elim .bad fun p => if p.1.length ≤ line then .ok (.d (.tuple p.1)) p.2 else .bad := rfl
theorem oa_o : ownAt (some (.o c)) = some c := rfl
theorem oa_v : ownAt (some (.v d)) = none := rfl
theorem v_retP : mRetP me env = (me env).elim apRetP .ex .bad := rfl
theorem rp_d : apRetP (.d d) env = .rt d env := rfl
theorem rp_t : apRetP (.t d c) env = .rtt d c env := rfl
theorem v_unpP : mUnpP i k me env = (me env).elim (fun a e1 => (unpP i k e1 a).elim .bad .nx) .ex .bad := rfl
theorem up_d : unpP i k env (.d (.tuple [d, e])) = (gNm i d env).bind fun e2 => gNm k e e2 := rfl
theorem up_t : unpP i k env (.t d c) = (gNm i d env).bind fun e2 => putO k c e2 := rfl
def putOS (o : Option Sl) (i : Nat) (c : Cl) (env : Ev) : Option Ev := match o with
  | some s => if isIo s = true then none else some (env.set i (.o c))
  | none => none
theorem v_putO : putO i c env = putOS env[i]? i c env := rfl
theorem po_n : putOS (some .no) i c env = some (env.set i (.o c)) := rfl
theorem po_v : putOS (some (.v d)) i c env = some (env.set i (.o c)) := rfl
theorem po_o {c' : Cl} : putOS (some (.o c')) i c env = some (env.set i (.o c)) := rfl
def parOS (i j : Nat) (env : Ev) (vals : List Val) : Out := match vals with
  | [.f a, .f b] => (putO i a env).elim .bad fun e2 => (putO j b e2).elim .bad .nx
  | _ => .bad
theorem v_parO {j : Nat} : mParO i j ms env = (ms env).elim (fun vals e1 => parOS i j e1 vals) .ex .bad := rfl
theorem pr_ff {j : Nat} {c1 c2 : Cl} : parOS i j env [.f c1, .f c2] = (putO i c1 env).elim .bad fun e2 => (putO j c2 e2).elim .bad .nx := rfl
end
end Nb
namespace Nb
open L2 PySem PySem.Spec PyProof.Rows

/-! ### a comprehension over a list of one's own, which stays so -/
def lstAt (o : Option Sl) : Option (List D) := match o with
  | some (.o (.lst ds)) => some ds
  | _ => none
theorem lstAt_inv {o : Option Sl} {ds : List D} (h : lstAt o = some ds) : o = some (.o (.lst ds)) := by
  unfold lstAt at h
  split at h
  · cases h; rfl
  · cases h
def isNo (o : Option Sl) : Bool := match o with
  | some .no => true
  | _ => false
theorem isNo_inv {o : Option Sl} (h : isNo o = true) : o = some .no := by
  unfold isNo at h
  split at h
  · rfl
  · cases h
def mLcO (i : Nat) (vs : List Nat) (g : Tg) (tt : M Bool) (me : M Val) : M Val := fun env => (lstAt env[i]?).elim (mLc vs (mItems (mVar i)) g tt me env) fun ds =>
  (lcPair vs g tt me ds (env.set i .no)).elim .bad fun p => if isNo p.2[i]? = true then .ok (.f (.lst p.1)) (p.2.set i (.o (.lst ds))) else .bad
def iOr (a b : TI) : TI := fun σ H R => a σ H R ∨ b σ H R
section
variable {X : Cx} {G : Ct} {W : WX} {elt tg : Expr} {ifs : List Expr} {scope : Scope} {own : List (Str × Nat)} {pos : Pos} {g : Tg} {mt : M Bool} {me : M Val} {vs : List Nat} {i : Nat}
theorem pi_or {e : Expr} {a b : TI} (h1 : PI X tg e a) (h2 : PI X tg e b) : PI X tg e (iOr a b) := ⟨fun pins s σ H R I q => q.elim (h1.run pins s σ H R I) (h2.run pins s σ H R I)⟩
theorem lcO_imp {σ : L2.St} {H : Hp} {Q : VK} (h : tE G W (mLcO i vs g mt me) σ H Q) : tLc (iOr (tIt false G W (mItems (mVar i))) (iList G.K (tVar i))) (tGK false G vs g) (tT G NoX mt) (tE G NoX me) vs σ H Q := by
  obtain ⟨O, ad, env, j, p⟩ := h
  unfold mLcO at p
  cases el : lstAt env[i]? with
  | none =>
    rw [el] at p
    exact .inl (lc_imp ⟨O, ad, env, j, p⟩)
  | some ds =>
    rw [el] at p
    replace p : PostE G W O ad env σ H Q ((lcPair vs g mt me ds (env.set i .no)).elim .bad fun p => if isNo p.2[i]? = true then .ok (.f (.lst p.1)) (p.2.set i (.o (.lst ds))) else .bad) := p
    have ei := lstAt_inv el
    obtain ⟨j1, ⟨xs, e1, r1⟩, n0, nO, e2, w0⟩ := j.release ei
    have hl : i < σ.length := by rw [j.len]; exact (List.getElem?_eq_some_iff.mp ei).1
    have hi : σ[i]? = some (some (.ref (ad i))) := by
      rw [List.getD_eq_getElem?_getD, List.getElem?_eq_getElem hl] at e2
      rw [List.getElem?_eq_getElem hl]
      exact congrArg some e2
    have hset : σ.set i (some (.ref (ad i))) = σ := by
      refine List.ext_getElem? fun k => ?_
      by_cases q : i = k
      · subst q; rw [List.getElem?_set_self hl, hi]
      · rw [List.getElem?_set_ne q]
    obtain ⟨⟨ds2, eR⟩, ep, p1⟩ := opt_inv (P := PostE G W O ad env σ H Q) p fun z => z
    dsimp only at p1
    by_cases hn : isNo eR[i]? = true
    · rw [if_pos hn] at p1
      have en := isNo_inv hn
      have src : Src false G.K (Add O (ad i)) (Fo (Add O (ad i)) (env.set i .no) ad) H (Itl G.K (ad i)) ds := {
        stop := fun F2 H2 k => ⟨xs, .inl (.inl (k.kq.out _ _ (.inr rfl) e1)), Nat.le_of_eq r1.length.symm⟩
        go := fun F2 H2 n d k e => by
          obtain ⟨v, ev, _⟩ := r1.get e
          exact ⟨xs, v, .inl (.inl (k.kq.out _ _ (.inr rfl) e1)), ev⟩
        yld := fun F2 H2 n d x H3 k e y => by
          obtain ⟨v, ev, rv⟩ := r1.get e
          obtain ⟨eH, q⟩ := y
          have q := q xs (.inl (.inl (k.kq.out _ _ (.inr rfl) e1)))
          rw [ev] at q
          cases q
          subst eH
          exact ⟨Same.refl _, .of (rv.keep k.kq.kp)⟩ }
      refine .inr ⟨_, hi, ad i, rfl, ⟨xs, .inl (.inl e1)⟩, lc_body (W := W) (wk := false) j1 (Kr.refl _ _ _) j1 src ?_⟩
      rw [ep]
      intro ad' v H' k' w'
      obtain ⟨p', rfl, np, nO', j', x'⟩ := w'
      have e1' : H' (ad i) = some (.lst xs) := k'.kq.out _ _ (.inr rfl) e1
      have ne : ad i ≠ p' := fun z => by rw [← z, e1] at np; cases np
      have j2 : J G (Add (Add O p') (ad i)) ad' eR σ H' := j'.less fun a z => by
        rcases z with (z | z) | z
        · exact .inl (.inl z)
        · exact .inr z
        · exact .inl (.inr z)
      have x2 : ClOk G.K (Fo (Add (Add O p') (ad i)) eR ad') H' (ad i) (.lst ds) := ⟨xs, e1', r1.keep ⟨k'.kq.kp.tup, k'.kq.kp.frz, fun a o e n => by
        obtain ⟨a1, a2⟩ := k'.kq.kp.obj a o e n
        refine ⟨a1, fun z => ?_⟩
        rcases z with ((z | z) | z) | z
        · exact a2 (.inl (.inl z))
        · rw [z] at e; rw [e] at np; cases np
        · exact a2 (.inl (.inr z))
        · exact a2 (.inr z)⟩⟩
      have j3 := j2.put_o (i := i) (fun z => z.elim nO ne) n0 en rfl x2
      rw [hset] at j3
      have had : ∀ k, k ≠ i → (fun k => if k = i then ad i else ad' k) k = ad' k := fun k h => if_neg h
      have f1 : ∀ a, Fo (Add O (ad i)) (env.set i .no) ad a → Fo O env ad a := fun a z => by
        rcases z with (z | z) | z
        · exact .inl z
        · rw [z]; exact .inr ⟨i, _, ei, rfl, rfl⟩
        · exact w0 a (.inr z)
      have f2 : ∀ {O2 : Fb} a, Fo O2 (eR.set i (.o (.lst ds))) (fun k => if k = i then ad i else ad' k) a → Fo O2 eR ad' a ∨ a = ad i := fun {O2} a z => by
        rcases fo_put (O := O2) had a z with z | ⟨_, z⟩
        · exact .inl z
        · exact .inr (by rw [z]; exact if_pos rfl)
      refine p1 (fun k => if k = i then ad i else ad' k) _ H' ⟨⟨⟨k'.kq.kp.tup, k'.kq.kp.frz, fun a o e n => ?_⟩, fun a o oa e => k'.kq.out a o (.inl oa) e⟩, k'.dom⟩ ⟨p', rfl, np, fun z => nO' (.inl z), j3, x'.keep (Kp.weak fun a z => ?_) fun _ h => h⟩
      · obtain ⟨a1, a2⟩ := k'.kq.kp.obj a o e fun z => n (f1 a z)
        refine ⟨a1, fun z => ?_⟩
        rcases f2 a z with z | z
        · rcases z with z | z
          · exact a2 (.inl (.inl z))
          · exact a2 (.inr z)
        · exact a2 (.inl (.inr z))
      · rcases f2 a z with z | z
        · rcases z with (z | z) | z
          · exact .inl (.inl (.inl z))
          · exact .inl (.inr z)
          · exact .inr z
        · exact .inl (.inl (.inr z))
    · rw [if_neg hn] at p1
      exact p1.elim
theorem e_lcO {x : Str} {p : Pos} (hK : G.K = X.K) (hc : X.calm = true) (hN : X.N.Nodup) (hx : X.N[i]? = some x) (ok : blkC X.N X.env.scope scope own = true)
    (hg : ∀ (s : Shared) (H : Hp) (C : Addr) (cl : List (Str × Addr)) (fp : List Addr), PG (X.blk s H scope (compEnvC scope cl C X.env) fp) tg (tGK false G (own.map (·.2)) g)) (ht : ∀ (s : Shared) (H : Hp) (C : Addr) (cl : List (Str × Addr)) (fp : List Addr), PTs (X.blk s H scope (compEnvC scope cl C X.env) fp) ifs (tT G NoX mt))
    (he : ∀ (s : Shared) (H : Hp) (C : Addr) (cl : List (Str × Addr)) (fp : List Addr), PE (X.blk s H scope (compEnvC scope cl C X.env) fp) elt (tE G NoX me)) (hv : Vis X.env.scope x := by first | exact Or.inl rfl | exact Or.inr (Or.inl rfl) | exact Or.inr (Or.inr rfl)) (hd : (x == ("__debug__" : Str)) = false := by decide) (hcd : (x == ("__classdict__" : Str)) = false := by decide) (hs : ∀ y, foldedSetIterable (.Name x p) X.env y = pure y := by intro _; rfl) :
    PE X (.ListComp elt [⟨tg, .Name x p, ifs, 0⟩] scope pos) (tE G W (mLcO i (own.map (·.2)) g mt me)) :=
  imp_E (pe_lc (wi := iOr (tIt false G W (mItems (mVar i))) (iList X.K (tVar i))) hc hN (pi_or (i_val hK (e_var i hx hv hd hcd)) (pi_list (pe_var hx hv hd hcd))) (blkOk_by ok) hg ht he hs) fun σ H Q h => by
    have z := lcO_imp h
    rw [hK] at z
    exact z
end
/-! reckoning -/
section
variable {env : Ev} {i : Nat} {g : Tg} {tt : M Bool} {me : M Val} {vs : List Nat} {ds : List D} {d : D}
theorem v_mLcO : mLcO i vs g tt me env = (lstAt env[i]?).elim (mLc vs (mItems (mVar i)) g tt me env) fun ds => (wipeE vs (env.set i .no)).elim .bad fun ew => (compD vs g tt me ds ew []).elim .bad fun p => (restE vs (env.set i .no) p.2).elim .bad fun e3 => if isNo e3[i]? = true then .ok (.f (.lst p.1)) (e3.set i (.o (.lst ds))) else .bad := by
  unfold mLcO
  cases lstAt env[i]? with
  | none => rfl
  | some ds =>
    dsimp only [Option.elim]
    unfold lcPair
    cases wipeE vs (env.set i .no) with
    | none => rfl
    | some ew =>
      simp only [Option.bind_some]
      cases compD vs g tt me ds ew [] with
      | none => rfl
      | some p => simp only [Option.bind_some]; cases restE vs (env.set i .no) p.2 <;> rfl
theorem la_o : lstAt (some (.o (.lst ds))) = some ds := rfl
theorem la_v : lstAt (some (.v d)) = none := rfl
theorem nn_n : isNo (some .no) = true := rfl
end
end Nb
namespace Nb
open L2 PySem PySem.Spec PyProof.Rows

/-! ### a dict is no number -/
theorem int_ne_dict (b : Int) (u : Tok) (l : Addr) (o : Obj) :
    Meets (Builtin.«int.__ne__» ⟨[.int b u, .ref l], []⟩) (fun _ R s => s.heap.get? l = some o ∧ o.cls = .type "dict" ∧ (∃ es ep, o.data = .dict es ep) ∧ R (.ok (.ret .notImplemented)) s) :=
  .of_wp fun prog w A R s h => by
    obtain ⟨hp, g, d, tk, os⟩ := s
    obtain ⟨hl, hc, ⟨es, ep, hd⟩, h⟩ := h
    obtain ⟨c, dd, dt, sl⟩ := o
    simp only at hc hd
    subst hc hd
    wp_walk using SeqAt.AutoSeq1.wpAny_loadPart' hl, wpAny_load hl
    exact ⟨_, rfl, h⟩
theorem dict_ne_int {prog : Program} {w : World} {A : Around} {E : Value → Shared → Prop} {s : Shared} {a : Addr} (b : Int) (u : Tok) {Q : Value → Shared → Prop} (da : s.TypeIs (.ref a) "dict") (hq : Q .notImplemented s) :
    wpAny (model prog w) A (call (.builtin "dict.__ne__") [.ref a, .int b u]) Q E s := by
  refine wpAny_call_entry PySem.F.slot_dict_ne da PySem.F.entry_dict_ne ?_ (PySem.F.args_dict_ne_2 _ _)
  show wpAny _ _ (Builtin.Dict.dictSlotArgs "__ne__" ⟨[.ref a, .int b u], []⟩ >>= _) _ _ s
  refine wpAny_bind ?_
  unfold Builtin.Dict.dictSlotArgs
  refine wpAny_bind (wpAny_notOrdered_dict da ?_)
  show wpAny _ _ (pure (Value.ref a, Value.int b u)) _ _ s
  refine wpAny_pure ?_
  refine wpAny_bind (wpAny_isInstance (T := "int") (b := false) (typeIs_int s b u) PySem.F.sub_int_dict ?_)
  simp only [Bool.not_false, if_true]
  exact wpAny_bind (wpAny_rule (wpAny_pure ⟨_, rfl, hq⟩))
/-- != of a dict and a number -/
def rNeD (neg : Bool) : R2 := fun x y H Q => ∃ a ks i, x = .ref a ∧ H a = some (.dK ks) ∧ y = .int i ∧ Q (.bl true) H
theorem op_neD {X : Cx} (hu : X.A.units + 64 < cLine) : OpR X (compareOp .NotEq) (rNeD true) := by
  intro pins s σ H x y v u Q I rx ry h
  obtain ⟨a, ks, i, rfl, ha, rfl, q⟩ := h
  cases rx
  obtain ⟨t, rfl⟩ := ry
  have ok := I.hok a _ ha
  obtain ⟨_, _, vs, _, o, es, ep, e1, e2, e3, _⟩ := ok
  have da : s.TypeIs (.ref a) "dict" := ⟨o, e1, e2.1⟩
  have q' : EP X pins σ Q (.bool true) s := ⟨.bl _, H, I, rfl, q⟩
  refine PySem.SeqAt.rc_ne_decline_or (k := false) da (typeIs_int s i t) (by decide) PySem.F.sub_int_dict PySem.F.slot_dict_ne PySem.F.slot_int_ne_refl (fun _ hq => dict_ne_int i t da hq)
    (fun _ hq => call_meets PySem.F.slot_int_ne_refl (typeIs_int s i t) PySem.F.entry_int_ne (PySem.F.args_int_ne_2 _ _) (int_ne_dict i t a o) ⟨e1, e2.1, ⟨es, ep, e3⟩, hq⟩)
    (fun _ hq => wpAny_of_eq (rfl : isSame (.ref a) (.int i t) = pure false) hq) (.inr (Nat.lt_of_le_of_lt (Nat.le_add_right _ _) hu)) q'
def rNeA (K : PySem.W.Frag) : R2 := fun x y H Q => rEqP K true x y H Q ∨ rNeD true x y H Q
theorem op_neA {X : Cx} (hu : X.A.units + 64 < cLine) : OpR X (compareOp .NotEq) (rNeA X.K) := (op_neP hu).or (op_neD hu)
def gNeA : D → D → Option Val
  | .dict _, .int _ => some (.d (.bool true))
  | d, e => gNe d e
theorem g_neA {K : PySem.W.Frag} : Op2 K gNeA (rNeA K) := by
  intro F H x y d e res Q hF rx ry hg q
  unfold gNeA at hg
  split at hg
  · rename_i kvs i
    cases hg
    obtain ⟨a, ks, ds, vs, rfl, _, ha, _⟩ := RelB.toDct rx
    exact .inr ⟨a, _, i, rfl, ha, ry.toInt, q _ _ (NewOk.dat (.bl _))⟩
  · exact .inl (g_ne F H x y _ _ res Q hF rx ry hg q)
end Nb
namespace Nb
open L2 PySem PySem.Spec PyProof.Rows

/-! ### the list of a told pair -/
def ixP1 (env : Ev) : Pv → R Val
  | .t _ c => .ok (.f c) env
  | .d (.tuple [_, e]) => .ok (.d e) env
  | _ => .bad
def mIx1P (me : M Pv) : M Val := fun env => (me env).elim (fun a e1 => ixP1 e1 a) .ex .bad
theorem e_ixP1 {X : Cx} {G : Ct} {W : WX} {e : Expr} {me : M Pv} {kj} {p2 pos : Pos} (hK : G.K = X.K) (he : PE X e (tP true G W me)) : PE X (.Subscript e (.Constant (.int 1) kj p2) pos) (tE G W (mIx1P me)) :=
  imp_E (pe_ix ix_tup he pe_int (fun _ _ => rfl)) fun σ H Q ⟨O, ad, env, j, p⟩ => by
    refine ⟨O, ad, env, j, ?_⟩
    unfold mIx1P at p
    revert p
    cases me env with
    | bad => exact fun p => p
    | ex x e1 => exact fun p => p
    | ok a e1 =>
      intro p ad' v H' k w
      replace p : PostE G W O ad env σ H Q (ixP1 e1 a) := p
      cases a with
      | t d c =>
        obtain ⟨p1, u, q, rfl, nq, nO, j1, y, r1, r⟩ := w
        exact ⟨p1, [u, .ref q], 1, .ref q, rfl, rfl, hK ▸ y.1, rfl, p ad' _ H' k ⟨q, rfl, nq, nO, j1, r⟩⟩
      | d d =>
        obtain ⟨j1, r⟩ := w
        unfold ixP1 at p
        split at p
        · rename_i z
          cases z
        · rename_i d1 d2 z
          cases z
          obtain ⟨a, xs, rfl, h3, h4⟩ := r.toTup
          obtain ⟨v1, v2, rfl, r1, r2⟩ := ls2 h4
          exact ⟨a, [v1, v2], 1, v2, rfl, rfl, hK ▸ h3, rfl, p ad' _ H' k ⟨j1, r2⟩⟩
        · exact p.elim
/-! reckoning -/
section
variable {env : Ev} {d e : D} {c : Cl} {me : M Pv}
theorem v_ix1P : mIx1P me env = (me env).elim (fun a e1 => ixP1 e1 a) .ex .bad := rfl
theorem i1_t : ixP1 env (.t d c) = .ok (.f c) env := rfl
theorem i1_d : ixP1 env (.d (.tuple [d, e])) = .ok (.d e) env := rfl
end
end Nb
namespace Nb
open L2 PySem PySem.Spec PyProof.Rows

/-! ### range(i, j, -1) -/
def dnD (i j : Int) : List D := (List.range (i - j).toNat).map fun k : Nat => PyData.int (i + (k : Nat) * (-1))
def rng3Of : List D → Option (List D)
  | [.int i, .int j, .int c] => if c = -1 ∧ okB i = true ∧ okB j = true then some (dnD i j) else none
  | _ => none
section
variable {K : PySem.W.Frag} {O F F2 : Fb} {H H2 : Hp}
theorem src_dn {wk : Bool} {lo hi : Int} : Src wk K O F H (Itc lo (-1) (lo - hi).toNat) (dnD lo hi) where
  stop := fun F2 H2 k => by
    show (lo - hi).toNat ≤ (dnD lo hi).length
    simp [dnD]
  go := fun F2 H2 i d k e => by
    have h := (List.getElem?_eq_some_iff.mp e).1
    show i < (lo - hi).toNat
    simpa [dnD] using h
  yld := fun F2 H2 i d x H3 k e y => by
    obtain ⟨e1, e2⟩ := y
    subst e1 e2
    have hl : i < (lo - hi).toNat := by simpa [dnD] using (List.getElem?_eq_some_iff.mp e).1
    have e' : d = PyData.int (lo + (i : Nat) * (-1)) := by
      unfold dnD at e
      rw [List.getElem?_map, List.getElem?_range hl] at e
      exact (Option.some.inj e).symm
    subst e'
    exact ⟨Same.refl _, .of (.int _)⟩
end
section
variable {X : Cx} {G : Ct} {W : WX} {tg e e2 e3 : Expr} {ms : M (List Val)} {p pos : Pos}
theorem i_rng3 (hg : Gl X "range") (hm : X.mg "range" = none) (ha : PA X [e, e2, e3] (tA G W ms)) (hs : starEach [e, e2, e3] X.env = (false, eval e X.env) :: starEach [e2, e3] X.env := by rfl) (hpl : (backTo pos (starEach [e2, e3] X.env)).any (·.1) = false := by rfl) :
    PI X tg (.Call (.Name "range" p) [e, e2, e3] [] pos) (tIt false G W (mSrc rng3Of ms)) :=
  imp_I (pi_range3 hg hm ha hs hpl) fun σ H R0 ⟨O, ad, env, j, q⟩ => by
    refine mono_A (seqA (β := R (List D)) (P := PostI false G W O ad env σ H R0) xsI (fun _ z => z) (Kr.refl O (Fo O env ad) H) j q) fun vs H1 ⟨O2, ad2, env2, vals, h1, h2, k2, k3, j2, w2, q2⟩ => ?_
    obtain ⟨ds, items, e1, ei, q3⟩ := mSrc_inv (P := PostI false G W O ad env σ H R0) q2 fun z => z
    have rb := w2.views j2 e1
    unfold rng3Of at ei
    split at ei
    · split at ei
      · rename_i i i' c hi
        cases ei
        cases rb with
        | cons r rr =>
          cases rr with
          | cons r' rr =>
            cases rr with
            | cons r'' rr =>
              cases rr
              rw [r.toInt, r'.toInt, r''.toInt]
              obtain ⟨rfl, hb, hb'⟩ := hi
              have b := okB_of hb
              have b' := okB_of hb'
              exact ⟨i, i', -1, _, rfl, RgC.neg b.1 b.2 b'.1 b'.2, q3 ad2 _ H1 k2 (j2.less h1) src_dn⟩
      · cases ei
    · cases ei
end
/-! reckoning -/
theorem rg3 {i j : Int} (g1 : -(2 ^ 62) ≤ i) (g2 : i < 2 ^ 62) (h1 : -(2 ^ 62) ≤ j) (h2 : j < 2 ^ 62) : rng3Of [.int i, .int j, .int (-1)] = some (dnD i j) := by
  show (if _ then _ else _) = _
  rw [if_pos ⟨rfl, by unfold okB; simp; omega, by unfold okB; simp; omega⟩]
end Nb
namespace Nb
open L2 PySem PySem.Spec PyProof.Rows

/-! ### len(set(t)) of a tuple of ints -/
def rLenSet (w : World) : List V → Hp → VK → Prop := fun vs H Q => ∃ (a : Addr) (S : Int → Bool) (n : Nat), vs = [.ref a] ∧ H a = some (SetO w a S n) ∧ ∀ ms : List Int, ms.Nodup → (∀ k, k ∈ ms ↔ S k = true) → Q (.int (ms.length : Nat)) H
theorem cr_lenSet {X : Cx} : CallR X (.builtin "len") (rLenSet X.w) := by
  intro pins s σ H vs us Q I r h
  obtain ⟨a, S, n, rfl, ha, q⟩ := h
  obtain ⟨o, es, ep, t, ho, hex, hd, hg, hnd, hm, hb, hf, hn, _⟩ := setO_get I ha
  rw [Vals.ref1 r]
  have hq := q (es.toList.map L2.keyOf) hnd fun k => (hm k).symm
  rw [List.length_map, Array.length_toList] at hq
  exact call_len_set ho hex hd hf (by unfold scanBound at hb; omega) ⟨.int es.size, H, I.tok _, ⟨_, rfl⟩, hq⟩
def gLenSet : List D → Option Val
  | [.tuple ds] => (intsOf ds).bind fun ns => if ns.length ≤ 1000 then some (.d (.int ((sortU ns).length : Nat))) else none
  | _ => none
theorem g_lenSet {K : PySem.W.Frag} {w : World} : OpA K gLenSet (fun vs H Q => rSetT K w vs H fun x H1 => rLenSet w [x] H1 Q) := fun F H vs ds res Q hF r hg q => by
  unfold gLenSet at hg
  split at hg
  · rename_i es
    cases e : intsOf es with
    | none => rw [e] at hg; cases hg
    | some ns =>
      rw [e] at hg
      simp only [Option.bind_some] at hg
      split at hg
      · rename_i hl
        cases hg
        obtain ⟨v, rfl, r1⟩ := r.one
        obtain ⟨a, rfl, h⟩ := intsT_at r1 e
        refine ⟨a, ns, rfl, h, hl, fun p c np hc => ⟨p, _, c, rfl, upd_same, fun ms hnd hm => ?_⟩⟩
        have el : ms.length = (sortU ns).length := ((List.perm_ext_iff_of_nodup hnd ((sortU_sorted ns).imp fun h => Int.ne_of_lt h)).mpr fun k => by rw [hm k, sortU_mem]; simp).length_eq
        rw [el]
        exact q _ _ ⟨fun b o hb => by rw [upd_ne (ne_of_none hb np)]; exact hb, .int _⟩
      · cases hg
  · cases hg
section
variable {X : Cx} {G : Ct} {W : WX} {e : Expr} {ms : M (List Val)} {p p2 pos pos2 : Pos}
theorem e_lenset (hK : G.K = X.K) (hc : X.calm = true) (hg : Gl X "len") (hm : X.mg "len" = none) (hg2 : Gl X "set") (hm2 : X.mg "set" = none) (ha : PA X [e] (tA G W ms))
    (hs : starEach [e] X.env = (false, eval e X.env) :: starEach [] X.env := by rfl) (hpl : (backTo pos2 (starEach [] X.env)).any (·.1) = false := by rfl)
    (hs2 : starEach [.Call (.Name "set" p2) [e] [] pos2] X.env = (false, eval (.Call (.Name "set" p2) [e] [] pos2) X.env) :: starEach [] X.env := by rfl) (hpl2 : (backTo pos (starEach [] X.env)).any (·.1) = false := by rfl) :
    PE X (.Call (.Name "len" p) [.Call (.Name "set" p2) [e] [] pos2] [] pos) (tE G W (mA gLenSet ms)) :=
  imp_E (pe_callB cr_lenSet hg hm (by decide +kernel) (pa_cons (pe_callTy (cr_setT hc) hg2 hm2 (by decide +kernel) ha (he := hs) (hpl := hpl)) pa_nil hs2) (he := hs2) (hpl := hpl2)) fun σ H Q h => by
    have z := many (r := fun vs H Q => rSetT X.K X.w vs H fun x H1 => rLenSet X.w [x] H1 Q) (hK ▸ g_lenSet) h
    exact z
end
/-! reckoning -/
theorem o_lenset {ns : List Int} (h : ns.length ≤ 1000) : gLenSet [.tuple (ns.map PyData.int)] = some (.d (.int ((sortU ns).length : Nat))) := by
  unfold gLenSet
  simp only [intsOf_map, Option.bind_some]
  rw [if_pos h]
theorem sortU_len {ns : List Int} : (sortU ns).length = ns.length ↔ ns.Nodup := by
  have hu : (sortU ns).Nodup := (sortU_sorted ns).imp fun h => Int.ne_of_lt h
  have key : ∀ ns : List Int, (sortU ns).length = ns.length → ns.Nodup := fun ns => by
    induction ns with
    | nil => exact fun _ => List.nodup_nil
    | cons n ns ih =>
      intro h
      have hu1 : (sortU (n :: ns)).Nodup := (sortU_sorted _).imp fun h => Int.ne_of_lt h
      have hu2 : (sortU ns).Nodup := (sortU_sorted _).imp fun h => Int.ne_of_lt h
      have l2 : (sortU ns).length ≤ ns.length := hu2.length_le_of_subset fun k hk => sortU_mem.mp hk
      have l1 : (sortU (n :: ns)).length ≤ (n :: sortU ns).length := hu1.length_le_of_subset fun k hk => by
        rcases List.mem_cons.mp (sortU_mem.mp hk) with rfl | z
        · exact List.mem_cons_self ..
        · exact List.mem_cons_of_mem _ (sortU_mem.mpr z)
      rw [List.length_cons] at h l1
      have hn : n ∉ ns := fun hn => by
        have e : sortU (n :: ns) = sortU ns := sorted_unique (sortU_sorted _) (sortU_sorted _) fun k => by
          rw [sortU_mem, sortU_mem, List.mem_cons]
          exact ⟨fun z => z.elim (fun e => e ▸ hn) id, .inr⟩
        rw [e] at h
        omega
      exact List.nodup_cons.mpr ⟨hn, ih (by omega)⟩
  constructor
  · exact key ns
  · intro h
    exact ((List.perm_ext_iff_of_nodup hu h).mpr fun k => sortU_mem).length_eq
end Nb
namespace Nb
open L2 PySem PySem.Spec PyProof.Rows

/-! ### a, b = [..], [..] where a name is captured: the pair is built and taken apart -/
section
variable {X : Cx} {G : Ct} {W : WX} {a b : Expr} {ms : M (List Val)} {pos : Pos}
theorem s_parC {i j : Nat} {x y : Str} {px py pt : Pos} {kt k2 pt2} (hK : G.K = X.K) (hc : X.calm = true) (hN : X.N.Nodup) (hi : X.N[i]? = some x) (hj : X.N[j]? = some y)
    (hx : Loc X.env.scope x) (hy : Loc X.env.scope y) (ha : PA X [a, b] (tA G W ms))
    (fx : X.fn x = true ∨ X.env.scope.names.lookup x = some .local := by first | exact .inl rfl | exact .inr rfl) (fy : X.fn y = true ∨ X.env.scope.names.lookup y = some .local := by first | exact .inl rfl | exact .inr rfl)
    (a1 : (assignEach [Expr.Name x px, Expr.Name y py] X.env).map (·.2) = assign (.Name x px) X.env :: (assignEach [Expr.Name y py] X.env).map (·.2) := by rfl)
    (a2 : (assignEach [Expr.Name y py] X.env).map (·.2) = assign (.Name y py) X.env :: (assignEach [] X.env).map (·.2) := by rfl)
    (hn : (assignEach [Expr.Name x px, Expr.Name y py] X.env).length = 2 := by rfl) (hst : (assignEach [Expr.Name x px, Expr.Name y py] X.env).findIdx? (·.1) = none := by rfl)
    (hs : swapsWithSole [.Tuple [.Name x px, .Name y py] kt pt] (.Tuple [a, b] k2 pt2) pos.line X.env = pure false := by rfl) (hw : swappedStores [.Tuple [.Name x px, .Name y py] kt pt] (.Tuple [a, b] k2 pt2) X.env = pure none := by rfl)
    (h1 : (assignEach [.Tuple [.Name x px, .Name y py] kt pt] X.env).map (·.2) = [assign (.Tuple [.Name x px, .Name y py] kt pt) X.env] := by rfl) :
    PS X (.Assign [.Tuple [.Name x px, .Name y py] kt pt] (.Tuple [a, b] k2 pt2) pos) (tS G W (mParO i j ms)) :=
  imp_S (ps_asg (pe_tupF ha) (pg_tup hc (pgs_cons (pg_name hN hi hx fx) (pgs_cons (pg_name hN hj hy fy) pgs_nil a2) a1) hn hst) hs hw h1) fun E σ H ⟨O, ad, env, j0, p⟩ => by
    refine mono_A (seqA (β := Out) (P := PostS G W O ad env H E) xsS (fun _ z => z) (Kr.refl O (Fo O env ad) H) j0 p) fun vs H1 ⟨O2, ad2, env2, vals, h1, h2, k2, k3, j2, w2, q2⟩ => ?_
    split at q2
    · rename_i c1 c2
      obtain ⟨e3, q3, q⟩ := opt_inv (P := PostS G W O ad env H E) q2 fun z => z
      obtain ⟨e5, q5, q⟩ := opt_inv (P := PostS G W O ad env H E) q fun z => z
      obtain ⟨s, es, ns, rfl⟩ := putO_inv q3
      obtain ⟨t, et, nt, rfl⟩ := putO_inv q5
      match vs, w2 with
      | [v, w], ⟨⟨p1, ev, o1, n1, x1⟩, ⟨p2, ew, o2, n2, x2⟩, _⟩ =>
        subst ev ew
        refine ⟨(by decide : 2 ≤ sizeLine), fun pp us npp => ?_⟩
        have sm : Same H1 (upd H1 pp (.frz (tobj us) (.tup [.ref p1, .ref p2]))) := same_laid npp
        have np1 : H p1 = none := (h2 p1 o1).resolve_left n1
        have nO2 : ¬ O p2 := fun z => n2 (.inl z)
        have np2 : H p2 = none := (h2 p2 o2).resolve_left nO2
        have ne : p1 ≠ p2 := fun z => n2 (.inr z.symm)
        have jA : J G (Add (Add O p2) p1) ad2 env2 σ H1 := j2.less fun a z => by
          rcases z with (z | z) | z
          · exact h1 a z
          · rw [z]; exact o2
          · rw [z]; exact o1
        have x1' : ClOk G.K (Fo (Add (Add O p2) p1) env2 ad2) H1 p1 c1 := x1.keep (Kp.weak fun a z => by
          rcases z with ((z | z) | z) | z
          · exact .inl (h1 a z)
          · rw [z]; exact .inl o2
          · rw [z]; exact .inl o1
          · exact .inr z) fun _ h => h
        have j3 := jA.put_o (fun z => z.elim n1 ne) (j0.fresh np1).2 es ns x1'
        have et' : (env2.set i (.o c1))[j]? = some t := et
        have fo1 : ∀ a, Fo (Add O p2) (env2.set i (.o c1)) (fun k => if k = i then p1 else ad2 k) a → Fo O2 env2 ad2 a := fun a z => by
          rcases fo_put (ad' := fun k => if k = i then p1 else ad2 k) (fun k h => if_neg h) a z with z | ⟨_, z⟩
          · rcases z with (z | z) | z
            · exact .inl (h1 a z)
            · rw [z]; exact .inl o2
            · exact .inr z
          · rw [z]; exact .inl (by rw [if_pos rfl]; exact o1)
        have x2' := x2.keep (Kp.weak fo1) fun _ h => h
        have j5 := j3.put_o nO2 (j0.fresh np2).2 et' nt x2'
        refine ⟨pp, [.ref p1, .ref p2], rfl, hK ▸ (.inl (.inr ⟨_, upd_same⟩)), rfl, .ref p1, [.ref p2], rfl, .ref p2, [], rfl, rfl, q _ _ _ ?_ (j5.same sm)⟩
        refine Kr.trans ?_ (Kr.same sm)
        refine (k2.add (F1 := fun a => Fo O env2 ad2 a ∨ a = p1) np1 fun a z => z).add np2 fun a z => ?_
        rcases fo_put (ad' := fun k => if k = j then p2 else if k = i then p1 else ad2 k) (ad := fun k => if k = i then p1 else ad2 k) (fun k h => if_neg h) a z with z | ⟨_, z⟩
        · rcases fo_put (ad' := fun k => if k = i then p1 else ad2 k) (fun k h => if_neg h) a z with z | ⟨_, z⟩
          · exact .inl (.inl z)
          · exact .inl (.inr (by rw [z]; exact if_pos rfl))
        · exact .inr (by rw [z]; exact if_pos rfl)
    · exact q2.elim
end
end Nb
namespace Nb
open L2 PySem PySem.Spec PyProof.Rows

/-! ### a, b, c = [..], [..], [..]: built and taken apart -/
def mParO3 (i j l : Nat) (ms : M (List Val)) : S := fun env => (ms env).out fun vals e1 => match vals with
  | [.f a, .f b, .f c] => (putO i a e1).elim .bad fun e2 => (putO j b e2).elim .bad fun e3 => (putO l c e3).elim .bad .nx
  | _ => .bad
section
variable {X : Cx} {G : Ct} {W : WX} {a b c : Expr} {ms : M (List Val)} {pos : Pos}
theorem s_parC3 {i j l : Nat} {x y z : Str} {px py pz pt : Pos} {kt k2 pt2} (hK : G.K = X.K) (hc : X.calm = true) (hN : X.N.Nodup) (hi : X.N[i]? = some x) (hj : X.N[j]? = some y) (hl : X.N[l]? = some z)
    (hx : Loc X.env.scope x) (hy : Loc X.env.scope y) (hz : Loc X.env.scope z) (ha : PA X [a, b, c] (tA G W ms))
    (fx : X.fn x = true ∨ X.env.scope.names.lookup x = some .local := by first | exact .inl rfl | exact .inr rfl) (fy : X.fn y = true ∨ X.env.scope.names.lookup y = some .local := by first | exact .inl rfl | exact .inr rfl) (fz : X.fn z = true ∨ X.env.scope.names.lookup z = some .local := by first | exact .inl rfl | exact .inr rfl)
    (a1 : (assignEach [Expr.Name x px, Expr.Name y py, Expr.Name z pz] X.env).map (·.2) = assign (.Name x px) X.env :: (assignEach [Expr.Name y py, Expr.Name z pz] X.env).map (·.2) := by rfl)
    (a2 : (assignEach [Expr.Name y py, Expr.Name z pz] X.env).map (·.2) = assign (.Name y py) X.env :: (assignEach [Expr.Name z pz] X.env).map (·.2) := by rfl)
    (a3 : (assignEach [Expr.Name z pz] X.env).map (·.2) = assign (.Name z pz) X.env :: (assignEach [] X.env).map (·.2) := by rfl)
    (hn : (assignEach [Expr.Name x px, Expr.Name y py, Expr.Name z pz] X.env).length = 3 := by rfl) (hst : (assignEach [Expr.Name x px, Expr.Name y py, Expr.Name z pz] X.env).findIdx? (·.1) = none := by rfl)
    (hs : swapsWithSole [.Tuple [.Name x px, .Name y py, .Name z pz] kt pt] (.Tuple [a, b, c] k2 pt2) pos.line X.env = pure false := by rfl) (hw : swappedStores [.Tuple [.Name x px, .Name y py, .Name z pz] kt pt] (.Tuple [a, b, c] k2 pt2) X.env = pure none := by rfl)
    (h1 : (assignEach [.Tuple [.Name x px, .Name y py, .Name z pz] kt pt] X.env).map (·.2) = [assign (.Tuple [.Name x px, .Name y py, .Name z pz] kt pt) X.env] := by rfl) :
    PS X (.Assign [.Tuple [.Name x px, .Name y py, .Name z pz] kt pt] (.Tuple [a, b, c] k2 pt2) pos) (tS G W (mParO3 i j l ms)) :=
  imp_S (ps_asg (pe_tupF ha) (pg_tup hc (pgs_cons (pg_name hN hi hx fx) (pgs_cons (pg_name hN hj hy fy) (pgs_cons (pg_name hN hl hz fz) pgs_nil a3) a2) a1) hn hst) hs hw h1) fun E σ H ⟨O, ad, env, j0, p⟩ => by
    refine mono_A (seqA (β := Out) (P := PostS G W O ad env H E) xsS (fun _ z => z) (Kr.refl O (Fo O env ad) H) j0 p) fun vs H1 ⟨O2, ad2, env2, vals, h1, h2, k2, k3, j2, w2, q2⟩ => ?_
    split at q2
    · rename_i c1 c2 c3
      obtain ⟨e3, q3, q⟩ := opt_inv (P := PostS G W O ad env H E) q2 fun z => z
      obtain ⟨e5, q5, q⟩ := opt_inv (P := PostS G W O ad env H E) q fun z => z
      obtain ⟨e7, q7, q⟩ := opt_inv (P := PostS G W O ad env H E) q fun z => z
      obtain ⟨s, es, ns, rfl⟩ := putO_inv q3
      obtain ⟨t, et, nt, rfl⟩ := putO_inv q5
      obtain ⟨t3, et3, nt3, rfl⟩ := putO_inv q7
      match vs, w2 with
      | [v, w, w'], ⟨⟨p1, ev, o1, n1, x1⟩, ⟨p2, ew, o2, n2, x2⟩, ⟨p3, ew', o3, n3, x3⟩, _⟩ =>
        subst ev ew ew'
        refine ⟨(by decide : 3 ≤ sizeLine), fun pp us npp => ?_⟩
        have sm : Same H1 (upd H1 pp (.frz (tobj us) (.tup [.ref p1, .ref p2, .ref p3]))) := same_laid npp
        have np1 : H p1 = none := (h2 p1 o1).resolve_left n1
        have nO2 : ¬ O p2 := fun z => n2 (.inl z)
        have np2 : H p2 = none := (h2 p2 o2).resolve_left nO2
        have nO3 : ¬ O p3 := fun z => n3 (.inl (.inl z))
        have np3 : H p3 = none := (h2 p3 o3).resolve_left nO3
        have ne : p1 ≠ p2 := fun z => n2 (.inr z.symm)
        have ne13 : p1 ≠ p3 := fun z => n3 (.inl (.inr z.symm))
        have ne23 : p2 ≠ p3 := fun z => n3 (.inr z.symm)
        have hall : ∀ a, (Add (Add (Add O p3) p2) p1) a → O2 a := fun a z => by
          rcases z with ((z | z) | z) | z
          · exact h1 a z
          · rw [z]; exact o3
          · rw [z]; exact o2
          · rw [z]; exact o1
        have jA : J G (Add (Add (Add O p3) p2) p1) ad2 env2 σ H1 := j2.less hall
        have x1' : ClOk G.K (Fo (Add (Add (Add O p3) p2) p1) env2 ad2) H1 p1 c1 := x1.keep (Kp.weak fun a z => by
          rcases z with z | z
          · exact .inl (hall a z)
          · exact .inr z) fun _ h => h
        have j3 := jA.put_o (fun z => z.elim (fun z => z.elim n1 ne13) ne) (j0.fresh np1).2 es ns x1'
        have et' : (env2.set i (.o c1))[j]? = some t := et
        have fo1 : ∀ a, Fo (Add (Add O p3) p2) (env2.set i (.o c1)) (fun k => if k = i then p1 else ad2 k) a → Fo O2 env2 ad2 a := fun a z => by
          rcases fo_put (ad' := fun k => if k = i then p1 else ad2 k) (fun k h => if_neg h) a z with z | ⟨_, z⟩
          · rcases z with z | z
            · exact .inl (hall a (.inl z))
            · exact .inr z
          · rw [z]; exact .inl (by rw [if_pos rfl]; exact o1)
        have x2' := x2.keep (Kp.weak fo1) fun _ h => h
        have j5 := j3.put_o (fun z => z.elim nO2 ne23) (j0.fresh np2).2 et' nt x2'
        have et3' : ((env2.set i (.o c1)).set j (.o c2))[l]? = some t3 := et3
        have fo2 : ∀ a, Fo (Add O p3) ((env2.set i (.o c1)).set j (.o c2)) (fun k => if k = j then p2 else if k = i then p1 else ad2 k) a → Fo O2 env2 ad2 a := fun a z => by
          rcases fo_put (ad' := fun k => if k = j then p2 else if k = i then p1 else ad2 k) (ad := fun k => if k = i then p1 else ad2 k) (fun k h => if_neg h) a z with z | ⟨_, z⟩
          · refine fo1 a ?_
            rcases z with z | z
            · exact .inl (.inl z)
            · exact .inr z
          · rw [z]; exact .inl (by rw [if_pos rfl]; exact o2)
        have x3' := x3.keep (Kp.weak fo2) fun _ h => h
        have j7 := j5.put_o nO3 (j0.fresh np3).2 et3' nt3 x3'
        refine ⟨pp, [.ref p1, .ref p2, .ref p3], rfl, hK ▸ (.inl (.inr ⟨_, upd_same⟩)), rfl, .ref p1, [.ref p2, .ref p3], rfl, .ref p2, [.ref p3], rfl, .ref p3, [], rfl, rfl, q _ _ _ ?_ (j7.same sm)⟩
        refine Kr.trans ?_ (Kr.same sm)
        refine ((k2.add (F1 := fun a => Fo O env2 ad2 a ∨ a = p1) np1 fun a z => z).add (F1 := fun a => (Fo O env2 ad2 a ∨ a = p1) ∨ a = p2) np2 fun a z => z).add np3 fun a z => ?_
        rcases fo_put (ad' := fun k => if k = l then p3 else if k = j then p2 else if k = i then p1 else ad2 k) (ad := fun k => if k = j then p2 else if k = i then p1 else ad2 k) (fun k h => if_neg h) a z with z | ⟨_, z⟩
        · rcases fo_put (ad' := fun k => if k = j then p2 else if k = i then p1 else ad2 k) (ad := fun k => if k = i then p1 else ad2 k) (fun k h => if_neg h) a z with z | ⟨_, z⟩
          · rcases fo_put (ad' := fun k => if k = i then p1 else ad2 k) (fun k h => if_neg h) a z with z | ⟨_, z⟩
            · exact .inl (.inl (.inl z))
            · exact .inl (.inl (.inr (by rw [z]; exact if_pos rfl)))
          · exact .inl (.inr (by rw [z]; exact if_pos rfl))
        · exact .inr (by rw [z]; exact if_pos rfl)
    · exact q2.elim
theorem s_parO3 {i j l : Nat} {x y z : Str} {px py pz pt : Pos} {kt k2 pt2} (hc : X.calm = true) (hN : X.N.Nodup) (hi : X.N[i]? = some x) (hj : X.N[j]? = some y) (hl : X.N[l]? = some z) (hij : i ≠ j) (hil : i ≠ l) (hjl : j ≠ l)
    (hx : X.env.scope.names.lookup x = some .local) (hy : X.env.scope.names.lookup y = some .local) (hz : X.env.scope.names.lookup z = some .local) (ha : PA X [a, b, c] (tA G W ms))
    (hw : swappedStores [.Tuple [.Name x px, .Name y py, .Name z pz] kt pt] (.Tuple [a, b, c] k2 pt2) X.env = pure (some [x, y, z]))
    (hs : swapsWithSole [.Tuple [.Name x px, .Name y py, .Name z pz] kt pt] (.Tuple [a, b, c] k2 pt2) pos.line X.env = pure false := by rfl) :
    PS X (.Assign [.Tuple [.Name x px, .Name y py, .Name z pz] kt pt] (.Tuple [a, b, c] k2 pt2) pos) (tS G W (mParO3 i j l ms)) := imp_S (ps_par3 hc hN hi hj hl hij hil hjl hx hy hz ha hw hs) fun E σ H ⟨O, ad, env, j0, p⟩ => by
    refine mono_A (seqA (β := Out) (P := PostS G W O ad env H E) xsS (fun _ z => z) (Kr.refl O (Fo O env ad) H) j0 p) fun vs H1 ⟨O2, ad2, env2, vals, h1, h2, k2, k3, j2, w2, q2⟩ => ?_
    split at q2
    · rename_i c1 c2 c3
      obtain ⟨e3, q3, q⟩ := opt_inv (P := PostS G W O ad env H E) q2 fun z => z
      obtain ⟨e5, q5, q⟩ := opt_inv (P := PostS G W O ad env H E) q fun z => z
      obtain ⟨e7, q7, q⟩ := opt_inv (P := PostS G W O ad env H E) q fun z => z
      obtain ⟨s, es, ns, rfl⟩ := putO_inv q3
      obtain ⟨t, et, nt, rfl⟩ := putO_inv q5
      obtain ⟨t3, et3, nt3, rfl⟩ := putO_inv q7
      match vs, w2 with
      | [v, w, w'], ⟨⟨p1, ev, o1, n1, x1⟩, ⟨p2, ew, o2, n2, x2⟩, ⟨p3, ew', o3, n3, x3⟩, _⟩ =>
        subst ev ew ew'
        have np1 : H p1 = none := (h2 p1 o1).resolve_left n1
        have nO2 : ¬ O p2 := fun z => n2 (.inl z)
        have np2 : H p2 = none := (h2 p2 o2).resolve_left nO2
        have nO3 : ¬ O p3 := fun z => n3 (.inl (.inl z))
        have np3 : H p3 = none := (h2 p3 o3).resolve_left nO3
        have ne : p1 ≠ p2 := fun z => n2 (.inr z.symm)
        have ne13 : p1 ≠ p3 := fun z => n3 (.inl (.inr z.symm))
        have ne23 : p2 ≠ p3 := fun z => n3 (.inr z.symm)
        have hall : ∀ a, (Add (Add (Add O p3) p2) p1) a → O2 a := fun a z => by
          rcases z with ((z | z) | z) | z
          · exact h1 a z
          · rw [z]; exact o3
          · rw [z]; exact o2
          · rw [z]; exact o1
        have jA : J G (Add (Add (Add O p3) p2) p1) ad2 env2 σ H1 := j2.less hall
        have x1' : ClOk G.K (Fo (Add (Add (Add O p3) p2) p1) env2 ad2) H1 p1 c1 := x1.keep (Kp.weak fun a z => by
          rcases z with z | z
          · exact .inl (hall a z)
          · exact .inr z) fun _ h => h
        have j3 := jA.put_o (fun z => z.elim (fun z => z.elim n1 ne13) ne) (j0.fresh np1).2 es ns x1'
        have et' : (env2.set i (.o c1))[j]? = some t := et
        have fo1 : ∀ a, Fo (Add (Add O p3) p2) (env2.set i (.o c1)) (fun k => if k = i then p1 else ad2 k) a → Fo O2 env2 ad2 a := fun a z => by
          rcases fo_put (ad' := fun k => if k = i then p1 else ad2 k) (fun k h => if_neg h) a z with z | ⟨_, z⟩
          · rcases z with z | z
            · exact .inl (hall a (.inl z))
            · exact .inr z
          · rw [z]; exact .inl (by rw [if_pos rfl]; exact o1)
        have x2' := x2.keep (Kp.weak fo1) fun _ h => h
        have j5 := j3.put_o (fun z => z.elim nO2 ne23) (j0.fresh np2).2 et' nt x2'
        have et3' : ((env2.set i (.o c1)).set j (.o c2))[l]? = some t3 := et3
        have fo2 : ∀ a, Fo (Add O p3) ((env2.set i (.o c1)).set j (.o c2)) (fun k => if k = j then p2 else if k = i then p1 else ad2 k) a → Fo O2 env2 ad2 a := fun a z => by
          rcases fo_put (ad' := fun k => if k = j then p2 else if k = i then p1 else ad2 k) (ad := fun k => if k = i then p1 else ad2 k) (fun k h => if_neg h) a z with z | ⟨_, z⟩
          · refine fo1 a ?_
            rcases z with z | z
            · exact .inl (.inl z)
            · exact .inr z
          · rw [z]; exact .inl (by rw [if_pos rfl]; exact o2)
        have x3' := x3.keep (Kp.weak fo2) fun _ h => h
        have j7 := j5.put_o nO3 (j0.fresh np3).2 et3' nt3 x3'
        refine ⟨_, _, _, rfl, q _ _ H1 ?_ j7⟩
        refine ((k2.add (F1 := fun a => Fo O env2 ad2 a ∨ a = p1) np1 fun a z => z).add (F1 := fun a => (Fo O env2 ad2 a ∨ a = p1) ∨ a = p2) np2 fun a z => z).add np3 fun a z => ?_
        rcases fo_put (ad' := fun k => if k = l then p3 else if k = j then p2 else if k = i then p1 else ad2 k) (ad := fun k => if k = j then p2 else if k = i then p1 else ad2 k) (fun k h => if_neg h) a z with z | ⟨_, z⟩
        · rcases fo_put (ad' := fun k => if k = j then p2 else if k = i then p1 else ad2 k) (ad := fun k => if k = i then p1 else ad2 k) (fun k h => if_neg h) a z with z | ⟨_, z⟩
          · rcases fo_put (ad' := fun k => if k = i then p1 else ad2 k) (fun k h => if_neg h) a z with z | ⟨_, z⟩
            · exact .inl (.inl (.inl z))
            · exact .inl (.inl (.inr (by rw [z]; exact if_pos rfl)))
          · exact .inl (.inr (by rw [z]; exact if_pos rfl))
        · exact .inr (by rw [z]; exact if_pos rfl)
    · exact q2.elim
end
/-! reckoning -/
theorem v_parO3 {i j l : Nat} {env : Ev} {ms : M (List Val)} : mParO3 i j l ms env = (ms env).elim (fun vals e1 => match vals with
  | [.f a, .f b, .f c] => (putO i a e1).elim .bad fun e2 => (putO j b e2).elim .bad fun e3 => (putO l c e3).elim .bad .nx
  | _ => .bad) .ex .bad := rfl
end Nb
namespace Nb
open L2 PySem PySem.Spec PyProof.Rows

/-! ### == and != of lists with the same things, small dicts among them -/
/-- data without dicts, or a dict of one text and one number -/
def okE (d : D) : Bool := match d with
  | .dict [(.str _, .int _)] => true
  | d => d.plain && decide (d.depth ≤ 60)
section
variable {K : PySem.W.Frag} {F F' : Fb} {H : Hp} {v : V}
theorem Rel.toOne {x : Str} {i : Int} (h : Rel K F H (.dict [(.str x, .int i)]) v) : ∃ a, v = .ref a ∧ H a = some (.dK [(.inr x, .int i)]) := by
  obtain ⟨a, ks, ds, vs, e1, e2, e3, l, r⟩ := RelB.toDct (.inl h)
  have hl := RelL.length r
  match ks, ds, vs, r with
  | [], _, _, _ => cases e2
  | _ :: _, [], _, _ => cases e2
  | k :: ks, d :: ds, v :: vs, .cons r1 r2 =>
    rw [List.map_cons, List.zip_cons_cons] at e2
    injection e2 with e4 e5
    injection e4 with e6 e7
    subst e7
    match ks, vs with
    | [], [] =>
      match k with
      | .inl _ => cases e6
      | .inr y =>
        injection e6 with e6
        subst e6
        cases Rel.toInt r1
        exact ⟨a, e1, e3⟩
    | _ :: _, [] => cases l
    | [], _ :: _ => cases l
    | k2 :: ks, v2 :: vs =>
      match ds, r2, e5 with
      | _ :: _, _, e5 => cases e5
end
section
variable {X : Cx} {pins : List (Addr × Obj)} {σ : L2.St} {H : Hp} {s : Shared} {F F' : Fb} {A : Around}
theorem elt_eq (I : Inv X pins σ H s) (hu : A.units + 62 < cLine) {d : D} (h : okE d = true) {v v' : V} {u u' : Value} (r : Rel X.K F H d v) (r' : Rel X.K F' H d v') (q : RelV v u) (q' : RelV v' u') : SeqAt.EqP X.prog X.w A s u u' true := by
  have pl : ∀ d : D, d.plain = true → d.depth ≤ 60 → Rel X.K F H d v → Rel X.K F' H d v' → SeqAt.EqP X.prog X.w A s u u' true := fun d p z r r' => by
    obtain ⟨as, r1⟩ := Dp.reads I d v u (r.dp p) q
    obtain ⟨bs, r2⟩ := Dp.reads I d v' u' (r'.dp p) q'
    have := SeqAt.eqAt_plain d d A s u u' as bs r1 r2 p p (Nat.lt_of_le_of_lt (Nat.add_le_add_left (Nat.min_le_left _ _) _) (by omega))
    rw [SeqAt.eqv_refl_plain d p] at this
    exact this.eqP
  by_cases hd : ∃ x i, d = .dict [(.str x, .int i)]
  · obtain ⟨x, i, rfl⟩ := hd
    obtain ⟨a, rfl, ha⟩ := r.toOne
    obtain ⟨b, rfl, hb⟩ := r'.toOne
    cases q
    cases q'
    by_cases hab : a = b
    · subst hab
      exact (SeqAt.EqAt.same _).eqP
    · obtain ⟨_, sa, vs, kv, da⟩ := dk_of I.hok ha
      obtain ⟨_, sb, ws, kw, db⟩ := dk_of I.hok hb
      match vs, ws, kv, kw with
      | (k, y) :: _, (k2, y2) :: _, .cons ⟨e1, e2⟩ .nil, .cons ⟨f1, f2⟩ .nil =>
        cases e1
        cases f1
        obtain ⟨t, rfl⟩ := e2
        obtain ⟨t2, rfl⟩ := f2
        refine SeqAt.eqP_refs hab fun E Q hq => PySem.W.rcP_dicts (r := true) sa sb da db (by omega) (fun _ => ?_) E Q hq
        have := SeqAt.EqAt.int_int (A := A.in1) (s := s) i t i t2
        rw [show (i == i) = true by simp] at this
        exact .hit (e := true) (b := true) (by simp [valueAt]) this.eqP .nil
  · have h' : (d.plain && decide (d.depth ≤ 60)) = true := by
      unfold okE at h
      split at h
      · rename_i x i
        exact absurd ⟨x, i, rfl⟩ hd
      · exact h
    simp only [Bool.and_eq_true, decide_eq_true_eq] at h'
    exact pl d h'.1 h'.2 r r'
theorem all_eq (I : Inv X pins σ H s) (hu : A.units + 62 < cLine) : ∀ {ds : List D} {xs ys : List V} {us ws : List Value}, (∀ d ∈ ds, okE d = true) → RelL X.K F H ds xs → RelL X.K F' H ds ys → Vals xs us → Vals ys ws → us.length = ws.length ∧ ∀ j (h1 : j < us.length) (h2 : j < ws.length), SeqAt.EqP X.prog X.w A s us[j] ws[j] true
  | [], _, _, _, _, _, .nil, .nil, .nil, .nil => ⟨rfl, fun j h1 => absurd h1 (Nat.not_lt_zero _)⟩
  | d :: ds, _, _, _, _, h, .cons a b, .cons a' b', .cons e f, .cons e' f' => by
    obtain ⟨l, z⟩ := all_eq I hu (fun d hd => h d (List.mem_cons_of_mem _ hd)) b b' f f'
    refine ⟨by rw [List.length_cons, List.length_cons, l], fun j h1 h2 => ?_⟩
    cases j with
    | zero => exact elt_eq I hu (h d (List.mem_cons_self ..)) a a' e e'
    | succ j => exact z j (Nat.lt_of_succ_lt_succ h1) (Nat.lt_of_succ_lt_succ h2)
end
end Nb
namespace PySem.SeqAt
open AutoSeq1 (wpAny_loadPart')
open MeetsSeq MeetsSeq2 MeetsSeq3 SeqRoads2
section
variable {prog : Program} {w : World}
theorem nb_ne_loop (l b : Addr) (items items2 : Array Value) (n n2 : Nat) (dd dd2 : Option Addr) (sl sl2 : Array (Option Value)) (hsz : items.size = items2.size) (k : Nat) :
    ∀ i : Nat, items.size - i = k → MeetsIn prog w (Builtin.«list.__eq__.loop» ⟨[.ref l, .ref b, rawInt i, rawInt 3], []⟩)
      (fun A R s => s.heap.get? l = some { cls := .type "list", dict := dd, data := .seq items n, slots := sl } ∧ s.heap.get? b = some { cls := .type "list", dict := dd2, data := .seq items2 n2, slots := sl2 } ∧
        (∀ j (h1 : j < items.size) (h2 : j < items2.size), EqP prog w A.in1 s items[j] items2[j] true) ∧ R (.ok (.ret (.bool false))) s) := by
  induction k with
  | zero =>
    intro i hk A R s h
    obtain ⟨hp, g, d, tk, os⟩ := s; obtain ⟨hl, hb, he, h⟩ := h
    wp_walk using wpAny_loadPart' hl, wpAny_loadPart' hb
    have hi1 : items[((i : Nat) : Int).toNat]? = none := by simp; omega
    have hi2 : items2[((i : Nat) : Int).toNat]? = none := by simp; omega
    rw [hi1, hi2]
    wp_walk using wpAny_loadPart' hl, wpAny_loadPart' hb
    show R (.ok (.ret (.bool (items.size != items2.size)))) _
    rw [hsz]
    simpa using h
  | succ k ih =>
    intro i hk A R s h
    obtain ⟨hp, g, d, tk, os⟩ := s; obtain ⟨hl, hb, he, h⟩ := h
    wp_walk using wpAny_loadPart' hl, wpAny_loadPart' hb
    have hlt : i < items.size := by omega
    have hlt2 : i < items2.size := by omega
    have hi1 : items[((i : Nat) : Int).toNat]? = some items[i] := by simp [hlt]
    have hi2 : items2[((i : Nat) : Int).toNat]? = some items2[i] := by simp [hlt2]
    have hc : ((i : Int) + 1) = ((i + 1 : Nat) : Int) := by push_cast; rfl
    rw [hi1, hi2]
    refine wpAny_bind (he i hlt hlt2 _ _ ?_)
    wp_walk
    rw [hc]
    exact ⟨plainId_quiet plain_eq_loop _, codeAny_builtin entry_eq_loop (by
      rw [Around.under_plainId plain_eq_loop _]
      exact ih (i + 1) (by omega) A R _ ⟨hl, hb, he, h⟩)⟩
theorem nb_list_ne (l b : Addr) (items items2 : Array Value) (n n2 : Nat) (dd dd2 : Option Addr) (sl sl2 : Array (Option Value)) (hsz : items.size = items2.size) :
    MeetsIn prog w (Builtin.«list.__ne__» ⟨[.ref l, .ref b], []⟩)
      (fun A R s => s.heap.get? l = some { cls := .type "list", dict := dd, data := .seq items n, slots := sl } ∧ s.heap.get? b = some { cls := .type "list", dict := dd2, data := .seq items2 n2, slots := sl2 } ∧
        (∀ j (h1 : j < items.size) (h2 : j < items2.size), EqP prog w A.in1 s items[j] items2[j] true) ∧ R (.ok (.ret (.bool false))) s) := by
  intro A R s h
  obtain ⟨hp, g, d, tk, os⟩ := s; obtain ⟨hl, hb, he, h⟩ := h
  have f3 := AutoSeq1.sub_list_list
  have hne : ¬ (items.size != items2.size) = true := by simp [hsz]
  wp_walk using wpAny_loadPart' hl, wpAny_loadPart' hb
  exact ⟨plainId_quiet plain_eq_loop _, codeAny_builtin entry_eq_loop (by
    rw [Around.under_plainId plain_eq_loop _]
    exact nb_ne_loop l b items items2 n n2 dd dd2 sl sl2 hsz _ 0 rfl A R _ ⟨hl, hb, he, h⟩)⟩
theorem nb_rcNe {A : Around} {s : Shared} {l b : Addr} {items items2 : Array Value} (hl : s.heap.IsList l items) (hb : s.heap.IsList b items2) (hsz : items.size = items2.size) (hu : A.units < cLine)
    (he : ∀ j (h1 : j < items.size) (h2 : j < items2.size), EqP prog w A.in1 s items[j] items2[j] true) (E Q : Value → Shared → Prop) (h : Q (.bool false) s) : wpAny (model prog w) A (richCompare .NotEq (.ref l) (.ref b)) Q E s := by
  obtain ⟨⟨cls, dd, data, sl⟩, ho, hc, n, hd⟩ := id hl
  obtain ⟨⟨cls2, dd2, data2, sl2⟩, ho2, hc2, n2, hd2⟩ := id hb
  simp only at hc hd hc2 hd2
  subst hc hd hc2 hd2
  have ta : s.TypeIs (.ref l) "list" := ⟨_, ho, rfl⟩
  have tb : s.TypeIs (.ref b) "list" := ⟨_, ho2, rfl⟩
  exact wpAny_richCompare_same_room (op := .NotEq) ta tb F.slot_list_ne (call_meetsIn F.slot_list_ne ta F.entry_list_ne (F.args_list_ne_2 _ _) (nb_list_ne l b items items2 n n2 dd dd2 sl sl2 hsz)
    ⟨ho, ho2, he, show Value.bool false ≠ Value.notImplemented ∧ Q (.bool false) s from ⟨(fun x => nomatch x), h⟩⟩) hu
end
end PySem.SeqAt
namespace Nb
open L2 PySem PySem.Spec PyProof.Rows
def rEqS (K : PySem.W.Frag) (neg : Bool) : R2 := fun x y H Q => ∃ (F F' : Fb) (a b : Addr) (xs ys : List V) (ds : List D), x = .ref a ∧ y = .ref b ∧ SqL K H a xs ∧ SqL K H b ys ∧ RelL K F H ds xs ∧ RelL K F' H ds ys ∧ (∀ d ∈ ds, okE d = true) ∧ Q (.bl (!neg)) H
theorem op_eqS {X : Cx} (hu : X.A.units + 64 < cLine) : OpR X (compareOp .Eq) (rEqS X.K false) := by
  intro pins s σ H x y v u Q I rx ry h
  obtain ⟨F, F', a, b, xs, ys, ds, rfl, rfl, ha, hb, r1, r2, ok, q⟩ := h
  cases rx
  cases ry
  obtain ⟨i1, v1, ⟨o, n, ho, hc, _, hd⟩, _⟩ := I.list ha
  obtain ⟨i2, v2, ⟨o2, n2, ho2, hc2, _, hd2⟩, _⟩ := I.list hb
  obtain ⟨l, z⟩ := all_eq (A := X.A.in1) I (by show X.A.units + 1 + 62 < cLine; omega) ok r1 r2 v1 v2
  refine SeqAt.rcP_lists (e := fun _ => true) ⟨o, ho, hc, n, hd⟩ ⟨o2, ho2, hc2, n2, hd2⟩ (by simpa using l) (by omega) (fun j h1 h2 => by simpa using z j (by simpa using h1) (by simpa using h2)) _ _ ?_
  rw [show ((List.range i1.toArray.size).all fun _ => true) = true by simp]
  exact ⟨.bl _, H, I, rfl, q⟩
theorem op_neS {X : Cx} (hu : X.A.units + 64 < cLine) : OpR X (compareOp .NotEq) (rEqS X.K true) := by
  intro pins s σ H x y v u Q I rx ry h
  obtain ⟨F, F', a, b, xs, ys, ds, rfl, rfl, ha, hb, r1, r2, ok, q⟩ := h
  cases rx
  cases ry
  obtain ⟨i1, v1, ⟨o, n, ho, hc, _, hd⟩, _⟩ := I.list ha
  obtain ⟨i2, v2, ⟨o2, n2, ho2, hc2, _, hd2⟩, _⟩ := I.list hb
  obtain ⟨l, z⟩ := all_eq (A := X.A.in1) I (by show X.A.units + 1 + 62 < cLine; omega) ok r1 r2 v1 v2
  refine SeqAt.nb_rcNe ⟨o, ho, hc, n, hd⟩ ⟨o2, ho2, hc2, n2, hd2⟩ (by simpa using l) (by omega) (fun j h1 h2 => by simpa using z j (by simpa using h1) (by simpa using h2)) _ _ ?_
  exact ⟨.bl _, H, I, rfl, q⟩
open Classical in
noncomputable def gEqS : D → D → Option Val := fun d e => if ∃ ds, d = .list ds ∧ e = .list ds ∧ ∀ x ∈ ds, okE x = true then some (.d (.bool true)) else gEq d e
open Classical in
noncomputable def gNeS : D → D → Option Val := fun d e => if ∃ ds, d = .list ds ∧ e = .list ds ∧ ∀ x ∈ ds, okE x = true then some (.d (.bool false)) else gNe d e
theorem op_eqSA {X : Cx} (hu : X.A.units + 64 < cLine) : OpR X (compareOp .Eq) (fun x y H Q => rEqS X.K false x y H Q ∨ rEqP X.K false x y H Q) := (op_eqS hu).or (op_eqP hu)
theorem op_neSA {X : Cx} (hu : X.A.units + 64 < cLine) : OpR X (compareOp .NotEq) (fun x y H Q => rEqS X.K true x y H Q ∨ rEqP X.K true x y H Q) := (op_neS hu).or (op_neP hu)
theorem g_eqS {K : PySem.W.Frag} : Op2 K gEqS (fun x y H Q => rEqS K false x y H Q ∨ rEqP K false x y H Q) := by
  intro F H x y d e res Q hF rx ry hg q
  unfold gEqS at hg
  split at hg
  · rename_i hc
    obtain ⟨ds, rfl, rfl, ok⟩ := hc
    cases hg
    obtain ⟨a, xs, rfl, s1, r1⟩ := rx.toLst
    obtain ⟨b, ys, rfl, s2, r2⟩ := ry.toLst
    exact .inl ⟨F, F, a, b, xs, ys, ds, rfl, rfl, s1, s2, r1, r2, ok, q _ _ (NewOk.dat (.bl _))⟩
  · exact .inr (g_eq F H x y _ _ res Q hF rx ry hg q)
theorem g_neS {K : PySem.W.Frag} : Op2 K gNeS (fun x y H Q => rEqS K true x y H Q ∨ rEqP K true x y H Q) := by
  intro F H x y d e res Q hF rx ry hg q
  unfold gNeS at hg
  split at hg
  · rename_i hc
    obtain ⟨ds, rfl, rfl, ok⟩ := hc
    cases hg
    obtain ⟨a, xs, rfl, s1, r1⟩ := rx.toLst
    obtain ⟨b, ys, rfl, s2, r2⟩ := ry.toLst
    exact .inl ⟨F, F, a, b, xs, ys, ds, rfl, rfl, s1, s2, r1, r2, ok, q _ _ (NewOk.dat (.bl _))⟩
  · exact .inr (g_ne F H x y _ _ res Q hF rx ry hg q)
/-! reckoning -/
theorem o_eqS {ds : List D} (h : ∀ x ∈ ds, okE x = true) : gEqS (.list ds) (.list ds) = some (.d (.bool true)) := if_pos ⟨ds, rfl, rfl, h⟩
theorem o_neS {ds : List D} (h : ∀ x ∈ ds, okE x = true) : gNeS (.list ds) (.list ds) = some (.d (.bool false)) := if_pos ⟨ds, rfl, rfl, h⟩
end Nb
namespace Nb
open L2 PySem PySem.Spec PyProof.Rows

/-! ### a dict of one's own whose keys are pairs of a tuple of ints and an int, its values ints -/
theorem hash_nums {w : World} : ∀ (ns : List Int), NestedKey.hashes w (ns.map .num) = ns.map hashInt
  | [] => by simp [NestedKey.hashes]
  | n :: ns => by rw [List.map_cons, NestedKey.hashes, hash_nums ns, NestedKey.hash, List.map_cons]
theorem hash_key {w : World} (k : List Int × Int) : (keyN k).hash w = hashN k := by
  unfold keyN hashN
  simp only [NestedKey.hash, NestedKey.hashes, hash_nums]
theorem depth_nums : ∀ (ns : List Int), NestedKey.depthAll (ns.map .num) = 0
  | [] => by simp [NestedKey.depthAll]
  | n :: ns => by rw [List.map_cons, NestedKey.depthAll, depth_nums ns, NestedKey.depth]; rfl
theorem depth_key (k : List Int × Int) : (keyN k).depth ≤ 8 := by
  unfold keyN
  simp only [NestedKey.depth, NestedKey.depthAll, depth_nums]
  omega
theorem nums_inj : ∀ {a b : List Int}, a.map NestedKey.num = b.map NestedKey.num → a = b
  | [], [], _ => rfl
  | [], _ :: _, e => by simp at e
  | _ :: _, [], e => by simp at e
  | x :: xs, y :: ys, e => by
    rw [List.map_cons, List.map_cons] at e
    injection e with e1 e2
    injection e1 with e1
    rw [e1, nums_inj e2]
theorem keyN_inj {a b : List Int × Int} (e : keyN a = keyN b) : a = b := by
  unfold keyN at e
  injection e with e
  injection e with e1 e2
  injection e1 with e1
  injection e2 with e2 _
  injection e2 with e2
  cases a; cases b
  simp only at e1 e2
  rw [nums_inj e1, e2]
def valN (kns : List ((List Int × Int) × Int)) (k : List Int × Int) : Option Int := (kns.find? fun p => decide (p.1 = k)).map (·.2)
theorem valN_cons {p : (List Int × Int) × Int} {kns} {k : List Int × Int} : valN (p :: kns) k = if p.1 = k then some p.2 else valN kns k := by
  unfold valN
  rw [List.find?_cons]
  by_cases h : p.1 = k <;> simp [h]
/-- the kit's triples -/
def TrN (kn : (List Int × Int) × Int) (x : NestedKey × Addr × Value) : Prop := x.1 = keyN kn.1 ∧ ∃ t, x.2.2 = .int kn.2 t
theorem at_tr {kns : List ((List Int × Int) × Int)} {xs : List (NestedKey × Addr × Value)} (p : Paired TrN kns xs) (k : List Int × Int) : (atKey xs (keyN k)).isSome = (valN kns k).isSome ∧ ∀ n, valN kns k = some n → ∃ b t, atKey xs (keyN k) = some (b, .int n t) := by
  induction p with
  | nil => exact ⟨rfl, fun n h => by cases h⟩
  | @cons kn x kns xs h _ ih =>
    obtain ⟨e, t, et⟩ := h
    have ha : atKey (x :: xs) (keyN k) = if x.1 = keyN k then some x.2 else atKey xs (keyN k) := by
      unfold atKey
      rw [List.find?_cons]
      by_cases q : x.1 = keyN k <;> simp [q]
    rw [ha, valN_cons, e]
    by_cases q : kn.1 = k
    · rw [if_pos (by rw [q]), if_pos q]
      exact ⟨rfl, fun n h => by injection h with h; subst h; exact ⟨x.2.1, t, by rw [← et]⟩⟩
    · rw [if_neg fun z => q (keyN_inj z), if_neg q]
      exact ih
section
variable {X : Cx} {pins : List (Addr × Obj)} {σ : L2.St} {H : Hp} {s : Shared} {F : Fb} {A : Around} {E : Value → Shared → Prop}
theorem nested_ints {h : Heap} : ∀ {ns : List Int} {us : List Value}, Vals (ns.map V.int) us → NestedAll h (ns.map .num) us
  | [], _, r => by cases r; exact .nil
  | n :: ns, _, r => by
    rw [List.map_cons] at r
    cases r with
    | cons a b =>
      obtain ⟨t, rfl⟩ := a
      exact .cons (.int n t) (nested_ints b)
theorem key_is (I : Inv X pins σ H s) {k : List Int × Int} {b : Addr} (r : Rel X.K F H (datN k) (.ref b)) : (nestedKind X.prog X.w).is s.heap (keyN k) b := by
  refine ⟨?_, depth_key k⟩
  unfold datN at r
  obtain ⟨a, xs, e, hs, rs⟩ := Rel.toTup r
  injection e with e
  subst e
  cases rs with
  | cons r1 rs =>
    cases rs with
    | cons r2 rs =>
      cases rs
      obtain ⟨c, ys, e1, hs2, rs2⟩ := Rel.toTup r1
      have e2 := Rel.toInt r2
      subst e1 e2
      have e3 := RelL.toInts rs2
      subst e3
      obtain ⟨its, rv, ⟨o, ho, hc, n, hd⟩, _⟩ := I.tuple hs
      obtain ⟨its2, rv2, ⟨o2, ho2, hc2, n2, hd2⟩, _⟩ := I.tuple hs2
      cases rv with
      | cons a1 a2 =>
        cases a2 with
        | cons a3 a4 =>
          cases a4
          obtain ⟨t, rfl⟩ := a3
          have a1' := a1
          cases a1'
          exact .tup ho hc hd (.cons (.tup ho2 hc2 hd2 (nested_ints rv2)) (.cons (.int _ t) .nil))
/-- what the kit calls this dict -/
theorem dict_of (I : Inv X pins σ H s) {a : Addr} {kbs : List ((List Int × Int) × Addr × Int)} {kns : List ((List Int × Int) × Int)} (e : H a = some (NKo a kbs)) (p : Paired (KbN X.K F H) kns kbs) :
    (a == sysModules) = false ∧ kbs.length ≤ sizeLine ∧ ∃ xs, xs.length = kbs.length ∧ Paired TrN kns xs ∧ s.heap.DictOfH (nestedKind X.prog X.w) a xs ∧ Paired (fun kb (x : NestedKey × Addr × Value) => x.1 = keyN kb.1 ∧ x.2.1 = kb.2.1 ∧ ∃ t, x.2.2 = .int kb.2.2 t) kbs xs := by
  obtain ⟨⟨h1, h2, hn, o, es, ep, h3, h4, h5, h6⟩, _, _⟩ := (show ObjOk X.prog X.w H s.heap a (NKo a kbs) from I.hok a _ e)
  refine ⟨h1, h2, ?_⟩
  have key : ∀ {kns : List ((List Int × Int) × Int)} {kbs : List ((List Int × Int) × Addr × Int)} {es : List DictEntry}, Paired (KbN X.K F H) kns kbs → Paired EnN kbs es → ∃ xs : List (NestedKey × Addr × Value), xs.length = kbs.length ∧ Paired TrN kns xs ∧ es = xs.map (entryOfKey (nestedKind X.prog X.w)) ∧ (∀ x ∈ xs, (nestedKind X.prog X.w).is s.heap x.1 x.2.1) ∧ xs.map (·.1) = kbs.map (fun kb => keyN kb.1) ∧ Paired (fun kb (x : NestedKey × Addr × Value) => x.1 = keyN kb.1 ∧ x.2.1 = kb.2.1 ∧ ∃ t, x.2.2 = .int kb.2.2 t) kbs xs := by
    intro kns kbs es p q
    induction p generalizing es with
    | nil => cases q; exact ⟨[], rfl, .nil, rfl, fun x h => by simp at h, rfl, .nil⟩
    | @cons kn kb kns kbs h _ ih =>
      cases q with
      | @cons _ e _ es q1 q2 =>
        obtain ⟨xs, l, a1, a2, a3, a4, a5⟩ := ih q2
        obtain ⟨b1, b2, t, b3⟩ := q1
        obtain ⟨c1, c2, c3⟩ := h
        rw [← c1] at c3
        refine ⟨(keyN kb.1, kb.2.1, e.val) :: xs, by rw [List.length_cons, List.length_cons, l], .cons ⟨by rw [c1], t, by rw [b3, c2]⟩ a1, ?_, fun x hx => ?_, by rw [List.map_cons, List.map_cons, a4], .cons ⟨rfl, rfl, t, b3⟩ a5⟩
        · rw [List.map_cons, ← a2]
          congr 1
          unfold entryOfKey
          cases e
          simp only at b1 b2
          rw [b1, b2]
          show _ = (⟨(keyN kb.1).hash X.w, _, _⟩ : DictEntry)
          rw [hash_key]
        · rcases List.mem_cons.mp hx with rfl | hx
          · exact key_is I c3
          · exact a3 x hx
  obtain ⟨xs, l, a1, a2, a3, a4, a5⟩ := key p h6
  refine ⟨xs, l, a1, ⟨o, es, ep, h3, h4, h5, a2, a3, ?_⟩, a5⟩
  rw [a4, show (kbs.map fun kb => keyN kb.1) = (kbs.map (·.1)).map keyN by rw [List.map_map]; rfl]
  exact List.pairwise_map.mpr (List.Pairwise.imp (fun h e => h (keyN_inj e)) hn)
end
/-! in, not in; d[k]; d[k] = i -/
def rInN (K : PySem.W.Frag) (neg : Bool) : R2 := fun y x H Q => ∃ (F : Fb) (a b : Addr) (kns : List ((List Int × Int) × Int)) (k : List Int × Int), x = .ref a ∧ y = .ref b ∧ NkOk K F H a kns ∧ Rel K F H (datN k) (.ref b) ∧ Q (.bl (neg != (valN kns k).isSome)) H
theorem op_inN {X : Cx} (hu : X.A.units + 64 < cLine) : OpR X (compareOp .In) (rInN X.K false) := by
  intro pins s σ H y x u v Q I ry rx h
  obtain ⟨F, a, b, kns, k, rfl, rfl, ⟨kbs, e, p⟩, r, q⟩ := h
  cases rx
  cases ry
  obtain ⟨hm, _, xs, _, tr, dd, _⟩ := dict_of I e p
  refine wpAny_in_heap (knd := nestedKind X.prog X.w) (show X.A.units + 1 + 8 < cLine by omega) (key_is I r) hm dd ⟨.bl _, H, I.tok _, rfl, ?_⟩
  rw [(at_tr tr k).1]
  simpa using q
theorem op_notInN {X : Cx} (hu : X.A.units + 64 < cLine) : OpR X (compareOp .NotIn) (rInN X.K true) := by
  intro pins s σ H y x u v Q I ry rx h
  obtain ⟨F, a, b, kns, k, rfl, rfl, ⟨kbs, e, p⟩, r, q⟩ := h
  cases rx
  cases ry
  obtain ⟨hm, _, xs, _, tr, dd, _⟩ := dict_of I e p
  refine wpAny_notIn_heap (knd := nestedKind X.prog X.w) (show X.A.units + 1 + 8 < cLine by omega) (key_is I r) hm dd ⟨.bl _, H, I.tok _, rfl, ?_⟩
  rw [(at_tr tr k).1]
  simpa using q
def rIxN (K : PySem.W.Frag) : R2 := fun x y H Q => ∃ (F : Fb) (a b : Addr) (kns : List ((List Int × Int) × Int)) (k : List Int × Int) (n : Int), x = .ref a ∧ y = .ref b ∧ NkOk K F H a kns ∧ Rel K F H (datN k) (.ref b) ∧ valN kns k = some n ∧ Q (.int n) H
theorem ix_nk {X : Cx} (hu : X.A.units + 64 < cLine) : IxR X (rIxN X.K) := by
  intro value slice pins s σ H x y v u Q I rx ry h hs
  obtain ⟨F, a, b, kns, k, n, rfl, rfl, ⟨kbs, e, p⟩, r, hv, q⟩ := h
  cases rx
  cases ry
  obtain ⟨hm, _, xs, _, tr, dd, _⟩ := dict_of I e p
  obtain ⟨c, t, hat⟩ := (at_tr tr k).2 n hv
  exact tail_any dd.typeIs slot_dict_getitem.lookup (wpAny_getItem_heap (knd := nestedKind X.prog X.w) (show X.A.units + 1 + 8 < cLine by omega) (key_is I r) dd hat ⟨.int n, H, I.tok _, ⟨t, rfl⟩, q⟩) hs
def rSetN (K : PySem.W.Frag) : V → V → V → Hp → (Hp → Prop) → Prop := fun o i v H Q => ∃ (F : Fb) (a b : Addr) (kbs : List ((List Int × Int) × Addr × Int)) (kns : List ((List Int × Int) × Int)) (k : List Int × Int) (n : Int), o = .ref a ∧ i = .ref b ∧ v = .int n ∧ H a = some (NKo a kbs) ∧ Paired (KbN K F H) kns kbs ∧ Rel K F H (datN k) (.ref b) ∧ valN kns k = none ∧ kns.length < line ∧ Q (upd H a (NKo a (kbs ++ [(k, b, n)])))
theorem set_nk {X : Cx} (hu : X.A.units + 64 < cLine) : PSet X (rSetN X.K) := by
  intro pins s σ H o i v ov iv u Q I ro ri rv h
  obtain ⟨F, a, b, kbs, kns, k, n, rfl, rfl, rfl, e, p, r, hv, hl, q⟩ := h
  cases ro
  cases ri
  obtain ⟨t, rfl⟩ := rv
  obtain ⟨hm, hz, xs, lx, tr, dd, pk⟩ := dict_of I e p
  have hlen : kns.length = kbs.length := p.length
  have hat : atKey xs (keyN k) = none := by
    have := (at_tr tr k).1
    rw [hv] at this
    cases h : atKey xs (keyN k) with
    | none => rfl
    | some y => rw [h] at this; cases this
  refine wpAny_setItem_heap (knd := nestedKind X.prog X.w) (hsz := by omega) (show X.A.units + 1 + 8 < cLine by omega) (key_is I r) dd fun h' dd' hs => ⟨_, ?_, q⟩
  rw [storedH_new hat] at dd'
  obtain ⟨o, es, ep, h1, h2, h3, h4, h5, h6⟩ := dd'
  refine d_write I (by rw [e]; exact True.intro) hs ⟨o, h1⟩ ⟨⟨hm, ?_, ?_, o, es, ep, h1, h2, h3, ?_⟩, ⟨o, h1⟩, fun g1 g2 hg ho => ?_⟩
  · rw [List.length_append, List.length_singleton]
    rw [line_eq]
    omega
  · have hx : (xs ++ [(keyN k, b, Value.int n t)]).map (·.1) = ((kbs ++ [(k, b, n)]).map (·.1)).map keyN := by
      have : ∀ {kbs : List ((List Int × Int) × Addr × Int)} {xs : List (NestedKey × Addr × Value)}, Paired (fun kb (x : NestedKey × Addr × Value) => x.1 = keyN kb.1 ∧ x.2.1 = kb.2.1 ∧ ∃ t, x.2.2 = .int kb.2.2 t) kbs xs → xs.map (·.1) = (kbs.map (·.1)).map keyN := fun pk => by
        induction pk with
        | nil => rfl
        | cons h _ ih => rw [List.map_cons, List.map_cons, List.map_cons, ih, h.1]
      rw [List.map_append, List.map_append, List.map_append, this pk]
      rfl
    rw [hx] at h6
    exact List.Pairwise.imp (fun h e => h (by rw [e])) (List.pairwise_map.mp h6)
  · rw [h4, List.map_append]
    have : ∀ {kbs : List ((List Int × Int) × Addr × Int)} {xs : List (NestedKey × Addr × Value)}, Paired (fun kb (x : NestedKey × Addr × Value) => x.1 = keyN kb.1 ∧ x.2.1 = kb.2.1 ∧ ∃ t, x.2.2 = .int kb.2.2 t) kbs xs → Paired EnN kbs (xs.map (entryOfKey (nestedKind X.prog X.w))) := fun pk => by
      induction pk with
      | nil => exact .nil
      | cons h _ ih =>
        refine .cons ⟨?_, ?_, h.2.2⟩ ih
        · show NestedKey.hash X.w _ = _
          rw [h.1, hash_key]
        · show Value.ref _ = _
          rw [h.2.1]
    refine Paired.snoc (this pk) ⟨?_, rfl, t, rfl⟩
    exact hash_key k
  · obtain ⟨g1', g2', g3', o', es', ep', a1, a2, a3, a4⟩ := hg
    exact ⟨g1', g2', g3', o', es', ep', ho _ a1, a2, a3, a4⟩
theorem pe_dnewN {X : Cx} {pos : Pos} : PE X (.Dict [] [] pos) (fun _ H Q => ∀ p, H p = none → Q (.ref p) (upd H p (NKo p []))) := ⟨fun pins s σ H Q I h =>
  wpAny_Dict_empty ⟨.ref s.heap.objs.size, _, I.laid (a := s.heap.objs.size) (o := NKo s.heap.objs.size []) (t' := s.toks) (fun _ _ q => Heap.get?_push_of_some _ q) (Nat.le_refl _)
    ⟨⟨beq_eq_false_iff_ne.mpr (Ne.symm (Nat.ne_of_lt I.big)), Nat.zero_le _, List.nodup_nil, _, #[], 0, Heap.get?_push_size _ rfl, ⟨rfl, rfl, rfl⟩, rfl, .nil⟩, ⟨_, Heap.get?_push_size _ rfl⟩, fun g1 g2 hg ho => by
      obtain ⟨g1', g2', g3', o', es', ep', a1, a2, a3, a4⟩ := hg
      exact ⟨g1', g2', g3', o', es', ep', ho _ a1, a2, a3, a4⟩⟩, rfl, h _ (I.hok.fresh (Nat.le_refl _))⟩⟩

/-! as functions -/
def allI : List D → Option (List Int)
  | [] => some []
  | .int i :: ds => (allI ds).map (i :: ·)
  | _ => none
def keyO : D → Option (List Int × Int)
  | .tuple [.tuple ds, .int r] => (allI ds).map fun l => (l, r)
  | _ => none
theorem allI_eq : ∀ {ds : List D} {l : List Int}, allI ds = some l → ds = l.map PyData.int
  | [], l, h => by injection h with h; subst h; rfl
  | .int i :: ds, l, h => by
    simp only [allI] at h
    cases e : allI ds with
    | none => rw [e] at h; cases h
    | some l' =>
      rw [e] at h
      injection h with h
      subst h
      rw [allI_eq e]
      rfl
  | .none :: _, _, h => by cases h
  | .bool _ :: _, _, h => by cases h
  | .str _ :: _, _, h => by cases h
  | .list _ :: _, _, h => by cases h
  | .tuple _ :: _, _, h => by cases h
  | .dict _ :: _, _, h => by cases h
theorem allI_map : ∀ (l : List Int), allI (l.map PyData.int) = some l
  | [] => rfl
  | i :: l => by rw [List.map_cons, allI, allI_map l]; rfl
theorem keyO_eq {d : D} {k : List Int × Int} (h : keyO d = some k) : d = datN k := by
  unfold keyO at h
  split at h
  · rename_i ds r
    cases e : allI ds with
    | none => rw [e] at h; cases h
    | some l =>
      rw [e] at h
      injection h with h
      subst h
      rw [allI_eq e]
      rfl
  · cases h
def isN (s : Option Sl) : Option (List ((List Int × Int) × Int)) := match s with
  | some (.n k) => some k
  | _ => none
theorem isN_eq {s : Option Sl} {k} (h : isN s = some k) : s = some (.n k) := by
  unfold isN at h
  split at h
  · injection h with h; subst h; rfl
  · cases h
/-- x in name, x not in name -/
def mInN (neg : Bool) (i : Nat) (ma : M Val) : M Val := fun env => (ma env).bind fun a e1 => (isN e1[i]?).elim .bad fun kns => ((view e1 a).bind keyO).elim .bad fun k => .ok (.d (.bool (neg != (valN kns k).isSome))) e1
/-- name[x] -/
def mIxN (i : Nat) (ma : M Val) : M Val := fun env => (isN env[i]?).elim .bad fun _ => (ma env).bind fun a e1 => (isN e1[i]?).elim .bad fun kns => (((view e1 a).bind keyO).bind fun k => valN kns k).elim .bad fun n => .ok (.d (.int n)) e1
/-- name = {} -/
def mSetN (i : Nat) : S := fun env => (env[i]?).elim .bad fun s => if isIo s = true then .bad else .nx (env.set i (.n []))
def putN (k : Nat) (x d : D) (env : Ev) : Option Ev := match keyO x, d, isN env[k]? with
  | some key, .int n, some kns => if valN kns key = none ∧ kns.length < line then some (env.set k (.n (kns ++ [(key, n)]))) else none
  | _, _, _ => none
/-- name[x] = d -/
def gPutN (k : Nat) (mi : M Val) : Tg := fun d env => (isN env[k]?).elim none fun _ => (mi env).elim (fun a e1 => (view e1 a).elim none fun x => putN k x d e1) (fun _ _ => none) none
theorem relB_key {K : PySem.W.Frag} {F : Fb} {H : Hp} {k : List Int × Int} {v : V} (r : RelB K F H (datN k) v) : Rel K F H (datN k) v := by
  rcases r with r | ⟨a, c, _, e, _⟩
  · exact r
  · unfold datN at e
    cases c <;> cases e
section
variable {X : Cx} {G : Ct} {W : WX} {a : Expr} {ma : M Val} {x : Str} {p pos : Pos} {i : Nat}
theorem J.nk {O : Fb} {ad : Nat → Addr} {env : Ev} {σ : L2.St} {H : Hp} (j : J G O ad env σ H) {kns} (h : isN env[i]? = some kns) : σ.getD i none = some (.ref (ad i)) ∧ NkOk G.K (Fo O env ad) H (ad i) kns := j.at_ i _ (isN_eq h)
theorem NkOk.join {K : PySem.W.Frag} {F F' : Fb} {H : Hp} {a : Addr} {kns} (h : NkOk K F H a kns) (w : ∀ z, F' z → F z) : NkOk K F' H a kns := by
  obtain ⟨kbs, e, p⟩ := h
  exact ⟨kbs, e, pairN (Kp.weak w) p⟩
theorem two_inN {neg : Bool} (hK : G.K = X.K) {σ : L2.St} {H : Hp} {Q : VK} (h : tE G W (mInN neg i ma) σ H Q) : tE G W ma σ H fun y H1 => tVar i σ H1 fun x H2 => rInN X.K neg y x H2 Q := by
  obtain ⟨O, ad, env, j, q⟩ := h
  refine mono_E (seqE (β := R Val) (P := PostE G W O ad env σ H Q) xsE (fun _ z => z) (Kr.refl O (Fo O env ad) H) j q) fun y H1 ⟨ad2, env2, val2, k2, k3, w2, q2⟩ => ?_
  obtain ⟨kns, en, q3⟩ := opt_inv (P := PostE G W O ad env σ H Q) q2 fun z => z
  obtain ⟨k, ek, q4⟩ := opt_inv (P := PostE G W O ad env σ H Q) q3 fun z => z
  obtain ⟨e1, nk⟩ := w2.j.nk en
  refine ⟨_, getD_some e1, ?_⟩
  have b2 := w2.vb (B := fun _ => False) fun _ z => z.elim
  cases ev : view env2 val2 with
  | none => rw [ev] at ek; cases ek
  | some d =>
    rw [ev] at ek
    have hd := keyO_eq (show keyO d = some k from ek)
    subst hd
    have rk := relB_key (b2.view w2.j ev)
    obtain ⟨b, _, hb, _⟩ := Rel.toTup rk
    subst hb
    rw [hK] at nk rk
    exact ⟨_, ad2 i, b, kns, k, rfl, rfl, nk, rk, q4 ad2 (.bl _) H1 k2 ⟨w2.j0, .bl _⟩⟩
theorem e_inN (neg : Bool) {op : CmpOp} (hK : G.K = X.K) (ho : OpR X (compareOp op) (rInN X.K neg)) (ha : PE X a (tE G W ma)) (hN : X.N[i]? = some x := by rfl) (hv : Vis X.env.scope x := by first | exact Or.inl rfl | exact Or.inr (Or.inl rfl) | exact Or.inr (Or.inr rfl)) (hd : (x == ("__debug__" : Str)) = false := by decide) (hcd : (x == ("__classdict__" : Str)) = false := by decide) (hm : behindInMarks op (.Name x p) = false := by with_unfolding_all rfl) : PE X (.Compare a [op] [.Name x p] pos) (tE G W (mInN neg i ma)) :=
  imp_E (pe_cmpR ho ha (pe_var hN hv hd hcd) hm) fun _ _ _ h => two_inN hK h
theorem t_inN (neg : Bool) {op : CmpOp} (hK : G.K = X.K) (ho : OpR X (compareOp op) (rInN X.K neg)) (ha : PE X a (tE G W ma)) (hN : X.N[i]? = some x := by rfl) (hv : Vis X.env.scope x := by first | exact Or.inl rfl | exact Or.inr (Or.inl rfl) | exact Or.inr (Or.inr rfl)) (hd : (x == ("__debug__" : Str)) = false := by decide) (hcd : (x == ("__classdict__" : Str)) = false := by decide) (hm : behindInMarks op (.Name x p) = false := by with_unfolding_all rfl) : PT X (.Compare a [op] [.Name x p] pos) (tT G W (toB (mInN neg i ma))) :=
  t_toB (imp_T (pt_cmpR ho ha (pe_var hN hv hd hcd) hm) fun σ H Q h => by
    have h' := two_inN hK h
    exact h')
theorem e_ixN (hu : X.A.units + 64 < cLine) (hK : G.K = X.K) (ha : PE X a (tE G W ma)) (hs : PlainIx a) (hN : X.N[i]? = some x := by rfl) (hv : Vis X.env.scope x := by first | exact Or.inl rfl | exact Or.inr (Or.inl rfl) | exact Or.inr (Or.inr rfl)) (hd : (x == ("__debug__" : Str)) = false := by decide) (hcd : (x == ("__classdict__" : Str)) = false := by decide) : PE X (.Subscript (.Name x p) a pos) (tE G W (mIxN i ma)) :=
  imp_E (pe_ix (ix_nk hu) (pe_var hN hv hd hcd) ha hs) fun σ H Q ⟨O, ad, env, j, q⟩ => by
    obtain ⟨kns0, en0, q0⟩ := opt_inv (P := PostE G W O ad env σ H Q) q fun z => z
    obtain ⟨e0, _⟩ := j.nk en0
    refine ⟨_, getD_some e0, ?_⟩
    refine mono_E (seqE (β := R Val) (P := PostE G W O ad env σ H Q) xsE (fun _ z => z) (Kr.refl O (Fo O env ad) H) j q0) fun y H1 ⟨ad2, env2, val2, k2, k3, w2, q2⟩ => ?_
    obtain ⟨kns, en, q3⟩ := opt_inv (P := PostE G W O ad env σ H Q) q2 fun z => z
    obtain ⟨n, ek, q4⟩ := opt_inv (P := PostE G W O ad env σ H Q) q3 fun z => z
    obtain ⟨e1, nk⟩ := w2.j.nk en
    have b2 := w2.vb (B := fun _ => False) fun _ z => z.elim
    cases ev : view env2 val2 with
    | none => rw [ev] at ek; cases ek
    | some d =>
      rw [ev] at ek
      cases ek2 : keyO d with
      | none => simp only [Option.bind_some, ek2] at ek; cases ek
      | some k =>
        simp only [Option.bind_some, ek2] at ek
        have hd := keyO_eq ek2
        subst hd
        have rk := relB_key (b2.view w2.j ev)
        obtain ⟨b, _, hb, _⟩ := Rel.toTup rk
        subst hb
        rw [hK] at nk rk
        have ea : ad i = ad2 i := by
          rw [e0] at e1
          injection e1 with e1
          injection e1
        rw [ea]
        exact ⟨_, ad2 i, b, kns, k, n, rfl, rfl, nk, rk, ek, q4 ad2 (.int n) H1 k2 ⟨w2.j0, .int n⟩⟩
theorem J.put_n {O : Fb} {ad : Nat → Addr} {env : Ev} {σ : L2.St} {H : Hp} {q : Addr} (j : J G (Add O q) ad env σ H) (nO : ¬ O q) (n0 : G.H0 q = none) {s : Sl} {kns} (e : env[i]? = some s) (ns : isIo s = false) (y : NkOk G.K (Fo (Add O q) env ad) H q kns) :
    J G O (fun k => if k = i then q else ad k) (env.set i (.n kns)) (σ.set i (some (.ref q))) H := by
  have had : ∀ k, k ≠ i → (if k = i then q else ad k) = ad k := fun k h => if_neg h
  have hp : (if i = i then q else ad i) = q := if_pos rfl
  have wk : ∀ a, Fo O (env.set i (.n kns)) (fun k => if k = i then q else ad k) a → Fo (Add O q) env ad a := fun a z => by
    rcases fo_put (t := .n kns) (ad' := fun k => if k = i then q else ad k) had a z with z | ⟨_, z⟩
    · rcases z with z | z
      · exact .inl (.inl z)
      · exact .inr z
    · exact .inl (.inr (by rw [z]; exact hp))
  refine j.put e ns rfl had (fun a z => .inl z) (fun _ => ⟨fun k s' n e' c' => ?_, ?_, ?_⟩) (fun F' hF k => ?_) (Kp.weak wk)
  · rw [hp]; exact fun z => j.out k s' e' c' (.inr z)
  · rw [hp]; exact nO
  · rw [hp]; exact n0
  · show some (V.ref q) = some (V.ref (if i = i then q else ad i)) ∧ NkOk G.K F' H (if i = i then q else ad i) kns
    rw [hp]
    exact ⟨rfl, y.keep k fun _ h => h⟩
theorem s_setN {p2 : Pos} (hN : X.N.Nodup) (hi : X.N[i]? = some x) (hx : Loc X.env.scope x) (hs : swapsWith (.Dict [] [] p2) (some (.Name x p)) pos.line X.env = pure false := by rfl) (hf : X.fn x = true ∨ X.env.scope.names.lookup x = some .local := by first | exact .inl rfl | exact .inr rfl | assumption) :
    PS X (.Assign [.Name x p] (.Dict [] [] p2) pos) (tS G W (mSetN i)) := imp_S (ps_set hN hi hx pe_dnewN hs hf) fun E σ H ⟨O, ad, env, j, q⟩ q0 np => by
  obtain ⟨s, es, q2⟩ := opt_inv (P := PostS G W O ad env H E) q fun z => z
  by_cases h : isIo s = true
  · rw [if_pos h] at q2; exact q2.elim
  · rw [if_neg h] at q2
    have j1 : J G (Add O q0) ad env σ (upd H q0 (NKo q0 [])) := j.laid np
    have nO : ¬ O q0 := fun z => j.outs q0 z np
    have j2 := j1.put_n (i := i) (kns := []) nO (j.fresh np).2 es (by simpa using h) ⟨[], upd_same, .nil⟩
    refine q2 _ _ _ ?_ j2
    have had : ∀ k, k ≠ i → (if k = i then q0 else ad k) = ad k := fun k h => if_neg h
    have wk : ∀ a, Fo O (env.set i (.n [])) (fun k => if k = i then q0 else ad k) a → Fo O env ad a ∨ a = q0 := fun a z => by
      rcases fo_put (t := .n []) (ad' := fun k => if k = i then q0 else ad k) had a z with z | ⟨_, z⟩
      · exact .inl z
      · exact .inr (by rw [z]; exact if_pos rfl)
    exact (Kr.same (same_laid (o := NKo q0 []) np)).add np wk
theorem g_putN (k : Nat) {io : Expr} {mi : M Val} {T : List Nat} (hu : X.A.units + 64 < cLine) (hK : G.K = X.K) (hi : PE X io (tE G NoX mi)) (hN : X.N[k]? = some x := by rfl) (hv : Vis X.env.scope x := by first | exact Or.inl rfl | exact Or.inr (Or.inl rfl) | exact Or.inr (Or.inr rfl)) (hd : (x == ("__debug__" : Str)) = false := by decide) (hcd : (x == ("__classdict__" : Str)) = false := by decide)
    (ha : ∀ v, assign (.Subscript (.Name x p) io pos) X.env v = (do
      let ov ← holding [v] (eval (.Name x p) X.env)
      let iv ← holding [v, ov] (eval io X.env)
      standAt pos
      holding [v, ov, iv] (setItem ov iv v)
      release [v, ov, iv] []) := by intro _; rfl) : PG X (.Subscript (.Name x p) io pos) (tG G T (gPutN k mi)) :=
  imp_G (pg_sub (pe_var hN hv hd hcd) hi (set_nk hu) ha) fun v σ H Q ⟨O, ad, env, d, j, r, q⟩ => by
    unfold gPutN at q
    cases en0 : isN env[k]? with
    | none => rw [en0] at q; exact q.elim
    | some kns0 =>
      rw [en0] at q
      obtain ⟨e0, _⟩ := j.nk en0
      refine ⟨_, getD_some e0, O, ad, env, j, ?_⟩
      cases em : mi env with
      | bad => rw [em] at q; exact q.elim
      | ex _ _ => rw [em] at q; exact q.elim
      | ok a env2 =>
        rw [em] at q
        simp only [R.elim_ok, Option.elim] at q
        intro ad2 u H2 k2 w2
        have j2 := w2.j
        have b2 := w2.vb (B := fun _ => False) fun _ z => z.elim
        cases ev : view env2 a with
        | none => rw [ev] at q; exact q.elim
        | some xd =>
          rw [ev] at q
          simp only at q
          have j3 := j2.less (valO_le a u)
          cases ep : putN k xd d env2 with
          | none => rw [ep] at q; exact q.elim
          | some e' =>
            rw [ep] at q
            unfold putN at ep
            split at ep
            · rename_i key n kns ek en
              split at ep
              · rename_i hc
                injection ep with ep
                subst ep
                have hd := keyO_eq ek
                subst hd
                have rk := relB_key (b2.view j2 ev)
                obtain ⟨b, _, hb, _⟩ := Rel.toTup rk
                subst hb
                have hv := Rel.toInt r
                subst hv
                obtain ⟨f1, kbs, f2, pp⟩ := j3.nk en
                have f1' := f1
                rw [e0] at f1
                have ea : ad k = ad2 k := by injection f1 with f1; injection f1
                rw [ea]
                have wkf : ∀ z, Fo O env2 ad2 z → Fo (valO O a (.ref b)) env2 ad2 z := fun z hz => by
                  rcases hz with hz | hz
                  · exact .inl (valO_le a _ _ hz)
                  · exact .inr hz
                have rk' := Rel.keep (Kp.weak wkf) rk
                have es' := isN_eq en
                have kp : Kp (Fo O env2 ad2) (Fo O (env2.set k (.n (kns ++ [(key, n)]))) ad2) H2 (upd H2 (ad2 k) (NKo (ad2 k) (kbs ++ [(key, b, n)]))) := (Kp.write f2 (.inr (.inr (.inr ⟨_, rfl⟩))) (.inr ⟨k, _, es', rfl, rfl⟩)).trans (Kp.weak (fo_same es' rfl))
                have pp2 : Paired (KbN G.K (Fo O (env2.set k (.n (kns ++ [(key, n)]))) ad2) (upd H2 (ad2 k) (NKo (ad2 k) (kbs ++ [(key, b, n)])))) (kns ++ [(key, n)]) (kbs ++ [(key, b, n)]) := Paired.snoc (pairN kp pp) ⟨rfl, rfl, rk'.keep kp⟩
                obtain ⟨j4, k4⟩ := j3.cell (t := .n (kns ++ [(key, n)])) (o' := NKo (ad2 k) (kbs ++ [(key, b, n)])) es' rfl rfl rfl f2 (.inr (.inr (.inr ⟨_, rfl⟩))) ⟨f1', _, upd_same, pp2⟩
                have pp3 := pp
                have rk3 := rk'
                rw [hK] at pp3 rk3
                exact ⟨_, ad2 k, b, kbs, kns, key, n, rfl, rfl, rfl, f2, pp3, rk3, hc.1, hc.2, q ad2 σ _ (k2.trans k4) j4 (.refl _ _)⟩
              · cases ep
            · cases ep
end
/-! reckoning -/
theorem kO_t {as : List Int} {r : Int} : keyO (.tuple [.tuple (as.map PyData.int), .int r]) = some (as, r) := by
  simp only [keyO, allI_map, Option.map_some]
theorem v_inN {neg : Bool} {i : Nat} {env : Ev} {ma : M Val} : mInN neg i ma env = (ma env).elim (fun a e1 => (isN e1[i]?).elim .bad fun kns => ((view e1 a).bind keyO).elim .bad fun k => .ok (.d (.bool (neg != (valN kns k).isSome))) e1) .ex .bad := rfl
theorem v_ixN {i : Nat} {env : Ev} {ma : M Val} : mIxN i ma env = (isN env[i]?).elim .bad fun _ => (ma env).elim (fun a e1 => (isN e1[i]?).elim .bad fun kns => (((view e1 a).bind keyO).bind fun k => valN kns k).elim .bad fun n => .ok (.d (.int n)) e1) .ex .bad := rfl
theorem v_setN {i : Nat} {env : Ev} : mSetN i env = (env[i]?).elim .bad fun s => if isIo s = true then .bad else .nx (env.set i (.n [])) := rfl
theorem is_n {k} : isN (some (.n k)) = some k := rfl
theorem nio_no : isIo .no = false := rfl
theorem nio_v {d : D} : isIo (.v d) = false := rfl
theorem nio_n {k} : isIo (.n k) = false := rfl
theorem v_putN {k : Nat} {mi : M Val} {d : D} {env : Ev} : gPutN k mi d env = (isN env[k]?).elim none fun _ => (mi env).elim (fun a e1 => (view e1 a).elim none fun x => putN k x d e1) (fun _ _ => none) none := rfl
end Nb
namespace Nb
open L2 PySem PySem.Spec PyProof.Rows

/-! ### reckoning a denotation -/
theorem elim_congr {α β : Type} {r r' : R α} {k : α → Ev → β} {kx : Ex → Ev → β} {kb : β} (h : r = r') : r.elim k kx kb = r'.elim k kx kb := by rw [h]
theorem oelim_congr {α : Type} {β : Type} {r r' : Option α} {k : α → β} {kb : β} (h : r = r') : r.elim kb k = r'.elim kb k := by rw [h]
theorem obind_congr {α : Type} {β : Type} {r r' : Option α} {k : α → Option β} (h : r = r') : r.bind k = r'.bind k := by rw [h]
theorem omap_congr {α : Type} {β : Type} {r r' : Option α} {k : α → β} (h : r = r') : r.map k = r'.map k := by rw [h]
theorem next_congr {r r' : Out} {k : Ev → Out} (h : r = r') : r.next k = r'.next k := by rw [h]
theorem loopO_congr {r r' : Out} {k : Ev → Out} (h : r = r') : loopO k r = loopO k r' := by rw [h]
theorem oe_s {α β : Type} {a : α} {k : α → β} {kb : β} : (some a).elim kb k = k a := rfl
theorem oe_n {α β : Type} {k : α → β} {kb : β} : (none : Option α).elim kb k = kb := rfl
section
variable {env : Ev} {i j : Nat} {d e : D} {c : Cl} {a b : Val} {as bs : List Val} {ma mb mc : M Val} {ms : M (List Val)} {g g' : D → D → Option Val} {f : D → Option Val} {fa : List D → Option Val} {ta tb : M Bool} {sa sb : S} {tg : Tg} {gs : List D → Ev → Option Ev}
def varS (o : Option Sl) (env : Ev) (i : Nat) : R Val := match o with
  | some (.v d) => .ok (.d d) env
  | some (.o _) => .ok (.s i) env
  | some (.io _) => .ok (.s i) env
  | some (.x _) => .ok (.s i) env
  | _ => .bad
theorem v_c : mC d env = .ok (.d d) env := rfl
theorem v_var : mVar i env = varS env[i]? env i := rfl
theorem vs_v : varS (some (.v d)) env i = .ok (.d d) env := rfl
theorem vs_o : varS (some (.o c)) env i = .ok (.s i) env := rfl
theorem vs_io : varS (some (.io c)) env i = .ok (.s i) env := rfl
def viewS (o : Option Sl) : Option D := match o with
  | some (.o c) => some (clD c)
  | some (.io c) => some (clD c)
  | some (.v d) => some d
  | _ => none
theorem w_d : view env (.d d) = some d := rfl
theorem w_f : view env (.f c) = some (clD c) := rfl
theorem w_s : view env (.s i) = viewS env[i]? := rfl
theorem ws_o : viewS (some (.o c)) = some (clD c) := rfl
theorem ws_io : viewS (some (.io c)) = some (clD c) := rfl
theorem ws_v : viewS (some (.v d)) = some d := rfl
theorem cl_l {ds : List D} : clD (.lst ds) = .list ds := rfl
theorem cl_d {ks ds} : clD (.dct ks ds) = .dict ((ks.map keyD).zip ds) := rfl
def asS (o : Option Sl) (env : Ev) (i : Nat) : Option (D × Ev) := match o with
  | some (.o c) => some (clD c, env.set i (.v (clD c)))
  | some (.v d) => some (d, env)
  | _ => none
theorem a_d : asD env (.d d) = some (d, env) := rfl
theorem a_f : asD env (.f c) = some (clD c, env) := rfl
theorem a_s : asD env (.s i) = asS env[i]? env i := rfl
theorem as_o : asS (some (.o c)) env i = some (clD c, env.set i (.v (clD c))) := rfl
theorem as_v : asS (some (.v d)) env i = some (d, env) := rfl
theorem as_nil : asDs env [] = some ([], env) := rfl
theorem as_cons : asDs env (a :: as) = (asD env a).bind fun p => (asDs p.2 as).map fun q => (p.1 :: q.1, q.2) := by
  simp only [asDs]
  cases asD env a with
  | none => rfl
  | some p => cases h : asDs p.2 as <;> simp [h]
theorem v_m2 : m2 g ma mb env = (ma env).elim (fun a e1 => (mb e1).elim (fun b e2 => ap2 g e2 a b) .ex .bad) .ex .bad := rfl
theorem v_ap2 : ap2 g env a b = (view env a).elim .bad fun d => (view env b).elim .bad fun e => (g d e).elim .bad fun r => .ok r env := by
  unfold ap2
  cases view env a with
  | none => rfl
  | some d =>
    cases view env b with
    | none => rfl
    | some e => dsimp only [Option.elim]; cases g d e <;> rfl
theorem v_m1 : m1 f ma env = (ma env).elim (fun a e1 => ap1 f e1 a) .ex .bad := rfl
theorem v_ap1 : ap1 f env a = (view env a).elim .bad fun d => (f d).elim .bad fun r => .ok r env := by
  unfold ap1
  cases view env a with
  | none => rfl
  | some d => dsimp only [Option.elim]; cases f d <;> rfl
def stoS (o : Option Sl) (i : Nat) (env : Ev) (a : Val) : Option Ev := match o with
  | none => none
  | some (.io _) => none
  | some _ => match a with
    | .d d => some (env.set i (.v d))
    | .f c => some (env.set i (.o c))
    | .s k => match asD env (.s k) with
      | some (d, e2) => some (e2.set i (.v d))
      | none => none
theorem v_set : mSet i ma env = (ma env).elim (fun a e1 => (stoS e1[i]? i e1 a).elim .bad .nx) .ex .bad := rfl
def okS (s : Sl) : Bool := match s with
  | .io _ => false
  | _ => true
theorem sd_no : stoS (some .no) i env (.d d) = some (env.set i (.v d)) := rfl
theorem sd_v : stoS (some (.v e)) i env (.d d) = some (env.set i (.v d)) := rfl
theorem sd_o {c' : Cl} : stoS (some (.o c')) i env (.d d) = some (env.set i (.v d)) := rfl
theorem sf_no : stoS (some .no) i env (.f c) = some (env.set i (.o c)) := rfl
theorem sf_v : stoS (some (.v e)) i env (.f c) = some (env.set i (.o c)) := rfl
theorem sf_o {c' : Cl} : stoS (some (.o c')) i env (.f c) = some (env.set i (.o c)) := rfl
theorem ss_no : stoS (some .no) i env (.s j) = (asD env (.s j)).map fun p => p.2.set i (.v p.1) := by
  unfold stoS; dsimp only; cases asD env (.s j) <;> rfl
theorem ss_v : stoS (some (.v e)) i env (.s j) = (asD env (.s j)).map fun p => p.2.set i (.v p.1) := by
  unfold stoS; dsimp only; cases asD env (.s j) <;> rfl
theorem ss_oo {c' : Cl} : stoS (some (.o c')) i env (.s j) = (asD env (.s j)).map fun p => p.2.set i (.v p.1) := by
  unfold stoS; dsimp only; cases asD env (.s j) <;> rfl
theorem v_nil : mNil env = .ok [] env := rfl
theorem v_cons : mCons ma ms env = (ma env).elim (fun a e1 => (ms e1).elim (fun as e2 => .ok (a :: as) e2) .ex .bad) .ex .bad := rfl
theorem v_tup : mTup ms env = (ms env).elim (fun vals e1 => (asDs e1 vals).elim .bad fun p => if p.1.length ≤ line then .ok (.d (.tuple p.1)) p.2 else .bad) .ex .bad := by
  unfold mTup
  cases ms env with
  | ok vals e1 => simp only [R.elim_ok]; unfold apTup; cases asDs e1 vals <;> rfl
  | ex => rfl
  | bad => rfl
theorem v_lst : mLst ms env = (ms env).elim (fun vals e1 => (asDs e1 vals).elim .bad fun p => if p.1.length ≤ line then .ok (.f (.lst p.1)) p.2 else .bad) .ex .bad := by
  unfold mLst
  cases ms env with
  | ok vals e1 => simp only [R.elim_ok]; unfold apLst; cases asDs e1 vals <;> rfl
  | ex => rfl
  | bad => rfl
theorem v_rep : mRep ma mb env = (ma env).elim (fun a e1 => (mb e1).elim (fun b e2 => apR e2 a b) .ex .bad) .ex .bad := rfl
theorem w_nil : views env [] = some [] := rfl
theorem w_cons : views env (a :: as) = (view env a).bind fun d => (views env as).map fun ds => d :: ds := by
  simp only [views]
  cases view env a with
  | none => rfl
  | some d => cases views env as <;> rfl
theorem v_mA : mA fa ms env = (ms env).elim (fun vals e1 => (views e1 vals).elim .bad fun ds => (fa ds).elim .bad fun r => .ok r e1) .ex .bad := by
  unfold mA
  cases ms env with
  | ok vals e1 =>
    simp only [R.elim_ok]
    unfold apA
    cases views e1 vals with
    | none => rfl
    | some ds => dsimp only [Option.elim]; cases fa ds <;> rfl
  | ex => rfl
  | bad => rfl
/-! calls -/
theorem p_nil : prep env [] [] = some ([], env) := rfl
theorem p_t {ks : List Bool} : prep env (true :: ks) (.s i :: as) = (prep env ks as).map fun p => (.i i :: p.1, p.2) := by
  simp only [prep]
  cases prep env ks as with
  | none => rfl
  | some p => rfl
def exS (o : Option Sl) : Option Ex := match o with
  | some (.x e) => some e
  | _ => none
theorem p_f {ks : List Bool} : prep env (false :: ks) (a :: as) = (exAt env a).elim ((asD env a).bind fun p => (prep p.2 ks as).map fun q => (.v p.1 :: q.1, q.2)) fun x => (prep env ks as).map fun q => (.x x :: q.1, q.2) := by
  simp only [prep]
  cases exAt env a with
  | some x => dsimp only [Option.elim]; cases prep env ks as <;> rfl
  | none =>
    dsimp only [Option.elim]
    cases asD env a with
    | none => rfl
    | some p => simp only [Option.bind_some]; cases prep p.2 ks as <;> rfl
theorem x_d : exAt env (.d d) = none := rfl
theorem x_f : exAt env (.f c) = none := rfl
theorem x_s : exAt env (.s i) = exS env[i]? := rfl
theorem xs_v : exS (some (.v d)) = none := rfl
theorem xs_o : exS (some (.o c)) = none := rfl
theorem xs_io : exS (some (.io c)) = none := rfl
theorem ce_nil : cellsOf env [] = some [] := rfl
theorem ce_v {l : List Ag} : cellsOf env (.v d :: l) = (cellsOf env l).map fun m => .v d :: m := by simp only [cellsOf]; cases cellsOf env l <;> rfl
def celS (o : Option Sl) : Option Cl := match o with
  | some (.o c) => some c
  | some (.io c) => some c
  | _ => none
theorem ce_i {l : List Ag} : cellsOf env (.i i :: l) = (celS env[i]?).bind fun c => (cellsOf env l).map fun m => .io c :: m := by
  simp only [cellsOf]
  rw [show cellOf env i = celS env[i]? from rfl]
  cases celS env[i]? with
  | none => rfl
  | some c => cases cellsOf env l <;> rfl
theorem cs_o : celS (some (.o c)) = some c := rfl
theorem cs_io : celS (some (.io c)) = some c := rfl
theorem sl_nil : slots [] = [] := rfl
theorem sl_v {l : List Ag} : slots (.v d :: l) = slots l := rfl
theorem sl_i {l : List Ag} : slots (.i i :: l) = i :: slots l := rfl
def fOutS (r : FOut) (env : Ev) (as : List Ag) : R Val := match r with
  | .ok d os => .ok (.d d) (putBack env as os)
  | .oko c os => .ok (.f c) (putBack env as os)
  | .okt d c os => .ok (.d (.tuple [d, clD c])) (putBack env as os)
  | .ex x os => .ex x (putBack env as os)
  | .bad => .bad
theorem fOutS_congr {r r' : FOut} {as : List Ag} (h : r = r') : fOutS r env as = fOutS r' env as := by rw [h]
theorem fo_ok {os : List Sl} {l : List Ag} : fOutS (.ok d os) env l = .ok (.d d) (putBack env l os) := rfl
theorem fo_okt {os : List Sl} {l : List Ag} : fOutS (.okt d c os) env l = .ok (.d (.tuple [d, clD c])) (putBack env l os) := rfl
theorem fo_oko {os : List Sl} {l : List Ag} : fOutS (.oko c os) env l = .ok (.f c) (putBack env l os) := rfl
theorem fo_ex {os : List Sl} {l : List Ag} {x : Ex} : fOutS (.ex x os) env l = .ex x (putBack env l os) := rfl
theorem v_mF {den : Fn} {ks : List Bool} : mF den ks ms env = (ms env).elim (fun vals e1 => (prep e1 ks vals).elim .bad fun p => (cellsOf p.2 p.1).elim .bad fun args => if (slots p.1).Nodup then fOutS (den args) p.2 p.1 else .bad) .ex .bad := by
  unfold mF apF
  rfl
def setS (o : Option Sl) (env : Ev) (i : Nat) (c : Cl) : Ev := match o with
  | some (.o _) => env.set i (.o c)
  | some (.io _) => env.set i (.io c)
  | _ => env
theorem pb_nil {os : List Sl} : putBack env [] os = env := by cases os <;> rfl
theorem pb_v {os : List Sl} {l : List Ag} {s : Sl} : putBack env (.v d :: l) (s :: os) = putBack env l os := by cases s <;> rfl
theorem pb_i {os : List Sl} {l : List Ag} {c : Cl} : putBack env (.i i :: l) (.io c :: os) = putBack (setS env[i]? env i c) l os := rfl
theorem ss_o {c c' : Cl} : setS (some (.o c)) env i c' = env.set i (.o c') := rfl
theorem ss_io {c c' : Cl} : setS (some (.io c)) env i c' = env.set i (.io c') := rfl
/-! tests -/
def bS {β : Type} (d : D) (f : Bool → β) (bad : β) : β := match d with
  | .bool b => f b
  | _ => bad
theorem b_b {β : Type} {f : Bool → β} {bad : β} {x : Bool} : bS (.bool x) f bad = f x := rfl
theorem v_toB : toB ma env = (ma env).elim (fun a e => (view e a).elim .bad fun d => bS d (fun b => .ok b e) .bad) .ex .bad := by
  unfold toB
  cases ma env with
  | ok a e => simp only [R.elim_ok]; cases view e a with
    | none => rfl
    | some d => cases d <;> rfl
  | ex => rfl
  | bad => rfl
theorem v_mTst : mTst ma env = (ma env).elim (fun a e => (view e a).elim .bad fun d => bS d (fun b => .ok b e) .bad) .ex .bad := by
  unfold mTst
  cases ma env with
  | ok a e => simp only [R.elim_ok]; cases view e a with
    | none => rfl
    | some d => cases d <;> rfl
  | ex => rfl
  | bad => rfl
theorem v_and : mAnd ta tb env = (ta env).elim (fun x e => if x = true then tb e else .ok false e) .ex .bad := rfl
theorem v_or : mOr ta tb env = (ta env).elim (fun x e => if x = true then .ok true e else tb e) .ex .bad := rfl
theorem v_not : mNot ta env = (ta env).elim (fun x e => .ok (!x) e) .ex .bad := rfl
theorem v_if : mIf ta ma mb env = (ta env).elim (fun x e => if x = true then ma e else mb e) .ex .bad := rfl
theorem v_andV : mAndV ma mb env = (ma env).elim (fun a e => (view e a).elim .bad fun d => bS d (fun b => if b = true then mb e else .ok (.d (.bool false)) e) .bad) .ex .bad := by
  unfold mAndV
  cases ma env with
  | ok a e => simp only [R.elim_ok]; cases view e a with
    | none => rfl
    | some d => cases d with
      | bool b => cases b <;> rfl
      | _ => rfl
  | ex => rfl
  | bad => rfl
theorem v_orV : mOrV ma mb env = (ma env).elim (fun a e => (view e a).elim .bad fun d => bS d (fun b => if b = true then .ok (.d (.bool true)) e else mb e) .bad) .ex .bad := by
  unfold mOrV
  cases ma env with
  | ok a e => simp only [R.elim_ok]; cases view e a with
    | none => rfl
    | some d => cases d with
      | bool b => cases b <;> rfl
      | _ => rfl
  | ex => rfl
  | bad => rfl
theorem v_notV : mNotV ma env = (ma env).elim (fun a e => (view e a).elim .bad fun d => bS d (fun b => .ok (.d (.bool (!b))) e) .bad) .ex .bad := by
  unfold mNotV
  cases ma env with
  | ok a e => simp only [R.elim_ok]; cases view e a with
    | none => rfl
    | some d => cases d <;> rfl
  | ex => rfl
  | bad => rfl
theorem v_m3 : m3 g g' ma mb mc env = (ma env).elim (fun a e1 => (mb e1).elim (fun b e2 => (ap2 g e2 a b).elim (fun x e3 => (view e3 x).elim .bad fun d => bS d (fun t => if t = true then (mc e3).elim (fun c e4 => ap2 g' e4 b c) .ex .bad else .ok (.d (.bool false)) e3) .bad) .ex .bad) .ex .bad) .ex .bad := by
  unfold m3
  cases ma env with
  | ex => rfl
  | bad => rfl
  | ok a e1 =>
    simp only [R.elim_ok]
    cases mb e1 with
    | ex => rfl
    | bad => rfl
    | ok b e2 =>
      simp only [R.elim_ok]
      cases ap2 g e2 a b with
      | ex => rfl
      | bad => rfl
      | ok x e3 =>
        simp only [R.elim_ok]
        cases view e3 x with
        | none => rfl
        | some d => cases d with
          | bool b => cases b <;> rfl
          | _ => rfl
theorem v_inR {neg two : Bool} : mInR neg two ma ms env = (ma env).elim (fun a e1 => (ms e1).elim (fun vals e2 => (view e2 a).elim .bad fun d => (views e2 vals).elim .bad fun ds => (rngB neg two d ds).elim .bad fun b => .ok (.d (.bool b)) e2) .ex .bad) .ex .bad := by
  unfold mInR
  cases ma env with
  | ok a e1 =>
    simp only [R.elim_ok]
    cases ms e1 with
    | ok vals e2 =>
      simp only [R.elim_ok]
      cases view e2 a with
      | none => rfl
      | some d =>
        cases views e2 vals with
        | none => rfl
        | some ds => dsimp only [Option.elim]; cases rngB neg two d ds <;> rfl
    | ex => rfl
    | bad => rfl
  | ex => rfl
  | bad => rfl
theorem v_part0 : partO none env = .ok none env := rfl
def iS {β : Type} (d : D) (f : Int → β) (bad : β) : β := match d with
  | .int b => f b
  | _ => bad
theorem i_i {β : Type} {f : Int → β} {bad : β} {x : Int} : iS (.int x) f bad = f x := rfl
theorem v_part1 : partO (some ma) env = (ma env).elim (fun a e => (view e a).elim .bad fun d => iS d (fun i => .ok (some i) e) .bad) .ex .bad := by
  unfold partO
  dsimp only
  cases ma env with
  | ok a e => simp only [R.elim_ok]; cases view e a with
    | none => rfl
    | some d => cases d <;> rfl
  | ex => rfl
  | bad => rfl
theorem v_sl {ml mh : Option (M Val)} : mSl ma ml mh env = (ma env).elim (fun a e1 => (partO ml e1).elim (fun lo e2 => (partO mh e2).elim (fun hi e3 => (view e3 a).elim .bad fun d => (gSl d lo hi).elim .bad fun r => .ok r e3) .ex .bad) .ex .bad) .ex .bad := by
  unfold mSl
  cases ma env with
  | ok a e1 =>
    simp only [R.elim_ok]
    cases partO ml e1 with
    | ok lo e2 =>
      simp only [R.elim_ok]
      cases partO mh e2 with
      | ok hi e3 =>
        simp only [R.elim_ok]
        cases view e3 a with
        | none => rfl
        | some d => dsimp only [Option.elim]; cases gSl d lo hi <;> rfl
      | ex => rfl
      | bad => rfl
    | ex => rfl
    | bad => rfl
  | ex => rfl
  | bad => rfl
theorem v_dc0 : mDc0 env = .ok (.f (.dct [] [])) env := rfl
theorem v_dc1 {k : Str} {n : Int} : mDc1 k n env = .ok (.f (.dct [.inr k] [.int n])) env := rfl
/-! statements -/
theorem v_seq : mSeq sa sb env = (sa env).next sb := rfl
theorem n_rt {k : Ev → Out} : (Out.rt d env).next k = .rt d env := rfl
theorem n_rtt {k : Ev → Out} : (Out.rtt d c env).next k = .rtt d c env := rfl
theorem n_rto {k : Ev → Out} : (Out.rto c env).next k = .rto c env := rfl
theorem n_bk {k : Ev → Out} : (Out.bk env).next k = .bk env := rfl
theorem n_ct {k : Ev → Out} : (Out.ct env).next k = .ct env := rfl
theorem n_ex {k : Ev → Out} {x : Ex} : (Out.ex x env).next k = .ex x env := rfl
theorem n_bad {k : Ev → Out} : Out.bad.next k = .bad := rfl
theorem v_nop : mNop env = .nx env := rfl
theorem v_brk : mBrk env = .bk env := rfl
theorem v_cnt : mCnt env = .ct env := rfl
theorem v_expr : mExpr ma env = (ma env).elim (fun _ e1 => .nx e1) .ex .bad := rfl
theorem v_ifS : mIfS ta sa sb env = (ta env).elim (fun c e1 => if c = true then sa e1 else sb e1) .ex .bad := rfl
theorem v_ret : mRet ma env = (ma env).elim (fun a e1 => apRet e1 a) .ex .bad := rfl
theorem v_retN : mRetN env = .rt .none env := rfl
def retS (o : Option Sl) (env : Ev) (i : Nat) : Out := match o with
  | some (.o c) => .rto c (env.set i .no)
  | some (.v d) => .rt d env
  | _ => .bad
theorem r_d : apRet env (.d d) = .rt d env := rfl
theorem r_f : apRet env (.f c) = .rto c env := rfl
theorem r_s : apRet env (.s i) = retS env[i]? env i := rfl
theorem rs_o : retS (some (.o c)) env i = .rto c (env.set i .no) := rfl
theorem rs_v : retS (some (.v d)) env i = .rt d env := rfl
theorem v_asg : mAsg tg ma env = (ma env).elim (fun a e1 => (asD e1 a).elim .bad fun p => (tg p.1 p.2).elim .bad .nx) .ex .bad := rfl
theorem t_nm : gNm i d env = stoS env[i]? i env (.d d) := rfl
theorem t_nil : gsNil [] env = some env := rfl
theorem t_cons {ds : List D} : gsCons tg gs (d :: ds) env = (tg d env).bind fun e => gs ds e := rfl
theorem t_tp {n : Nat} {ds : List D} : gTp n gs (.tuple ds) env = if ds.length = n then gs ds env else none := rfl
def parS : List D → Option (D × D)
  | [d, e] => some (d, e)
  | _ => none
theorem ps_2 : parS [d, e] = some (d, e) := rfl
theorem v_par : mPar i j ms env = (ms env).elim (fun vals e1 => (asDs e1 vals).elim .bad fun p => (parS p.1).elim .bad fun q => (stoS p.2[i]? i p.2 (.d q.1)).elim .bad fun e2 => (stoS e2[j]? j e2 (.d q.2)).elim .bad .nx) .ex .bad := by
  unfold mPar
  cases ms env with
  | ok vals e1 =>
    simp only [R.elim_ok]
    match vals with
    | [] => simp [asDs, parS]
    | [a] => simp only [as_cons, as_nil]; cases asD e1 a <;> rfl
    | [a, b] =>
      simp only [as_cons, as_nil]
      cases asD e1 a with
      | none => rfl
      | some p => simp only [Option.bind_some]; cases asD p.2 b <;> rfl
    | a :: b :: c :: l =>
      simp only [as_cons]
      cases asD e1 a with
      | none => rfl
      | some p =>
        simp only [Option.bind_some]
        cases asD p.2 b with
        | none => rfl
        | some q =>
          simp only [Option.bind_some]
          cases asD q.2 c with
          | none => rfl
          | some r =>
            simp only [Option.bind_some]
            cases asDs r.2 l <;> rfl
  | ex => rfl
  | bad => rfl
theorem v_for {mi : M (List D)} : mFor mi tg sa env = (mi env).elim (fun items e1 => forD tg sa items e1) .ex .bad := rfl
theorem v_items : mItems ma env = (ma env).elim (fun a e1 => (asD e1 a).elim .bad fun p => (itemsOf p.1).elim .bad fun ds => .ok ds p.2) .ex .bad := rfl
theorem it_l {ds : List D} : itemsOf (.list ds) = some ds := rfl
theorem it_t {ds : List D} : itemsOf (.tuple ds) = some ds := rfl
theorem v_src {f : List D → Option (List D)} : mSrc f ms env = (ms env).elim (fun vals e1 => ((views e1 vals).bind f).elim .bad fun ds => .ok ds e1) .ex .bad := rfl
theorem rg1 {j : Int} (h1 : -(2 ^ 62) ≤ j) (h2 : j < 2 ^ 62) : rng1Of [.int j] = some (rngD 0 j) := by
  show (if okB j = true then some (rngD 0 j) else none) = _
  exact if_pos (by simp only [okB, Bool.and_eq_true, decide_eq_true_eq]; exact ⟨h1, h2⟩)
theorem rg2 {i j : Int} (g1 : -(2 ^ 62) ≤ i) (g2 : i < 2 ^ 62) (h1 : -(2 ^ 62) ≤ j) (h2 : j < 2 ^ 62) : rng2Of [.int i, .int j] = some (rngD i j) := by
  show (if okB i = true ∧ okB j = true then some (rngD i j) else none) = _
  exact if_pos (by simp only [okB, Bool.and_eq_true, decide_eq_true_eq]; exact ⟨⟨g1, g2⟩, h1, h2⟩)
def enumOf : List D → Option (List D)
  | [d] => (itemsOf d).map enumD
  | _ => none
theorem v_enum : mEnum ms env = (ms env).elim (fun vals e1 => (asDs e1 vals).elim .bad fun p => (enumOf p.1).elim .bad fun ds => .ok ds p.2) .ex .bad := by
  unfold mEnum
  cases ms env with
  | ok vals e1 =>
    simp only [R.elim_ok]
    match vals with
    | [] => simp [asDs, iEnumD, enumOf]
    | [a] =>
      simp only [as_cons, as_nil, iEnumD]
      cases asD e1 a with
      | none => rfl
      | some p =>
        obtain ⟨d, e2⟩ := p
        simp only [Option.bind_some, Option.map_some, Option.elim, enumOf]
        cases itemsOf d <;> rfl
    | a :: b :: l =>
      simp only [as_cons, iEnumD]
      cases asD e1 a with
      | none => rfl
      | some p =>
        simp only [Option.bind_some]
        cases asD p.2 b with
        | none => rfl
        | some q =>
          simp only [Option.bind_some]
          cases asDs q.2 l <;> rfl
  | ex => rfl
  | bad => rfl
theorem eo_1 : enumOf [d] = (itemsOf d).map enumD := rfl
theorem v_zip : mZip ms env = (ms env).elim (fun vals e1 => iZipD e1 vals) .ex .bad := rfl
def zipOf : List D → Option (List D)
  | [.list ds, .list es] => some (zipD ds es)
  | [.tuple ds, .tuple es] => some (zipD ds es)
  | _ => none
theorem v_zipD : iZipD env as = (asDs env as).elim .bad fun p => (zipOf p.1).elim .bad fun ds => .ok ds p.2 := by
  unfold iZipD
  congr 1
  funext p
  unfold zipOf
  split <;> first | rfl | (rename_i h1 h2; split <;> first | rfl | simp_all)
theorem zo_l {ds es : List D} : zipOf [.list ds, .list es] = some (zipD ds es) := rfl
theorem zo_t {ds es : List D} : zipOf [.tuple ds, .tuple es] = some (zipD ds es) := rfl
theorem v_mut {f : List D → List D → Option (D × List D)} : mMut i f ms env = if isL env[i]? = true then (ms env).elim (fun vals e1 => (asDs e1 vals).elim .bad fun p => apMut i f p.2 p.1) .ex .bad else .bad := by
  split
  · rename_i h
    obtain ⟨s, ds, e, hs⟩ := isL_inv h
    unfold mMut
    rw [e]
    rcases hs with rfl | rfl <;> rfl
  · rename_i h
    unfold mMut
    split
    · rename_i ds e; rw [e] at h; exact absurd rfl h
    · rename_i ds e; rw [e] at h; exact absurd rfl h
    · rfl
theorem il_o {ds : List D} : isL (some (.o (.lst ds))) = true := rfl
theorem il_io {ds : List D} : isL (some (.io (.lst ds))) = true := rfl
def mutS (o : Option Sl) (i : Nat) (f : List D → List D → Option (D × List D)) (env : Ev) (args : List D) : R Val := match o with
  | some (.o (.lst ds)) => (f ds args).elim .bad fun p => .ok (.d p.1) (env.set i (.o (.lst p.2)))
  | some (.io (.lst ds)) => (f ds args).elim .bad fun p => .ok (.d p.1) (env.set i (.io (.lst p.2)))
  | _ => .bad
theorem v_apMut {f : List D → List D → Option (D × List D)} {args : List D} : apMut i f env args = mutS env[i]? i f env args := by
  unfold apMut mutS
  cases h : env[i]? with
  | none => rfl
  | some s =>
    cases s with
    | o c =>
      cases c with
      | lst ds => dsimp only; cases f ds args <;> rfl
      | dct ks ds => rfl
    | io c =>
      cases c with
      | lst ds => dsimp only; cases f ds args <;> rfl
      | dct ks ds => rfl
    | _ => rfl
theorem mu_o {f : List D → List D → Option (D × List D)} {args ds : List D} : mutS (some (.o (.lst ds))) i f env args = (f ds args).elim .bad fun p => .ok (.d p.1) (env.set i (.o (.lst p.2))) := rfl
theorem mu_io {f : List D → List D → Option (D × List D)} {args ds : List D} : mutS (some (.io (.lst ds))) i f env args = (f ds args).elim .bad fun p => .ok (.d p.1) (env.set i (.io (.lst p.2))) := rfl
def putS (o : Option Sl) (k : Nat) (n : Int) (d : D) (env : Ev) : Option Ev := match o with
  | some (.o (.lst ds)) => (ixN ds.length n).map fun j => env.set k (.o (.lst (ds.set j d)))
  | some (.io (.lst ds)) => (ixN ds.length n).map fun j => env.set k (.io (.lst (ds.set j d)))
  | _ => none
theorem v_gPut {k : Nat} : gPut k ma d env = if isL env[k]? = true then (ma env).elim (fun a e1 => (view e1 a).elim none fun x => iS x (fun n => putS e1[k]? k n d e1) none) (fun _ _ => none) none else none := by
  unfold gPut
  congr 1
  congr 1
  funext a e1
  cases view e1 a with
  | none => rfl
  | some d => cases d <;> rfl
theorem pu_o {k : Nat} {n : Int} {ds : List D} : putS (some (.o (.lst ds))) k n d env = (ixN ds.length n).map fun j => env.set k (.o (.lst (ds.set j d))) := rfl
theorem pu_io {k : Nat} {n : Int} {ds : List D} : putS (some (.io (.lst ds))) k n d env = (ixN ds.length n).map fun j => env.set k (.io (.lst (ds.set j d))) := rfl
theorem v_augS {k : Nat} : mAugS k ma mb env = if isL env[k]? = true then (ma env).elim (fun a e1 => ((view e1 a).bind intD).elim .bad fun n => (((cellS e1[k]?).bind fun ds => atI ds n).bind intD).elim .bad fun old =>
  (mb e1).elim (fun b e2 => ((view e2 b).bind intD).elim .bad fun y => (putS e2[k]? k n (.int (old + y)) e2).elim .bad .nx) .ex .bad) .ex .bad else .bad := rfl
theorem id_i {n : Int} : intD (.int n) = some n := rfl
theorem cl_o {ds : List D} : cellS (some (.o (.lst ds))) = some ds := rfl
theorem cl_io {ds : List D} : cellS (some (.io (.lst ds))) = some ds := rfl
theorem v_dict : mDc ma mb env = (ma env).elim (fun a e1 => (mb e1).elim (fun b e2 => ((view e2 a).bind keyOf).elim .bad fun k => (asD e2 b).elim .bad fun p => .ok (.f (.dct [k] [p.1])) p.2) .ex .bad) .ex .bad := rfl
theorem ky_i {n : Int} : keyOf (.int n) = some (.inl n) := rfl
theorem ky_s {x : Str} : keyOf (.str x) = some (.inr x) := rfl
theorem v_keys : mKeys ma env = (ma env).elim (fun a e1 => keysOf e1 a) .ex .bad := rfl
theorem ko_f {ks : List Key} {ds : List D} : keysOf env (.f (.dct ks ds)) = .ok (ks.map keyD) env := rfl
def putSD (o : Option Sl) (k : Nat) (x d : D) (env : Ev) : Option Ev := match x, o with
  | .int n, some (.o (.dct ks ds)) => if ks.length < line then some (env.set k (.o (putKs ks ds (.inl n) d))) else none
  | .int n, some (.io (.dct ks ds)) => if ks.length < line then some (env.set k (.io (putKs ks ds (.inl n) d))) else none
  | _, _ => putA k x d env
theorem v_gPutA {k : Nat} : gPutA k ma d env = if isCl env[k]? = true then (ma env).elim (fun a e1 => (view e1 a).elim none fun x => putSD e1[k]? k x d e1) (fun _ _ => none) none else none := by
  unfold gPutA
  congr 1
  congr 1
  funext a e1
  cases view e1 a with
  | none => rfl
  | some x =>
    show putA k x d e1 = putSD e1[k]? k x d e1
    cases x with
    | int n =>
      unfold putSD putA
      cases h : e1[k]? with
      | none => simp [h]
      | some s => cases s with
        | o c => cases c <;> simp [h]
        | io c => cases c <;> simp [h]
        | _ => simp [h]
    | _ => unfold putSD; rfl
theorem pd_o {k : Nat} {n : Int} {ks : List Key} {ds : List D} : putSD (some (.o (.dct ks ds))) k (.int n) d env = if ks.length < line then some (env.set k (.o (putKs ks ds (.inl n) d))) else none := rfl
theorem ic_o : isCl (some (.o c)) = true := rfl
theorem ic_io : isCl (some (.io c)) = true := rfl
theorem v_mLc {vs : List Nat} {mi : M (List D)} : mLc vs mi tg ta ma env = (mi env).elim (fun items e1 => (wipeE vs e1).elim .bad fun ew => (compD vs tg ta ma items ew []).elim .bad fun p => (restE vs e1 p.2).elim .bad fun e3 => .ok (.f (.lst p.1)) e3) .ex .bad := by
  unfold mLc lcPair
  cases mi env with
  | ok items e1 =>
    simp only [R.elim_ok]
    cases wipeE vs e1 with
    | none => rfl
    | some ew =>
      simp only [Option.bind_some]
      dsimp only [Option.elim]
      cases compD vs tg ta ma items ew [] with
      | none => rfl
      | some p => simp only [Option.bind_some]; cases restE vs e1 p.2 <;> rfl
  | ex => rfl
  | bad => rfl
def wipS (o : Option Sl) (v : Nat) (e : Ev) : Option Ev := match o with
  | some .no => some (e.set v .no)
  | some (.v _) => some (e.set v .no)
  | some (.x _) => some (e.set v .no)
  | _ => none
theorem wi_nil : wipeE [] env = some env := rfl
theorem wi_cons {v : Nat} {vs : List Nat} : wipeE (v :: vs) env = (wipeE vs env).bind fun e => wipS e[v]? v e := by
  rw [wipeE]
  cases wipeE vs env with
  | none => rfl
  | some e =>
    simp only [Option.bind_some]
    cases h : e[v]? with
    | none => rfl
    | some s => cases s <;> rfl
theorem wp_no {v : Nat} : wipS (some .no) v env = some (env.set v .no) := rfl
theorem wp_v {v : Nat} : wipS (some (.v d)) v env = some (env.set v .no) := rfl
def rstS (o q : Option Sl) (v : Nat) (e : Ev) : Option Ev := match o, q with
  | some s, some t => if isC s = true ∨ isC t = true then none else some (e.set v s)
  | _, _ => none
theorem re_nil {env0 : Ev} : restE [] env0 env = some env := rfl
theorem re_cons {env0 : Ev} {v : Nat} {vs : List Nat} : restE (v :: vs) env0 env = (restE vs env0 env).bind fun e => rstS env0[v]? e[v]? v e := by
  rw [restE]
  rfl
theorem rt_nn {v : Nat} : rstS (some .no) (some .no) v env = some (env.set v .no) := rfl
theorem rt_vn {v : Nat} : rstS (some (.v d)) (some .no) v env = some (env.set v (.v d)) := rfl
theorem rt_nv {v : Nat} : rstS (some .no) (some (.v d)) v env = some (env.set v .no) := rfl
theorem rt_vv {v : Nat} : rstS (some (.v e)) (some (.v d)) v env = some (env.set v (.v e)) := rfl
def fnS (o : Out) (n : Nat) : FOut := match o with
  | .nx e => .ok .none (outsOf n e)
  | .rt d e => .ok d (outsOf n e)
  | .rto c e => .oko c (outsOf n e)
  | .rtt d c e => .okt d c (outsOf n e)
  | .ex x e => .ex x (outsOf n e)
  | _ => .bad
theorem fnS_congr {o o' : Out} {n : Nat} (h : o = o') : fnS o n = fnS o' n := by rw [h]
theorem v_fn {n N : Nat} {body : S} {args : List Sl} (h : args.length = n) : fnDen n N body args = fnS (body (args ++ List.replicate (N - n) .no)) n := by
  unfold fnDen
  rw [if_pos h]
  rfl
theorem f1 {N : Nat} {body : S} {a : Sl} : fnDen 1 N body [a] = fnS (body (a :: List.replicate (N - 1) .no)) 1 := rfl
theorem f2 {N : Nat} {body : S} {a b : Sl} : fnDen 2 N body [a, b] = fnS (body (a :: b :: List.replicate (N - 2) .no)) 2 := rfl
theorem f3 {N : Nat} {body : S} {a b c : Sl} : fnDen 3 N body [a, b, c] = fnS (body (a :: b :: c :: List.replicate (N - 3) .no)) 3 := rfl
theorem f4 {N : Nat} {body : S} {a b c d : Sl} : fnDen 4 N body [a, b, c, d] = fnS (body (a :: b :: c :: d :: List.replicate (N - 4) .no)) 4 := rfl
theorem f5 {N : Nat} {body : S} {a b c d e : Sl} : fnDen 5 N body [a, b, c, d, e] = fnS (body (a :: b :: c :: d :: e :: List.replicate (N - 5) .no)) 5 := rfl
theorem fs_nx {n : Nat} : fnS (.nx env) n = .ok .none (outsOf n env) := rfl
theorem fs_rt {n : Nat} : fnS (.rt d env) n = .ok d (outsOf n env) := rfl
theorem fs_rtt {n : Nat} : fnS (.rtt d c env) n = .okt d c (outsOf n env) := rfl
theorem fs_rto {n : Nat} : fnS (.rto c env) n = .oko c (outsOf n env) := rfl
theorem ou_0 : outsOf 0 env = [] := by cases env <;> rfl
theorem ou_s {n : Nat} {s : Sl} : outsOf (n + 1) (s :: env) = ioOnly s :: outsOf n env := rfl
theorem io_no : ioOnly .no = .no := rfl
theorem io_v : ioOnly (.v d) = .no := rfl
theorem io_o : ioOnly (.o c) = .no := rfl
theorem io_io : ioOnly (.io c) = .io c := rfl
theorem g0 {s : Sl} : (s :: env)[0]? = some s := rfl
theorem g1 {s : Sl} {n : Nat} : (s :: env)[n + 1]? = env[n]? := rfl
theorem s0 {s t : Sl} : (s :: env).set 0 t = t :: env := rfl
theorem s1 {s t : Sl} {n : Nat} : (s :: env).set (n + 1) t = s :: env.set n t := rfl
end
/-! operations on ints -/
section
variable {i j : Int} {b : Bool} {xs ys : List D}
theorem ln_le {n : Nat} (h : n ≤ 1000000) : (n ≤ line) = True := by simp [line]; omega
theorem ln_lt {n : Nat} (h : n ≤ 1000000) : (n < line) = True := by simp [line]; omega
theorem o_add : gAdd (.int i) (.int j) = some (.d (.int (i + j))) := rfl
theorem o_sub : gSub (.int i) (.int j) = some (.d (.int (i - j))) := rfl
theorem o_mulr (h1 : -(2 ^ 64) < j) (h2 : j < 2 ^ 64) : gMul (.int i) (.int j) = some (.d (.int (i * j))) := if_pos (.inl (.inr ⟨h1, h2⟩))
theorem o_mull (h1 : -(2 ^ 64) < i) (h2 : i < 2 ^ 64) : gMul (.int i) (.int j) = some (.d (.int (i * j))) := if_pos (.inl (.inl ⟨h1, h2⟩))
theorem log_small {j : Int} (h1 : 0 < j) (h2 : j < 2 ^ 200) : j.natAbs.log2 < 200 := (Nat.log2_lt (by omega)).mpr (by omega)
theorem small9000 {i j : Int} (h1 : 0 < j) (h2 : j < 2 ^ 200) : CDivW i j := ⟨h1, Nat.lt_trans (log_small h1 h2) (by decide)⟩
theorem o_fdiv (h1 : 0 < j) (h2 : j < 2 ^ 200) : gFdiv (.int i) (.int j) = some (.d (.int (i / j))) := if_pos (small9000 h1 h2)
theorem o_mod (h : 0 < j) : gMod (.int i) (.int j) = some (.d (.int (i % j))) := if_pos h
theorem o_neg : gNeg (.int i) = some (.d (.int (-i))) := rfl
theorem o_cmp {p : Int → Int → Bool} : gCmp p (.int i) (.int j) = some (.d (.bool (p i j))) := rfl
theorem o_max2 : gMax2 [.int i, .int j] = some (.d (.int (if j > i then j else i))) := rfl
theorem o_min2 : gMin2 [.int i, .int j] = some (.d (.int (if j < i then j else i))) := rfl
theorem o_int_b : gInt1 [.bool b] = some (.d (.int (if b then 1 else 0))) := rfl
theorem o_lenL : gLen [.list xs] = some (.d (.int xs.length)) := rfl
theorem o_lenT : gLen [.tuple xs] = some (.d (.int xs.length)) := rfl
theorem o_pow (h0 : 0 ≤ j) (h1 : j ≤ 1000000) (h2 : -(2 ^ 63) < i) (h3 : i < 2 ^ 63) : gPow (.int i) (.int j) = some (.d (.int (i ^ j.toNat))) := if_pos ⟨h0, h1, by omega⟩
theorem o_slL {lo hi : Option Int} : gSl (.list xs) lo hi = some (.f (.lst (cutD xs lo hi))) := rfl
theorem o_slT {lo hi : Option Int} : gSl (.tuple xs) lo hi = some (.d (.tuple (cutD xs lo hi))) := rfl
theorem o_repT (h0 : 1 ≤ xs.length) (h1 : 2 ≤ j) (h2 : j ≤ 1000) (h3 : xs.length ≤ 1000) : gMul (.tuple xs) (.int j) = some (.d (.tuple (List.replicate j.toNat xs).flatten)) := by
  show (if j = 1 then _ else _) = _
  rw [if_neg (by omega), if_pos ⟨by intro h; rw [h] at h0; simp at h0, h1, h2, h3⟩]
theorem v_apR {env : Ev} {x : D} {k : Int} (h0 : 0 ≤ k) (h1 : k ≤ 1000000) : apR env (.f (.lst [x])) (.d (.int k)) = .ok (.f (.lst (List.replicate k.toNat x))) env := by
  show (if -(2 ^ 63) ≤ k ∧ k < 2 ^ 63 ∧ [x].length * k.toNat ≤ line then (R.ok (Val.f (Cl.lst (List.replicate k.toNat [x]).flatten)) env : R Val) else R.bad) = _
  rw [if_pos ⟨by omega, by omega, by simp [line]; omega⟩, List.flatten_replicate_singleton]
theorem o_inD {neg : Bool} {kvs : List (D × D)} : gInA neg (.int i) (.dict kvs) = some (.d (.bool (neg != hasK kvs (.inl i)))) := rfl
theorem o_inL {neg : Bool} {d : D} : gInA neg d (.list xs) = gIn neg d (.list xs) := by cases d <;> rfl
theorem o_inT {neg : Bool} {d : D} : gInA neg d (.tuple xs) = gIn neg d (.tuple xs) := by cases d <;> rfl
theorem o_list_l : gList [.list xs] = some (.f (.lst xs)) := rfl
theorem o_list_t : gList [.tuple xs] = some (.f (.lst xs)) := rfl
theorem o_tup_l : gTuple [.list xs] = some (.d (.tuple xs)) := rfl
theorem o_tup_t : gTuple [.tuple xs] = some (.d (.tuple xs)) := rfl
theorem o_addL (h : xs.length + ys.length ≤ 1000000) : gAdd (.list xs) (.list ys) = some (.f (.lst (xs ++ ys))) := if_pos (by simp [line]; omega)
theorem o_addT (h : xs.length + ys.length ≤ 1000000) : gAdd (.tuple xs) (.tuple ys) = some (.d (.tuple (xs ++ ys))) := if_pos (by simp [line]; omega)
theorem o_eq {d e : D} (h1 : d.plain = true) (h2 : e.plain = true) (h3 : d.depth ≤ 64) : gEq d e = some (.d (.bool (PyData.eqv d e))) := if_pos ⟨h1, h2, h3⟩
theorem o_ne {d e : D} (h1 : d.plain = true) (h2 : e.plain = true) (h3 : d.depth ≤ 64) : gNe d e = some (.d (.bool (!PyData.eqv d e))) := if_pos ⟨h1, h2, h3⟩
theorem o_extL {ds es : List D} (h : ds.length + es.length ≤ 1000000) : fExtend ds [.list es] = some (.none, ds ++ es) := if_pos (by simp [line]; omega)
theorem o_extT {ds es : List D} (h : ds.length + es.length ≤ 1000000) : fExtend ds [.tuple es] = some (.none, ds ++ es) := if_pos (by simp [line]; omega)
theorem o_app {ds : List D} {d : D} (h : ds.length ≤ 1000000) : fAppend ds [d] = some (.none, ds ++ [d]) := if_pos (by simp [line]; omega)
theorem at0 {x : D} : atI (x :: xs) 0 = some x := by
  have h : ixN (x :: xs).length 0 = some 0 := by unfold ixN; simp
  unfold atI; rw [h]; rfl
theorem ix_in {n : Nat} (h0 : 0 ≤ i) (h1 : i < n) : ixN n i = some i.toNat := by unfold ixN; rw [if_pos h0, if_pos h1]
theorem at_in (h0 : 0 ≤ i) (h1 : i < xs.length) : atI xs i = xs[i.toNat]? := by unfold atI; rw [ix_in h0 h1]; rfl
theorem at1 {x y : D} : atI (x :: y :: xs) 1 = some y := at_in (by omega) (by simp; omega)
theorem at2 {x y z : D} : atI (x :: y :: z :: xs) 2 = some z := at_in (by omega) (by simp; omega)
/-- the item at a place -/
def pick (xs : List D) (i : Int) : D := (atI xs i).getD .none
theorem pick_in {i : Int} {xs : List D} (h0 : 0 ≤ i) (h1 : i < xs.length) : atI xs i = some (pick xs i) := by
  unfold pick
  rw [at_in h0 h1, List.getElem?_eq_getElem (by omega)]
  rfl
theorem pick_get {i : Int} {xs : List D} (h0 : 0 ≤ i) (h1 : i < xs.length) : xs[i.toNat]? = some (pick xs i) := by rw [← at_in h0 h1, pick_in h0 h1]
theorem pick_mem {i : Int} {xs : List D} (h0 : 0 ≤ i) (h1 : i < xs.length) : pick xs i ∈ xs := List.mem_of_getElem? (pick_get h0 h1)
theorem pick_neg {i : Int} {xs : List D} (h0 : -(xs.length : Int) ≤ i) (h1 : i < 0) : atI xs i = some (pick xs i) := by
  have h : atI xs i = xs[(i + xs.length).toNat]? := by
    unfold atI ixN
    rw [if_neg (by omega), if_pos h0]
    rfl
  unfold pick
  rw [h, List.getElem?_eq_getElem (by omega)]
  rfl
theorem o_ixL (h0 : 0 ≤ i) (h1 : i < xs.length) : gIx (.list xs) (.int i) = some (.d (pick xs i)) := by
  show (atI xs i).map Val.d = _
  rw [pick_in h0 h1]; rfl
theorem o_ixT (h0 : 0 ≤ i) (h1 : i < xs.length) : gIx (.tuple xs) (.int i) = some (.d (pick xs i)) := by
  show (atI xs i).map Val.d = _
  rw [pick_in h0 h1]; rfl
theorem o_ixLn (h0 : -(xs.length : Int) ≤ i) (h1 : i < 0) : gIx (.list xs) (.int i) = some (.d (pick xs i)) := by
  show (atI xs i).map Val.d = _
  rw [pick_neg h0 h1]; rfl
theorem o_ixTn (h0 : -(xs.length : Int) ≤ i) (h1 : i < 0) : gIx (.tuple xs) (.int i) = some (.d (pick xs i)) := by
  show (atI xs i).map Val.d = _
  rw [pick_neg h0 h1]; rfl
theorem pk0 {x : D} : pick (x :: xs) 0 = x := by unfold pick; rw [at0]; rfl
theorem pk1 {x y : D} : pick (x :: y :: xs) 1 = y := by unfold pick; rw [at1]; rfl
theorem pk2 {x y z : D} : pick (x :: y :: z :: xs) 2 = z := by unfold pick; rw [at2]; rfl
theorem o_eqi : gEq (.int i) (.int j) = some (.d (.bool (decide (i = j)))) := by
  simp only [gEq, gNe, PyData.plain, PyData.depth, PyData.eqv, Nat.zero_le, and_self, if_true]
  rfl
theorem o_eqb {a b : Bool} : gEq (.bool a) (.bool b) = some (.d (.bool (decide (a = b)))) := by
  simp only [gEq, gNe, PyData.plain, PyData.depth, PyData.eqv, Nat.zero_le, and_self, if_true]
  rfl
theorem o_nei : gNe (.int i) (.int j) = some (.d (.bool (!decide (i = j)))) := by
  simp only [gEq, gNe, PyData.plain, PyData.depth, PyData.eqv, Nat.zero_le, and_self, if_true]
  rfl
theorem pylong_small {i j : Int} (h1 : 0 < j) (h2 : j < 2 ^ 200) : Builtin.divisionGoesByPylong i j = false := by
  have h := log_small h1 h2
  unfold Builtin.divisionGoesByPylong
  have h3 : ¬ (if (j == 0) = true then 0 else j.natAbs.log2 / 30 + 1) > 300 := by
    split <;> omega
  simp only [h3, decide_false, Bool.false_and]
theorem o_divmod (h1 : 0 < j) (h2 : j < 2 ^ 200) : gDivmod [.int i, .int j] = some (.d (.tuple [.int (i / j), .int (i % j)])) := if_pos ⟨h1, pylong_small h1 h2⟩
theorem cutD_len (ds : List D) (lo hi : Option Int) : (cutD ds lo hi).length ≤ ds.length := by
  unfold cutD
  rw [List.length_take, List.length_drop]
  omega
theorem at_some {i : Int} {xs : List D} (h0 : 0 ≤ i) (h1 : i < xs.length) : ∃ x, atI xs i = some x ∧ xs[i.toNat]? = some x := by
  rw [at_in h0 h1]
  exact ⟨_, List.getElem?_eq_getElem (by omega), List.getElem?_eq_getElem (by omega)⟩
theorem o_all {bs : List Bool} : gAll [.list (bs.map PyData.bool)] = some (.d (.bool (bs.all id))) := by simp [gAll]
theorem o_sum {ns : List Int} : gSum [.list (ns.map PyData.int)] = some (.d (.int ns.sum)) := by simp [gSum]
end
/-! ### exceptions, counts, parts read backwards -/
section
variable {env : Ev} {i j : Nat} {d e : D} {c : Cl} {ma mb : M Val} {ms : M (List Val)} {sa sb : S} {x : Ex} {n f : Str} {fs : List (Str × D)}
def excS (o : Option Sl) (f : Ex → Option D) (env : Ev) : R Val := match o with
  | some (.x e) => (f e).elim .bad fun d => .ok (.d d) env
  | _ => .bad
theorem v_exc {f : Ex → Option D} : mExc i f env = excS env[i]? f env := by
  unfold mExc excS
  cases env[i]? with
  | none => rfl
  | some s =>
    cases s with
    | x e => dsimp only; cases f e <;> rfl
    | _ => rfl
theorem ex_x {f : Ex → Option D} : excS (some (.x x)) f env = (f x).elim .bad fun d => .ok (.d d) env := rfl
theorem fl_house : exFld "at" ⟨"NoHouse", [("at", d)]⟩ = some d := by unfold exFld; rw [if_pos (show ("NoHouse" : Str) ∈ exN by decide)]; rfl
theorem fl_nobody : exFld "at" ⟨"Nobody", [("at", d)]⟩ = some d := by unfold exFld; rw [if_pos (show ("Nobody" : Str) ∈ exN by decide)]; rfl
theorem fl_text : exFld "at" ⟨"NoText", [("at", d)]⟩ = some d := by unfold exFld; rw [if_pos (show ("NoText" : Str) ∈ exN by decide)]; rfl
theorem fl_open : exFld "room" ⟨"NotOpen", [("room", d)]⟩ = some d := by unfold exFld; rw [if_pos (show ("NotOpen" : Str) ∈ exN by decide)]; rfl
theorem fl_many : exFld "many" ⟨"TooGreat", [("most", e), ("many", d)]⟩ = some d := by unfold exFld; rw [if_pos (show ("TooGreat" : Str) ∈ exN by decide)]; rfl
theorem fl_most : exFld "most" ⟨"TooGreat", [("most", e), ("many", d)]⟩ = some e := by unfold exFld; rw [if_pos (show ("TooGreat" : Str) ∈ exN by decide)]; rfl
theorem v_throw : mThrow n env = .ex ⟨n, []⟩ env := rfl
theorem v_throwF1 : mThrowF n [f] (mCons ma mNil) env = (ma env).elim (fun a e1 => (view e1 a).elim .bad fun d => iS d (fun i => if i.natAbs.log2 < 1920 then .ex ⟨n, [(f, .int i)]⟩ e1 else .bad) .bad) .ex .bad := by
  unfold mThrowF
  rw [v_cons]
  cases ma env with
  | ok a e1 =>
    simp only [R.elim_ok, v_nil, w_cons, w_nil]
    cases view e1 a with
    | none => rfl
    | some d =>
      cases d with
      | int i =>
        simp only [Option.bind_some, Option.map_some, intsO, Option.elim, i_i]
        by_cases h : i.natAbs.log2 < 1920
        · rw [if_pos h, if_pos h]; rfl
        · rw [if_neg h, if_neg h]
      | _ => rfl
  | ex => rfl
  | bad => rfl
theorem v_throwF2 {g : Str} : mThrowF n [f, g] (mCons ma (mCons mb mNil)) env = (ma env).elim (fun a e1 => (mb e1).elim (fun b e2 => (view e2 a).elim .bad fun d => iS d (fun i => (view e2 b).elim .bad fun d' => iS d' (fun j => if i.natAbs.log2 < 1920 ∧ j.natAbs.log2 < 1920 then .ex ⟨n, [(g, .int j), (f, .int i)]⟩ e2 else .bad) .bad) .bad) .ex .bad) .ex .bad := by
  unfold mThrowF
  rw [v_cons]
  cases ma env with
  | ok a e1 =>
    simp only [R.elim_ok, v_cons]
    cases mb e1 with
    | ok b e2 =>
      simp only [R.elim_ok, v_nil, w_cons, w_nil]
      cases view e2 a with
      | none => rfl
      | some d =>
        cases view e2 b with
        | none => cases d <;> rfl
        | some d' =>
          cases d with
          | int i =>
            cases d' with
            | int j =>
              simp only [Option.bind_some, Option.map_some, intsO, Option.elim, i_i]
              by_cases h : i.natAbs.log2 < 1920
              · by_cases h2 : j.natAbs.log2 < 1920
                · rw [if_pos h, if_pos h2, if_pos ⟨h, h2⟩]; rfl
                · rw [if_pos h, if_neg h2, if_neg fun z => h2 z.2]; rfl
              · rw [if_neg h, if_neg fun z => h z.1]
            | _ =>
              simp only [Option.bind_some, Option.map_some, intsO, i_i, iS]
              by_cases h : i.natAbs.log2 < 1920
              · rw [if_pos h]; rfl
              · rw [if_neg h]; rfl
          | _ => rfl
    | ex => rfl
    | bad => rfl
  | ex => rfl
  | bad => rfl
theorem sm_log {i : Int} (h1 : -(2 ^ 200) < i) (h2 : i < 2 ^ 200) : (i.natAbs.log2 < 1920) = True := by
  refine eq_true ?_
  by_cases h : i.natAbs = 0
  · rw [h]; decide
  · exact Nat.lt_trans ((Nat.log2_lt h).mpr (show i.natAbs < 2 ^ 200 by omega)) (by decide)
def tryS (i : Nat) (o : Out) (ms : S) : Out := match o with
  | .ex x e => if x.cls ∈ exN then (putX i x e).elim .bad fun e1 => outX i (ms e1) else .bad
  | o => o
theorem v_try : mTry i sa sb env = tryS i (sa env) sb := by
  unfold mTry tryS
  cases sa env <;> rfl
theorem tr_nx : tryS i (.nx env) sb = .nx env := rfl
theorem tr_rt : tryS i (.rt d env) sb = .rt d env := rfl
theorem tr_rtt : tryS i (.rtt d c env) sb = .rtt d c env := rfl
theorem tr_rto : tryS i (.rto c env) sb = .rto c env := rfl
theorem tr_c0 : tryS i (.ex ⟨"NoArrows", fs⟩ env) sb = (putX i ⟨"NoArrows", fs⟩ env).elim .bad fun e1 => outX i (sb e1) := by
  unfold tryS; exact if_pos (show ("NoArrows" : Str) ∈ exN by decide)
theorem tr_c1 : tryS i (.ex ⟨"NoRoom", fs⟩ env) sb = (putX i ⟨"NoRoom", fs⟩ env).elim .bad fun e1 => outX i (sb e1) := by
  unfold tryS; exact if_pos (show ("NoRoom" : Str) ∈ exN by decide)
theorem tr_c2 : tryS i (.ex ⟨"NoWalkers", fs⟩ env) sb = (putX i ⟨"NoWalkers", fs⟩ env).elim .bad fun e1 => outX i (sb e1) := by
  unfold tryS; exact if_pos (show ("NoWalkers" : Str) ∈ exN by decide)
theorem tr_c3 : tryS i (.ex ⟨"NotShut", fs⟩ env) sb = (putX i ⟨"NotShut", fs⟩ env).elim .bad fun e1 => outX i (sb e1) := by
  unfold tryS; exact if_pos (show ("NotShut" : Str) ∈ exN by decide)
theorem tr_c4 : tryS i (.ex ⟨"NeverBack", fs⟩ env) sb = (putX i ⟨"NeverBack", fs⟩ env).elim .bad fun e1 => outX i (sb e1) := by
  unfold tryS; exact if_pos (show ("NeverBack" : Str) ∈ exN by decide)
theorem tr_c5 : tryS i (.ex ⟨"NoTour", fs⟩ env) sb = (putX i ⟨"NoTour", fs⟩ env).elim .bad fun e1 => outX i (sb e1) := by
  unfold tryS; exact if_pos (show ("NoTour" : Str) ∈ exN by decide)
theorem tr_c6 : tryS i (.ex ⟨"NoRow", fs⟩ env) sb = (putX i ⟨"NoRow", fs⟩ env).elim .bad fun e1 => outX i (sb e1) := by
  unfold tryS; exact if_pos (show ("NoRow" : Str) ∈ exN by decide)
theorem tr_c7 : tryS i (.ex ⟨"NoHouse", fs⟩ env) sb = (putX i ⟨"NoHouse", fs⟩ env).elim .bad fun e1 => outX i (sb e1) := by
  unfold tryS; exact if_pos (show ("NoHouse" : Str) ∈ exN by decide)
theorem tr_c8 : tryS i (.ex ⟨"NotOpen", fs⟩ env) sb = (putX i ⟨"NotOpen", fs⟩ env).elim .bad fun e1 => outX i (sb e1) := by
  unfold tryS; exact if_pos (show ("NotOpen" : Str) ∈ exN by decide)
theorem tr_c9 : tryS i (.ex ⟨"Nobody", fs⟩ env) sb = (putX i ⟨"Nobody", fs⟩ env).elim .bad fun e1 => outX i (sb e1) := by
  unfold tryS; exact if_pos (show ("Nobody" : Str) ∈ exN by decide)
theorem tr_c10 : tryS i (.ex ⟨"NoText", fs⟩ env) sb = (putX i ⟨"NoText", fs⟩ env).elim .bad fun e1 => outX i (sb e1) := by
  unfold tryS; exact if_pos (show ("NoText" : Str) ∈ exN by decide)
theorem tr_c11 : tryS i (.ex ⟨"TooGreat", fs⟩ env) sb = (putX i ⟨"TooGreat", fs⟩ env).elim .bad fun e1 => outX i (sb e1) := by
  unfold tryS; exact if_pos (show ("TooGreat" : Str) ∈ exN by decide)
def putXS (o : Option Sl) (i : Nat) (x : Ex) (env : Ev) : Option Ev := match o with
  | some (.io _) => none
  | some _ => some (env.set i (.x x))
  | none => none
theorem v_putX : putX i x env = putXS env[i]? i x env := rfl
theorem px_no : putXS (some .no) i x env = some (env.set i (.x x)) := rfl
theorem px_v : putXS (some (.v d)) i x env = some (env.set i (.x x)) := rfl
theorem ox_nx : outX i (.nx env) = (endX i env).elim .bad .nx := rfl
theorem ox_rt : outX i (.rt d env) = (endX i env).elim .bad (.rt d) := rfl
theorem ox_rto : outX i (.rto c env) = (endX i env).elim .bad (.rto c) := rfl
def endXS (o : Option Sl) (env : Ev) : Option Ev := match o with
  | some (.x _) => some (env.map clr)
  | _ => none
theorem v_endX : endX i env = endXS env[i]? env := rfl
theorem en_x : endXS (some (.x x)) env = some (env.map clr) := rfl
theorem cl_nil : ([] : Ev).map clr = [] := rfl
theorem cl_cons {s : Sl} : (s :: env).map clr = clr s :: env.map clr := rfl
theorem cl_no : clr .no = .no := rfl
theorem cl_v : clr (.v d) = .v d := rfl
theorem cl_oo : clr (.o c) = .o c := rfl
theorem cl_ioo : clr (.io c) = .io c := rfl
theorem cl_x : clr (.x x) = .no := rfl
theorem io_x : ioOnly (.x x) = .no := rfl
theorem vs_x : varS (some (.x x)) env i = .ok (.s i) env := rfl
theorem xs_x : exS (some (.x x)) = some x := rfl
theorem fs_ex {k : Nat} : fnS (.ex x env) k = .ex x (outsOf k env) := rfl
theorem lo_ex {k : Ev → Out} : loopO k (.ex x env) = .ex x env := rfl
theorem ce_x {l : List Ag} : cellsOf env (.x x :: l) = (cellsOf env l).map fun m => .x x :: m := by simp only [cellsOf]; cases cellsOf env l <;> rfl
theorem sl_x {l : List Ag} : slots (.x x :: l) = slots l := rfl
theorem pb_x {os : List Sl} {l : List Ag} {s : Sl} : putBack env (.x x :: l) (s :: os) = putBack env l os := by cases s <;> rfl
/-! methods of lists and tuples -/
def datS (f : List D → D → Option D) (c d : D) : Option D := if PyData.plainAll (itemsK c) = true ∧ d.plain = true ∧ d.depth ≤ 60 then f (itemsK c) d else none
def memN (n : Nat) (ks : List Nat) : Bool := ks.contains n
theorem v_m2T {ks : List Nat} {f : List D → D → Option D} : m2T ks f ma mb env = (ma env).elim (fun o e1 => if memN (kd (view e1 o)) ks = true then (mb e1).elim (fun a e2 => if kd (view e2 o) = kd (view e1 o) then
    (view e2 o).elim .bad fun c => (view e2 a).elim .bad fun d => (datS f c d).elim .bad fun r => .ok (.d r) e2 else .bad) .ex .bad else .bad) .ex .bad := by
  unfold m2T
  cases ma env with
  | ok o e1 =>
    simp only [R.elim_ok]
    have hm : (memN (kd (view e1 o)) ks = true) ↔ (kd (view e1 o) ∈ ks) := by unfold memN; simp
    by_cases h : kd (view e1 o) ∈ ks
    · rw [if_pos h, if_pos (hm.mpr h)]
      cases mb e1 with
      | ok a e2 =>
        simp only [R.elim_ok]
        by_cases h2 : kd (view e2 o) = kd (view e1 o)
        · rw [if_pos h2, if_pos h2]
          cases view e2 o with
          | none => rfl
          | some c =>
            cases view e2 a with
            | none => rfl
            | some d =>
              show (if _ then _ else _) = _
              unfold datS
              dsimp only [Option.elim]
              split <;> rfl
        · rw [if_neg h2, if_neg h2]
      | ex => rfl
      | bad => rfl
    · rw [if_neg h, if_neg fun z => h (hm.mp z)]
  | ex => rfl
  | bad => rfl
theorem kd_l {ds : List D} : kd (some (.list ds)) = 1 := rfl
theorem kd_t {ds : List D} : kd (some (.tuple ds)) = 2 := rfl
theorem me_1 : memN 1 [1, 2] = true := rfl
theorem me_2 : memN 2 [1, 2] = true := rfl
theorem me_3 : memN 1 [1] = true := rfl
theorem o_revL {ds : List D} : gRev (.list ds) = some (.f (.lst ds.reverse)) := rfl
theorem o_revT {ds : List D} : gRev (.tuple ds) = some (.d (.tuple ds.reverse)) := rfl
theorem o_lr1 {b : Int} (h : b ≤ 1000000) (h0 : -1000000 ≤ b) : gLr1 (.int b) = some (.f (.lst (rngD 0 b))) := if_pos (by simp only [rgOk, Bool.and_eq_true, decide_eq_true_eq]; omega)
theorem o_tr1 {b : Int} (h : b ≤ 1000000) (h0 : -1000000 ≤ b) : gTr1 (.int b) = some (.d (.tuple (rngD 0 b))) := if_pos (by simp only [rgOk, Bool.and_eq_true, decide_eq_true_eq]; omega)
end
theorem o_eqs {a b : Str} : gEq (.str a) (.str b) = some (.d (.bool (decide (a = b)))) := by
  unfold gEq; rw [if_pos ⟨rfl, rfl, Nat.zero_le _⟩]; rfl
theorem o_nes {a b : Str} : gNe (.str a) (.str b) = some (.d (.bool (!decide (a = b)))) := by
  unfold gNe; rw [if_pos ⟨rfl, rfl, Nat.zero_le _⟩]; rfl
end Nb
namespace Nb
open L2 PySem PySem.Spec PyProof.Rows

/-! ### loops and told lists, reckoned -/
def turn (vs : List Nat) (g : Tg) (me : M Val) (d : D) (env : Ev) : Option (D × Ev) := (g d env).bind fun e1 => (me e1).elim (fun val e3 => (asD e3 val).bind fun p => (wipeE vs p.2).map fun e5 => (p.1, e5)) (fun _ _ => none) none
theorem compD_step {vs : List Nat} {g : Tg} {me : M Val} {d : D} {ds : List D} {env e' : Ev} {acc : List D} {y : D} (h : turn vs g me d env = some (y, e')) (hl : acc.length < line) : compD vs g mYes me (d :: ds) env acc = compD vs g mYes me ds e' (acc ++ [y]) := by
  unfold turn at h
  rw [compD]
  cases eg : g d env with
  | none => rw [eg] at h; cases h
  | some e1 =>
    rw [eg] at h
    simp only [Option.bind_some] at h ⊢
    show R.elim (R.ok true e1) _ _ _ = _
    simp only [R.elim_ok, if_true]
    cases em : me e1 with
    | bad => rw [em] at h; cases h
    | ex _ _ => rw [em] at h; cases h
    | ok val e3 =>
      rw [em] at h
      simp only [R.elim_ok] at h ⊢
      cases ea : asD e3 val with
      | none => rw [ea] at h; cases h
      | some p =>
        rw [ea] at h
        simp only [Option.bind_some] at h ⊢
        rw [if_pos hl]
        cases ew : wipeE vs p.2 with
        | none => rw [ew] at h; cases h
        | some e5 => rw [ew] at h; cases h; rfl
/-- with a state -/
theorem compD_st {vs : List Nat} {g : Tg} {me : M Val} {I : Ev → Prop} {P : D → D → Prop} : ∀ {items : List D} {env : Ev} {acc : List D}, I env → (∀ d ∈ items, ∀ env, I env → ∃ y e', turn vs g me d env = some (y, e') ∧ P d y ∧ I e') → acc.length + items.length ≤ line →
    ∃ ys e', compD vs g mYes me items env acc = some (acc ++ ys, e') ∧ I e' ∧ ys.length = items.length ∧ ∀ (i : Nat) (d y : D), items[i]? = some d → ys[i]? = some y → P d y
  | [], env, acc, hI, _, _ => ⟨[], env, by rw [compD, List.append_nil], hI, rfl, fun i d y h => by simp at h⟩
  | d :: ds, env, acc, hI, h, hl => by
    rw [List.length_cons] at hl
    obtain ⟨y, e1, ht, hp, hI1⟩ := h d (List.mem_cons_self ..) env hI
    rw [compD_step ht (by omega)]
    obtain ⟨ys, e2, hc, hI2, hlen, hP⟩ := compD_st (items := ds) (acc := acc ++ [y]) hI1 (fun d hd => h d (List.mem_cons_of_mem _ hd)) (by rw [List.length_append]; simp; omega)
    refine ⟨y :: ys, e2, by rw [hc, List.append_assoc]; rfl, hI2, by rw [List.length_cons, List.length_cons, hlen], fun i d' y' h1 h2 => ?_⟩
    cases i with
    | zero => simp at h1 h2; subst h1 h2; exact hp
    | succ i => exact hP i d' y' (by simpa using h1) (by simpa using h2)
/-- each by itself -/
theorem compD_map {vs : List Nat} {g : Tg} {me : M Val} {f : D → D} {env : Ev} : ∀ {items : List D} {acc : List D}, (∀ d ∈ items, turn vs g me d env = some (f d, env)) → acc.length + items.length ≤ line → compD vs g mYes me items env acc = some (acc ++ items.map f, env)
  | [], acc, _, _ => by rw [compD, List.map_nil, List.append_nil]
  | d :: ds, acc, h, hl => by
    rw [List.length_cons] at hl
    rw [compD_step (h d (List.mem_cons_self ..)) (by omega), compD_map (fun d hd => h d (List.mem_cons_of_mem _ hd)) (by rw [List.length_append]; simp; omega), List.append_assoc]
    rfl
/-- some left out -/
theorem compD_filt {vs : List Nat} {g : Tg} {tt : M Bool} {me : M Val} {p : D → Bool} {f : D → D} {env : Ev} : ∀ {items : List D} {acc : List D}, (∀ d ∈ items, ∃ e1 e2, g d env = some e1 ∧ tt e1 = .ok (p d) e2 ∧ (p d = false → wipeE vs e2 = some env) ∧ (p d = true → ∃ v e3 e4, me e2 = .ok v e3 ∧ asD e3 v = some (f d, e4) ∧ wipeE vs e4 = some env)) →
    acc.length + items.length ≤ line → compD vs g tt me items env acc = some (acc ++ (items.filter p).map f, env)
  | [], acc, _, _ => by rw [compD, List.filter_nil, List.map_nil, List.append_nil]
  | d :: ds, acc, h, hl => by
    rw [List.length_cons] at hl
    obtain ⟨e1, e2, h1, h2, h3, h4⟩ := h d (List.mem_cons_self ..)
    rw [compD, h1]
    simp only [Option.bind_some, h2, R.elim_ok]
    cases hp : p d with
    | false =>
      rw [if_neg (by simp), h3 hp, List.filter_cons, hp, if_neg (by simp)]
      exact compD_filt (fun d hd => h d (List.mem_cons_of_mem _ hd)) (by omega)
    | true =>
      obtain ⟨v, e3, e4, h5, h6, h7⟩ := h4 hp
      rw [if_pos rfl, h5]
      simp only [R.elim_ok, h6, Option.bind_some]
      rw [if_pos (by omega), h7, List.filter_cons, hp, if_pos rfl, List.map_cons]
      simp only [Option.bind_some]
      rw [compD_filt (fun d hd => h d (List.mem_cons_of_mem _ hd)) (by rw [List.length_append]; simp; omega), List.append_assoc]
      rfl
/-- one name, items any data -/
theorem compG {v : Nat} {tt : M Bool} {me : M Val} {env : Ev} {p : D → Bool} {f : D → D} {items : List D} (hg : ∀ d, gNm v d env = some (env.set v (.v d))) (hw : ∀ d, wipeE [v] (env.set v (.v d)) = some env) (ht : ∀ d ∈ items, tt (env.set v (.v d)) = .ok (p d) (env.set v (.v d)))
    (he : ∀ d ∈ items, p d = true → me (env.set v (.v d)) = .ok (.d (f d)) (env.set v (.v d))) (hl : items.length ≤ 1000000) : compD [v] (gNm v) tt me items env [] = some ((items.filter p).map f, env) := by
  have h := compD_filt (vs := [v]) (g := gNm v) (tt := tt) (me := me) (p := p) (f := f) (env := env) (items := items) (acc := []) (fun d hd => ⟨_, _, hg d, ht d hd, fun _ => hw d, fun hp => ⟨_, _, _, he d hd hp, rfl, hw d⟩⟩) (by simp only [List.length_nil, line]; omega)
  rw [List.nil_append] at h
  exact h
/-- .. ints -/
theorem compI {v : Nat} {tt : M Bool} {me : M Val} {env : Ev} {p : Int → Bool} {f : Int → D} {ns : List Int} (hg : ∀ d, gNm v d env = some (env.set v (.v d))) (hw : ∀ d, wipeE [v] (env.set v (.v d)) = some env) (ht : ∀ k ∈ ns, tt (env.set v (.v (.int k))) = .ok (p k) (env.set v (.v (.int k))))
    (he : ∀ k ∈ ns, p k = true → me (env.set v (.v (.int k))) = .ok (.d (f k)) (env.set v (.v (.int k)))) (hl : ns.length ≤ 1000000) : compD [v] (gNm v) tt me (ns.map PyData.int) env [] = some ((ns.filter p).map f, env) := by
  have h := compG (v := v) (tt := tt) (me := me) (env := env) (p := fun d => match d with
    | .int k => p k
    | _ => false) (f := fun d => match d with
    | .int k => f k
    | _ => .none) (items := ns.map PyData.int) hg hw (fun d hd => by
      obtain ⟨k, hk, rfl⟩ := List.mem_map.mp hd
      exact ht k hk) (fun d hd hp => by
      obtain ⟨k, hk, rfl⟩ := List.mem_map.mp hd
      exact he k hk hp) (by rw [List.length_map]; exact hl)
  rw [h, List.filter_map, List.map_map]
  rfl
theorem filt_all {α : Type} (l : List α) : l.filter (fun _ => true) = l := List.filter_eq_self.mpr fun _ _ => rfl
/-- .. none left out -/
theorem compGm {v : Nat} {me : M Val} {env : Ev} {f : D → D} {items : List D} (hg : ∀ d, gNm v d env = some (env.set v (.v d))) (hw : ∀ d, wipeE [v] (env.set v (.v d)) = some env)
    (he : ∀ d ∈ items, me (env.set v (.v d)) = .ok (.d (f d)) (env.set v (.v d))) (hl : items.length ≤ 1000000) : compD [v] (gNm v) mYes me items env [] = some (items.map f, env) := by
  rw [compG (tt := mYes) (p := fun _ => true) hg hw (fun _ _ => rfl) (fun d hd _ => he d hd) hl, filt_all]
theorem compIm {v : Nat} {me : M Val} {env : Ev} {f : Int → D} {ns : List Int} (hg : ∀ d, gNm v d env = some (env.set v (.v d))) (hw : ∀ d, wipeE [v] (env.set v (.v d)) = some env)
    (he : ∀ k ∈ ns, me (env.set v (.v (.int k))) = .ok (.d (f k)) (env.set v (.v (.int k)))) (hl : ns.length ≤ 1000000) : compD [v] (gNm v) mYes me (ns.map PyData.int) env [] = some (ns.map f, env) := by
  rw [compI (tt := mYes) (p := fun _ => true) hg hw (fun _ _ => rfl) (fun d hd _ => he d hd) hl, filt_all]
theorem all_true {α : Type} (l : List α) : gAll [.list (l.map fun _ => PyData.bool true)] = some (.d (.bool true)) := by
  have h := o_all (bs := l.map fun _ => true)
  rw [List.map_map] at h
  have e : (l.map fun _ => true).all id = true := by simp
  rw [e] at h
  exact h
theorem yes_ok {env : Ev} : mYes env = .ok true env := rfl
/-- while: a measure, an invariant -/
theorem while_inv {c : M Bool} {b : S} {I : Nat → Ev → Prop} {Z : Ev → Prop} (h : ∀ m env, I m env → (∃ e', c env = .ok false e' ∧ Z e') ∨ ∃ e1 e2 m', c env = .ok true e1 ∧ (b e1 = .nx e2 ∨ b e1 = .ct e2) ∧ m' < m ∧ I m' e2) :
    ∀ m env, I m env → ∃ e', mWhile c b env = .nx e' ∧ Z e' := by
  intro m
  induction m using Nat.strongRecOn with
  | ind m ih =>
    intro env hI
    rw [mWhile_step]
    rcases h m env hI with ⟨e', h1, h2⟩ | ⟨e1, e2, m', h1, h2, h3, h4⟩
    · exact ⟨e', by rw [h1]; rfl, h2⟩
    · obtain ⟨e', h5, h6⟩ := ih m' h3 e2 h4
      refine ⟨e', ?_, h6⟩
      rw [h1]
      show loopO (mWhile c b) (b e1) = _
      rcases h2 with h2 | h2 <;> (rw [h2]; exact h5)
def stepS (g : Tg) (body : S) (d : D) (env : Ev) : Out := (g d env).elim .bad body
theorem forD_cons {g : Tg} {body : S} {d : D} {ds : List D} {env : Ev} : forD g body (d :: ds) env = loopO (forD g body ds) (stepS g body d env) := by
  rw [forD]
  unfold stepS
  cases g d env <;> rfl
theorem forD_nil {g : Tg} {body : S} {env : Ev} : forD g body [] env = .nx env := by rw [forD]
/-- every turn goes on; I by the turn -/
theorem for_all {g : Tg} {body : S} {I : Nat → Ev → Prop} {items : List D} (h : ∀ k d env, items[k]? = some d → I k env → ∃ e', (stepS g body d env = .nx e' ∨ stepS g body d env = .ct e') ∧ I (k + 1) e') {env : Ev} (h0 : I 0 env) : ∃ e', forD g body items env = .nx e' ∧ I items.length e' := by
  have key : ∀ (ds : List D) (k : Nat) (env : Ev), items.drop k = ds → k ≤ items.length → I k env → ∃ e', forD g body ds env = .nx e' ∧ I items.length e' := by
    intro ds
    induction ds with
    | nil =>
      intro k env hd hk hI
      have : k = items.length := by
        have := congrArg List.length hd
        simp at this
        omega
      subst this
      exact ⟨env, forD_nil, hI⟩
    | cons d ds ih =>
      intro k env hd hk hI
      have hlt : k < items.length := by
        have := congrArg List.length hd
        simp at this
        omega
      have hk1 : items[k]? = some d := by
        have := List.drop_eq_getElem_cons hlt
        rw [hd] at this
        injection this with e1 e2
        rw [List.getElem?_eq_getElem hlt, e1]
      have hd2 : items.drop (k + 1) = ds := by
        have := List.drop_eq_getElem_cons hlt
        rw [hd] at this
        injection this with e1 e2
        exact e2.symm
      obtain ⟨e1, hs, hI1⟩ := h k d env hk1 hI
      rw [forD_cons]
      rcases hs with hs | hs <;> rw [hs]
      · exact ih (k + 1) e1 hd2 hlt hI1
      · exact ih (k + 1) e1 hd2 hlt hI1
  exact key items 0 env rfl (Nat.zero_le _) h0
/-- a turn may answer r -/
theorem for_find {g : Tg} {body : S} {I : Ev → Prop} {p : D → Bool} {r : D} {Z : Ev → Prop} : ∀ {items : List D} {env : Ev}, I env → (∀ d ∈ items, ∀ env, I env → (p d = true → ∃ e', (stepS g body d env = .nx e' ∨ stepS g body d env = .ct e') ∧ I e') ∧ (p d = false → ∃ e', stepS g body d env = .rt r e' ∧ Z e')) →
    (items.all p = true → ∃ e', forD g body items env = .nx e' ∧ I e') ∧ (items.all p = false → ∃ e', forD g body items env = .rt r e' ∧ Z e')
  | [], env, hI, _ => ⟨fun _ => ⟨env, forD_nil, hI⟩, fun h => by cases h⟩
  | d :: ds, env, hI, h => by
    obtain ⟨h1, h2⟩ := h d (List.mem_cons_self ..) env hI
    rw [List.all_cons, forD_cons]
    cases hp : p d with
    | true =>
      obtain ⟨e1, hs, hI1⟩ := h1 hp
      have ih := for_find (items := ds) hI1 fun d hd => h d (List.mem_cons_of_mem _ hd)
      rcases hs with hs | hs <;> (rw [hs]; simpa using ih)
    | false =>
      obtain ⟨e1, hs, hZ⟩ := h2 hp
      rw [hs]
      exact ⟨fun z => by simp at z, fun _ => ⟨e1, rfl, hZ⟩⟩
/-- a slot that may be stored into -/
def Fr (s : Sl) : Prop := s = .no ∨ ∃ d, s = .v d
theorem Fr.d {s : Sl} (h : Fr s) {i : Nat} {env : Ev} {d : D} : stoS (some s) i env (.d d) = some (env.set i (.v d)) := by
  rcases h with rfl | ⟨x, rfl⟩ <;> rfl
theorem Fr.f {s : Sl} (h : Fr s) {i : Nat} {env : Ev} {c : Cl} : stoS (some s) i env (.f c) = some (env.set i (.o c)) := by
  rcases h with rfl | ⟨x, rfl⟩ <;> rfl
theorem Fr.no : Fr .no := .inl rfl
theorem Fr.c {s : Sl} (h : Fr s) : clr s = s := by
  rcases h with rfl | ⟨d, rfl⟩ <;> rfl
theorem Fr.v {d : D} : Fr (.v d) := .inr ⟨d, rfl⟩
/-- or holds a list of its own -/
def Fo' (s : Sl) : Prop := Fr s ∨ ∃ c, s = .o c
theorem Fo'.d {s : Sl} (h : Fo' s) {i : Nat} {env : Ev} {d : D} : stoS (some s) i env (.d d) = some (env.set i (.v d)) := by
  rcases h with h | ⟨x, rfl⟩
  · exact h.d
  · rfl
theorem Fo'.f {s : Sl} (h : Fo' s) {i : Nat} {env : Ev} {c : Cl} : stoS (some s) i env (.f c) = some (env.set i (.o c)) := by
  rcases h with h | ⟨x, rfl⟩
  · exact h.f
  · rfl
theorem Fo'.no : Fo' .no := .inl .no
theorem Fo'.v {d : D} : Fo' (.v d) := .inl .v
theorem Fo'.o {c : Cl} : Fo' (.o c) := .inr ⟨c, rfl⟩
theorem rngD_get {lo hi : Int} {k : Nat} {d : D} (h : (rngD lo hi)[k]? = some d) : d = .int (lo + (k : Nat)) ∧ lo + (k : Nat) < hi := by
  have hl : k < (hi - lo).toNat := by simpa [rngD] using (List.getElem?_eq_some_iff.mp h).1
  simp [rngD, hl] at h
  exact ⟨h.symm, by omega⟩
theorem rngD_mem {lo hi : Int} {d : D} (h : d ∈ rngD lo hi) : ∃ i : Int, d = .int i ∧ lo ≤ i ∧ i < hi := by
  unfold rngD at h
  obtain ⟨k, hk, rfl⟩ := List.mem_map.mp h
  have := List.mem_range.mp hk
  exact ⟨_, rfl, by omega, by omega⟩
theorem rngD_len {lo hi : Int} : (rngD lo hi).length = (hi - lo).toNat := by simp [rngD]

/-! ### isinstance -/
def isIB : D → Bool
  | .int _ => true
  | .bool _ => true
  | _ => false
def isBo : D → Bool
  | .bool _ => true
  | _ => false
def isTu : D → Bool
  | .tuple _ => true
  | _ => false
def isLi : D → Bool
  | .list _ => true
  | _ => false
def isSt : D → Bool
  | .str _ => true
  | _ => false
def isDi : D → Bool
  | .dict _ => true
  | _ => false
def isW : D → Bool
  | .int _ => true
  | _ => false
theorem k_int {d : D} : gIsi "int" d = some (.d (.bool (isIB d))) := by
  cases d <;> (unfold gIsi tyN; first | rw [show kitB "NoneType" "int" = some false by decide +kernel] | rw [show kitB "bool" "int" = some true by decide +kernel] | rw [show kitB "int" "int" = some true by decide +kernel] | rw [show kitB "str" "int" = some false by decide +kernel] | rw [show kitB "list" "int" = some false by decide +kernel] | rw [show kitB "tuple" "int" = some false by decide +kernel] | rw [show kitB "dict" "int" = some false by decide +kernel]) <;> rfl
theorem k_bool {d : D} : gIsi "bool" d = some (.d (.bool (isBo d))) := by
  cases d <;> (unfold gIsi tyN; first | rw [show kitB "NoneType" "bool" = some false by decide +kernel] | rw [show kitB "bool" "bool" = some true by decide +kernel] | rw [show kitB "int" "bool" = some false by decide +kernel] | rw [show kitB "str" "bool" = some false by decide +kernel] | rw [show kitB "list" "bool" = some false by decide +kernel] | rw [show kitB "tuple" "bool" = some false by decide +kernel] | rw [show kitB "dict" "bool" = some false by decide +kernel]) <;> rfl
theorem k_tuple {d : D} : gIsi "tuple" d = some (.d (.bool (isTu d))) := by
  cases d <;> (unfold gIsi tyN; first | rw [show kitB "NoneType" "tuple" = some false by decide +kernel] | rw [show kitB "bool" "tuple" = some false by decide +kernel] | rw [show kitB "int" "tuple" = some false by decide +kernel] | rw [show kitB "str" "tuple" = some false by decide +kernel] | rw [show kitB "list" "tuple" = some false by decide +kernel] | rw [show kitB "tuple" "tuple" = some true by decide +kernel] | rw [show kitB "dict" "tuple" = some false by decide +kernel]) <;> rfl
theorem k_list {d : D} : gIsi "list" d = some (.d (.bool (isLi d))) := by
  cases d <;> (unfold gIsi tyN; first | rw [show kitB "NoneType" "list" = some false by decide +kernel] | rw [show kitB "bool" "list" = some false by decide +kernel] | rw [show kitB "int" "list" = some false by decide +kernel] | rw [show kitB "str" "list" = some false by decide +kernel] | rw [show kitB "list" "list" = some true by decide +kernel] | rw [show kitB "tuple" "list" = some false by decide +kernel] | rw [show kitB "dict" "list" = some false by decide +kernel]) <;> rfl
theorem k_str {d : D} : gIsi "str" d = some (.d (.bool (isSt d))) := by
  cases d <;> (unfold gIsi tyN; first | rw [show kitB "NoneType" "str" = some false by decide +kernel] | rw [show kitB "bool" "str" = some false by decide +kernel] | rw [show kitB "int" "str" = some false by decide +kernel] | rw [show kitB "str" "str" = some true by decide +kernel] | rw [show kitB "list" "str" = some false by decide +kernel] | rw [show kitB "tuple" "str" = some false by decide +kernel] | rw [show kitB "dict" "str" = some false by decide +kernel]) <;> rfl
theorem rb_n2 {i lo hi : Int} : rngB true true (.int i) [.int lo, .int hi] = some (!decide (lo ≤ i ∧ i < hi)) := by simp [rngB]
theorem rb_p2 {i lo hi : Int} : rngB false true (.int i) [.int lo, .int hi] = some (decide (lo ≤ i ∧ i < hi)) := by simp [rngB]
theorem rb_n1 {i hi : Int} : rngB true false (.int i) [.int hi] = some (!decide (0 ≤ i ∧ i < hi)) := by simp [rngB]
theorem rb_p1 {i hi : Int} : rngB false false (.int i) [.int hi] = some (decide (0 ≤ i ∧ i < hi)) := by simp [rngB]
theorem nd1 {i : Nat} : [i].Nodup := by simp
theorem nd2 {i j : Nat} (h : i ≠ j) : [i, j].Nodup := by simp [h]
theorem nd3 {i j k : Nat} (h : i ≠ j) (h2 : i ≠ k) (h3 : j ≠ k) : [i, j, k].Nodup := by simp [h, h2, h3]
theorem isW_eq (d : D) : (isIB d && !isBo d) = isW d := by cases d <;> rfl
end Nb
namespace Nb
open L2 PySem PySem.Spec PyProof.Rows

theorem cast_lit {n : Nat} : ((no_index (OfNat.ofNat n : Nat) : Nat) : Int) = OfNat.ofNat n := rfl
/-! ### rows of ints, houses -/
abbrev tupI (ns : List Int) : D := .tuple (ns.map PyData.int)
abbrev housD (hs : List (List Int)) : D := .tuple (hs.map tupI)
theorem pick_ints {ns : List Int} {i : Int} (h0 : 0 ≤ i) (h1 : i < ns.length) : pick (ns.map PyData.int) i = .int (ns.getD i.toNat 0) := by
  have h := pick_get (xs := ns.map PyData.int) h0 (by rw [List.length_map]; exact h1)
  rw [List.getElem?_map] at h
  have hl : i.toNat < ns.length := by omega
  rw [List.getElem?_eq_getElem hl] at h
  rw [List.getD_eq_getElem?_getD, List.getElem?_eq_getElem hl]
  exact (Option.some.inj h).symm
theorem pick_rows {hs : List (List Int)} {i : Int} (h0 : 0 ≤ i) (h1 : i < hs.length) : pick (hs.map tupI) i = tupI (hs.getD i.toNat []) := by
  have h := pick_get (xs := hs.map tupI) h0 (by rw [List.length_map]; exact h1)
  rw [List.getElem?_map] at h
  have hl : i.toNat < hs.length := by omega
  rw [List.getElem?_eq_getElem hl] at h
  rw [List.getD_eq_getElem?_getD, List.getElem?_eq_getElem hl]
  exact (Option.some.inj h).symm
theorem sIx_pos {n e : Nat} {k : Int} (h0 : 0 ≤ k) : HT.sIx n e (some k) = min k.toNat n := by
  obtain ⟨j, rfl⟩ := Int.eq_ofNat_of_zero_le h0
  exact HT.sIx_nat n e j
theorem cut_to {ds : List D} {k : Int} (h0 : 0 ≤ k) (h1 : k ≤ ds.length) : cutD ds none (some k) = ds.take k.toNat := by
  unfold cutD
  rw [sIx_pos h0, HT.sIx_none, List.drop_zero, Nat.sub_zero, Nat.min_eq_left (by omega)]
theorem cut_from {ds : List D} {k : Int} (h0 : 0 ≤ k) (h1 : k ≤ ds.length) : cutD ds (some k) none = ds.drop k.toNat := by
  unfold cutD
  rw [sIx_pos h0, HT.sIx_none, Nat.min_eq_left (by omega)]
  exact List.take_of_length_le (by rw [List.length_drop]; omega)
theorem take_set_drop {α : Type} {xs : List α} {k : Nat} {x : α} (h : k < xs.length) : xs.take k ++ [x] ++ xs.drop (k + 1) = xs.set k x := by
  rw [List.set_eq_take_append_cons_drop, if_pos h]
  simp
theorem ints_set {ns : List Int} {k : Nat} {x : Int} : (ns.map PyData.int).set k (.int x) = (ns.set k x).map PyData.int := by rw [List.map_set]
/-! ### == of data -/
mutual
theorem eqv_self : ∀ {d : D}, d.plain = true → PyData.eqv d d = true
  | .none, _ => by simp [PyData.eqv]
  | .bool _, _ => by simp [PyData.eqv]
  | .int _, _ => by simp [PyData.eqv]
  | .str _, _ => by simp [PyData.eqv]
  | .list ds, h => by simp only [PyData.eqv]; exact eqvAll_self (by simpa [PyData.plain] using h)
  | .tuple ds, h => by simp only [PyData.eqv]; exact eqvAll_self (by simpa [PyData.plain] using h)
  | .dict _, h => by cases h
theorem eqvAll_self : ∀ {ds : List D}, PyData.plainAll ds = true → PyData.eqvAll ds ds = true
  | [], _ => by simp [PyData.eqvAll]
  | d :: ds, h => by
    have h' : d.plain = true ∧ PyData.plainAll ds = true := by simpa [PyData.plainAll] using h
    simp only [PyData.eqvAll, eqv_self h'.1, eqvAll_self h'.2, Bool.and_self]
end
theorem plain_ints : ∀ (ns : List Int), PyData.plainAll (ns.map PyData.int) = true
  | [] => by simp [PyData.plainAll]
  | n :: ns => by simp [PyData.plainAll, PyData.plain, plain_ints ns]
theorem plain_tupI (ns : List Int) : (tupI ns).plain = true := by simp [PyData.plain, plain_ints]
theorem plain_rows : ∀ (hs : List (List Int)), PyData.plainAll (hs.map tupI) = true
  | [] => by simp [PyData.plainAll]
  | r :: hs => by
    rw [List.map_cons, PyData.plainAll, plain_tupI, plain_rows hs]
    rfl
theorem depth_ints : ∀ (ns : List Int), PyData.depthAll (ns.map PyData.int) ≤ 0
  | [] => by simp [PyData.depthAll]
  | n :: ns => by
    have := depth_ints ns
    simp only [List.map_cons, PyData.depthAll, PyData.depth]
    omega
theorem depth_tupI (ns : List Int) : (tupI ns).depth ≤ 1 := by
  have := depth_ints ns
  simp only [PyData.depth]
  omega
theorem depth_rows : ∀ (hs : List (List Int)), PyData.depthAll (hs.map tupI) ≤ 1
  | [] => by simp [PyData.depthAll]
  | r :: hs => by
    have h1 := depth_rows hs
    have h2 := depth_tupI r
    rw [List.map_cons, PyData.depthAll]
    omega
theorem eqv_ints : ∀ (ns ms : List Int), PyData.eqvAll (ns.map PyData.int) (ms.map PyData.int) = decide (ns = ms)
  | [], [] => by simp [PyData.eqvAll]
  | [], _ :: _ => by simp [PyData.eqvAll]
  | _ :: _, [] => by simp [PyData.eqvAll]
  | n :: ns, m :: ms => by
    simp only [List.map_cons, PyData.eqvAll, PyData.eqv, eqv_ints ns ms]
    by_cases h1 : n = m <;> by_cases h2 : ns = ms <;> simp [h1, h2]
theorem o_eqT {ns ms : List Int} : gEq (.tuple (ns.map PyData.int)) (.tuple (ms.map PyData.int)) = some (.d (.bool (decide (ns = ms)))) := by
  have h := depth_tupI ns
  rw [o_eq (plain_tupI ns) (plain_tupI ms) (by omega)]
  simp only [PyData.eqv, eqv_ints]
theorem o_neT {ns ms : List Int} : gNe (.tuple (ns.map PyData.int)) (.tuple (ms.map PyData.int)) = some (.d (.bool (!decide (ns = ms)))) := by
  have h := depth_tupI ns
  rw [o_ne (plain_tupI ns) (plain_tupI ms) (by omega)]
  simp only [PyData.eqv, eqv_ints]
theorem eqv_rows : ∀ (hs ks : List (List Int)), PyData.eqvAll (hs.map tupI) (ks.map tupI) = decide (hs = ks)
  | [], [] => by simp [PyData.eqvAll]
  | [], _ :: _ => by simp [PyData.eqvAll]
  | _ :: _, [] => by simp [PyData.eqvAll]
  | n :: ns, m :: ms => by
    simp only [List.map_cons, PyData.eqvAll, PyData.eqv, eqv_rows ns ms, eqv_ints n m]
    by_cases h1 : n = m <;> by_cases h2 : ns = ms <;> simp [h1, h2]
theorem o_eqR {hs ks : List (List Int)} : gEq (.tuple (hs.map tupI)) (.tuple (ks.map tupI)) = some (.d (.bool (decide (hs = ks)))) := by
  have h := depth_rows hs
  rw [o_eq (by simp [PyData.plain, plain_rows]) (by simp [PyData.plain, plain_rows]) (by simp only [PyData.depth]; omega)]
  simp only [PyData.eqv, eqv_rows]
theorem o_neR {hs ks : List (List Int)} : gNe (.tuple (hs.map tupI)) (.tuple (ks.map tupI)) = some (.d (.bool (!decide (hs = ks)))) := by
  have h := depth_rows hs
  rw [o_ne (by simp [PyData.plain, plain_rows]) (by simp [PyData.plain, plain_rows]) (by simp only [PyData.depth]; omega)]
  simp only [PyData.eqv, eqv_rows]
theorem any_int {k : Int} : ∀ ns : List Int, ((ns.map PyData.int).any fun z => PyData.eqv z (.int k)) = decide (k ∈ ns)
  | [] => by simp
  | n :: ns => by
    rw [List.map_cons, List.any_cons, any_int ns]
    simp only [PyData.eqv]
    by_cases h1 : n = k
    · subst h1; simp
    · have h2 : ¬ k = n := fun z => h1 z.symm
      simp [h1, h2]
theorem o_inI {neg : Bool} {k : Int} {ns : List Int} : gIn neg (.int k) (.list (ns.map PyData.int)) = some (.d (.bool (neg != decide (k ∈ ns)))) := by
  show (if (PyData.int k).plain = true ∧ PyData.plainAll (ns.map PyData.int) = true ∧ (PyData.int k).depth ≤ 60 then some (Val.d (.bool (if neg then !((ns.map PyData.int).any fun z => PyData.eqv z (.int k)) else (ns.map PyData.int).any fun z => PyData.eqv z (.int k)))) else none) = _
  rw [if_pos ⟨rfl, plain_ints ns, by simp [PyData.depth]⟩, any_int]
  cases neg <;> simp
theorem o_inIT {neg : Bool} {k : Int} {ns : List Int} : gIn neg (.int k) (.tuple (ns.map PyData.int)) = some (.d (.bool (neg != decide (k ∈ ns)))) := by
  show (if (PyData.int k).plain = true ∧ PyData.plainAll (ns.map PyData.int) = true ∧ (PyData.int k).depth ≤ 60 then some (Val.d (.bool (if neg then !((ns.map PyData.int).any fun z => PyData.eqv z (.int k)) else (ns.map PyData.int).any fun z => PyData.eqv z (.int k)))) else none) = _
  rw [if_pos ⟨rfl, plain_ints ns, by simp [PyData.depth]⟩, any_int]
  cases neg <;> simp
theorem o_sortU {ns : List Int} (h : ns.length < 64) : gSortU [.tuple (ns.map PyData.int)] = some (.f (.lst ((sortU ns).map PyData.int))) := by
  unfold gSortU
  simp only [intsOf_map, Option.bind_some]
  rw [if_pos h]
def srt (l : List Int) : List Int := l.mergeSort fun a b => decide (a ≤ b)
theorem mem_srt {l : List Int} {p : Int} : p ∈ srt l ↔ p ∈ l := List.mem_mergeSort
theorem srt_len {l : List Int} : (srt l).length = l.length := List.length_mergeSort ..
theorem o_sortT {ns : List Int} : gSortA [.tuple (ns.map PyData.int)] = some (.f (.lst ((srt ns).map PyData.int))) := by
  unfold srt
  simp only [gSortA, intsOf_map, Option.map_some]
theorem o_sorted {ns : List Int} : gSorted [.list (ns.map PyData.int)] = some (.f (.lst ((srt ns).map PyData.int))) := by
  unfold srt
  simp only [gSorted, intsOf_map, Option.map_some]
/-- no more than there are -/
theorem nodup_le : ∀ (N : Nat) (l : List Nat), l.Nodup → (∀ x ∈ l, x < N) → l.length ≤ N
  | 0, l, _, h => by
    cases l with
    | nil => simp
    | cons x l => exact absurd (h x (List.mem_cons_self ..)) (Nat.not_lt_zero _)
  | N + 1, l, hn, h => by
    have ih := nodup_le N (l.erase N) (hn.erase N) (fun x hx => by
      obtain ⟨h1, h2⟩ := (hn.mem_erase_iff).mp hx
      have := h x h2
      omega)
    have := List.length_erase (a := N) (l := l)
    split at this <;> omega
theorem nodup_int {lo : Int} {N : Nat} {l : List Int} (hn : l.Nodup) (h : ∀ x ∈ l, lo ≤ x ∧ x < lo + N) : l.length ≤ N := by
  have h1 : (l.map fun x => (x - lo).toNat).Nodup := by
    refine List.pairwise_map.mpr (hn.imp_of_mem fun {a b} ha hb hab => ?_)
    have := h a ha
    have := h b hb
    intro e
    exact hab (by omega)
  have := nodup_le N _ h1 fun x hx => by
    obtain ⟨y, hy, rfl⟩ := List.mem_map.mp hx
    have := h y hy
    omega
  rw [List.length_map] at this
  exact this
theorem o_eqL {ns ms : List Int} : gEq (.list (ns.map PyData.int)) (.list (ms.map PyData.int)) = some (.d (.bool (decide (ns = ms)))) := by
  have h := depth_ints ns
  unfold gEq
  rw [if_pos ⟨by simp [PyData.plain, plain_ints], by simp [PyData.plain, plain_ints], by simp only [PyData.depth]; omega⟩]
  simp only [PyData.eqv, eqv_ints]
theorem o_neL {ns ms : List Int} : gNe (.list (ns.map PyData.int)) (.list (ms.map PyData.int)) = some (.d (.bool (!decide (ns = ms)))) := by
  have h := depth_ints ns
  unfold gNe
  rw [if_pos ⟨by simp [PyData.plain, plain_ints], by simp [PyData.plain, plain_ints], by simp only [PyData.depth]; omega⟩]
  simp only [PyData.eqv, eqv_ints]
theorem o_neL0 {ns : List Int} : gNe (.list (ns.map PyData.int)) (.list []) = some (.d (.bool (!decide (ns = [])))) := o_neL (ms := [])
theorem o_eqT0 {ns : List Int} : gEq (.tuple (ns.map PyData.int)) (.tuple []) = some (.d (.bool (decide (ns = [])))) := o_eqT (ms := [])
theorem o_pop {ws : List Int} {q : Int} : fPop ((ws ++ [q]).map PyData.int) [] = some (.int q, ws.map PyData.int) := by
  show ((((ws ++ [q]).map PyData.int)[((ws ++ [q]).map PyData.int).length - 1]?).map fun d => (d, ((ws ++ [q]).map PyData.int).dropLast)) = _
  rw [List.map_append, List.length_append, List.map_cons, List.map_nil, List.dropLast_concat]
  simp
abbrev keysI (T : List Int) : List Key := T.map Sum.inl
abbrev trues (T : List Int) : List D := T.map fun _ => .bool true
theorem memK_T {k : Int} : ∀ T : List Int, memK (keysI T) (.inl k) = decide (k ∈ T)
  | [] => rfl
  | x :: T => by
    rw [keysI, List.map_cons, memK_cons, memK_T T]
    by_cases e : x = k
    · subst e; simp
    · have e2 : ¬ k = x := fun z => e z.symm
      have e3 : ¬ (Sum.inl x : Key) = Sum.inl k := fun z => e (Sum.inl.inj z)
      simp [e2, e3]
theorem hasK_T {k : Int} {T : List Int} : hasK ((List.map keyD (keysI T)).zip (trues T)) (.inl k) = decide (k ∈ T) := by
  rw [hasK_zip (by simp), memK_T]
theorem putK_T {k : Int} {T : List Int} (h : k ∉ T) : putKs (keysI T) (trues T) (.inl k) (.bool true) = .dct (keysI (T ++ [k])) (trues (T ++ [k])) := by
  unfold putKs
  rw [if_neg (by rw [memK_T]; simpa using h)]
  simp
theorem keys_back {T : List Int} : (keysI T).map keyD = T.map PyData.int := by
  rw [keysI, List.map_map]; rfl
theorem o_neb {a b : Bool} : gNe (.bool a) (.bool b) = some (.d (.bool (!decide (a = b)))) := by
  simp only [gEq, gNe, PyData.plain, PyData.depth, PyData.eqv, Nat.zero_le, and_self, if_true]
  rfl
theorem all_map' {ds : List D} {p : D → Bool} : gAll [.list (ds.map fun d => .bool (p d))] = some (.d (.bool (ds.all p))) := by
  rw [show (ds.map fun d => PyData.bool (p d)) = (ds.map p).map PyData.bool by rw [List.map_map]; rfl, o_all]
  simp
/-- a list of data that are ints -/
theorem to_ints : ∀ {ys : List D}, (∀ y ∈ ys, ∃ n : Int, y = .int n) → ∃ ns : List Int, ys = ns.map PyData.int
  | [], _ => ⟨[], rfl⟩
  | y :: ys, h => by
    obtain ⟨n, rfl⟩ := h y (List.mem_cons_self ..)
    obtain ⟨ns, rfl⟩ := to_ints (ys := ys) fun y hy => h y (List.mem_cons_of_mem _ hy)
    exact ⟨n :: ns, rfl⟩
theorem to_rows {P : List Int → Prop} : ∀ {ys : List D}, (∀ y ∈ ys, ∃ ns : List Int, y = tupI ns ∧ P ns) → ∃ hs : List (List Int), ys = hs.map tupI ∧ ∀ r ∈ hs, P r
  | [], _ => ⟨[], rfl, fun r h => nomatch h⟩
  | y :: ys, h => by
    obtain ⟨n, rfl, hn⟩ := h y (List.mem_cons_self ..)
    obtain ⟨ns, rfl, hs⟩ := to_rows (ys := ys) fun y hy => h y (List.mem_cons_of_mem _ hy)
    refine ⟨n :: ns, rfl, fun r hr => ?_⟩
    cases hr with
    | head => exact hn
    | tail _ hr => exact hs r hr
theorem getD_mem {α : Type} {xs : List α} {k : Nat} {d : α} (h : k < xs.length) : xs.getD k d ∈ xs := by
  rw [List.getD_eq_getElem?_getD, List.getElem?_eq_getElem h]
  exact List.getElem_mem h
/-! ### sorted lists, counts -/
theorem srt_sorted (l : List Int) : (srt l).Pairwise (· ≤ ·) := by
  have z := List.pairwise_mergeSort (le := fun a b : Int => decide (a ≤ b)) (fun a b c h1 h2 => by simp at h1 h2 ⊢; omega) (fun a b => by simp; omega) l
  exact z.imp fun h => by simpa using h
theorem sort_uniq {l m : List Int} (h1 : l.Nodup) (h2 : m.Nodup) (h : ∀ p, p ∈ l ↔ p ∈ m) : srt l = srt m :=
  sort_unique ((List.mergeSort_perm l _).trans ((List.perm_ext_iff_of_nodup h1 h2).mpr h)) (srt_sorted l)
theorem sort_filter {l : List Int} {p : Int → Bool} : (srt l).filter p = srt (l.filter p) :=
  sort_unique ((List.mergeSort_perm l _).filter p) ((srt_sorted l).filter p)
theorem cnt_ints {k : Int} : ∀ ns : List Int, ((ns.map PyData.int).countP fun y => PyData.eqv y (.int k)) = ns.count k
  | [] => rfl
  | n :: ns => by
    rw [List.map_cons, List.countP_cons, List.count_cons, cnt_ints ns]
    simp [PyData.eqv]
theorem idx_ints {k : Int} : ∀ {ns : List Int}, k ∈ ns → ((ns.map PyData.int).findIdx? fun y => PyData.eqv y (.int k)) = some (ns.idxOf k)
  | [], h => by cases h
  | n :: ns, h => by
    rw [List.map_cons, List.findIdx?_cons, List.idxOf_cons]
    by_cases e : n = k
    · subst e; simp [PyData.eqv]
    · have hk : k ∈ ns := by
        rcases List.mem_cons.mp h with h | h
        · exact absurd h.symm e
        · exact h
      have : PyData.eqv (.int n) (.int k) = false := by simp [PyData.eqv, e]
      rw [this, idx_ints hk]
      have : (n == k) = false := by simpa using e
      simp [this]
theorem o_cntT {ns : List Int} {k : Int} : datS dCnt (.tuple (ns.map PyData.int)) (.int k) = some (.int (ns.count k : Nat)) := by
  unfold datS itemsK dCnt
  rw [if_pos ⟨plain_ints ns, rfl, Nat.zero_le _⟩, cnt_ints]
theorem o_cntL {ns : List Int} {k : Int} : datS dCnt (.list (ns.map PyData.int)) (.int k) = some (.int (ns.count k : Nat)) := by
  unfold datS itemsK dCnt
  rw [if_pos ⟨plain_ints ns, rfl, Nat.zero_le _⟩, cnt_ints]
theorem o_idxL {ns : List Int} {k : Int} (h : k ∈ ns) : datS dIdx (.list (ns.map PyData.int)) (.int k) = some (.int (ns.idxOf k : Nat)) := by
  unfold datS itemsK dIdx
  rw [if_pos ⟨plain_ints ns, rfl, Nat.zero_le _⟩, idx_ints h]
  rfl
theorem ints_rev {ns : List Int} : (ns.map PyData.int).reverse = ns.reverse.map PyData.int := by rw [List.map_reverse]
end Nb
namespace Nb
open L2 PySem PySem.Spec PyProof.Rows
def topS (i : Nat) : Stmt := PySem.Challenge.pw_turnarrows_k25_rounds_walked.main.body.getD i (.Pass ⟨0, 0, 0, 0⟩)
theorem sc0 : FnScope ["thing"] ["thing"] (defScope (topS 6)) := ⟨rfl, rfl, rfl, by decide +kernel, rfl, by decide +kernel, by decide +kernel⟩
theorem sc1 : FnScope ["thing", "many"] ["thing", "many"] (defScope (topS 7)) := ⟨rfl, rfl, rfl, by decide +kernel, rfl, by decide +kernel, by decide +kernel⟩
theorem sc2 : FnScope ["house", "room"] ["house", "room"] (defScope (topS 9)) := ⟨rfl, rfl, rfl, by decide +kernel, rfl, by decide +kernel, by decide +kernel⟩
theorem sc3 : FnScope ["house", "room"] ["house"] (defScope (topS 10)) := ⟨rfl, rfl, rfl, by decide +kernel, rfl, by decide +kernel, by decide +kernel⟩
theorem sc4 : FnScope ["house", "thing", "one", "room"] ["house", "thing"] (defScope (topS 12)) := ⟨rfl, rfl, rfl, by decide +kernel, rfl, by decide +kernel, by decide +kernel⟩
theorem sc5 : FnScope ["house", "arrows"] ["house", "arrows"] (defScope (topS 13)) := ⟨rfl, rfl, rfl, by decide +kernel, rfl, by decide +kernel, by decide +kernel⟩
theorem sc6 : FnScope ["house", "arrows", "room", "door", "later"] ["house", "arrows", "room"] (defScope (topS 15)) := ⟨rfl, rfl, rfl, by decide +kernel, rfl, by decide +kernel, by decide +kernel⟩
theorem sc7 : FnScope ["house", "arrows", "room"] ["house", "arrows", "room"] (defScope (topS 16)) := ⟨rfl, rfl, rfl, by decide +kernel, rfl, by decide +kernel, by decide +kernel⟩
theorem sc8 : FnScope ["house", "arrows", "room"] ["house", "arrows", "room"] (defScope (topS 18)) := ⟨rfl, rfl, rfl, by decide +kernel, rfl, by decide +kernel, by decide +kernel⟩
theorem sc9 : FnScope ["house", "arrows", "room", "seen", "many", "ahead"] ["house", "arrows", "room"] (defScope (topS 19)) := ⟨rfl, rfl, rfl, by decide +kernel, rfl, by decide +kernel, by decide +kernel⟩
theorem sc10 : FnScope ["script", "k"] ["script", "k"] (defScope (topS 21)) := ⟨rfl, rfl, rfl, by decide +kernel, rfl, by decide +kernel, by decide +kernel⟩
theorem sc11 : FnScope ["cell", "left"] ["cell"] (defScope (topS 22)) := ⟨rfl, rfl, rfl, by decide +kernel, rfl, by decide +kernel, by decide +kernel⟩
theorem sc12 : FnScope ["pen", "many", "left", "found", "stir"] ["pen", "many"] (defScope (topS 23)) := ⟨rfl, rfl, rfl, by decide +kernel, rfl, by decide +kernel, by decide +kernel⟩
theorem sc13 : FnScope ["thing"] ["thing"] (defScope (topS 24)) := ⟨rfl, rfl, rfl, by decide +kernel, rfl, by decide +kernel, by decide +kernel⟩
theorem sc14 : FnScope ["pen", "most", "doors", "many", "house", "room", "wide", "some", "door"] ["pen", "most", "doors"] (defScope (topS 25)) := ⟨rfl, rfl, rfl, by decide +kernel, rfl, by decide +kernel, by decide +kernel⟩
theorem sc15 : FnScope ["pen", "house", "doors"] ["pen", "house"] (defScope (topS 26)) := ⟨rfl, rfl, rfl, by decide +kernel, rfl, by decide +kernel, by decide +kernel⟩
theorem sc16 : FnScope ["house", "arrows", "room", "door", "later"] ["house", "arrows", "room"] (defScope (topS 27)) := ⟨rfl, rfl, rfl, by decide +kernel, rfl, by decide +kernel, by decide +kernel⟩
theorem sc17 : FnScope ["found", "due", "one"] ["found", "due"] (defScope (topS 28)) := ⟨rfl, rfl, rfl, by decide +kernel, rfl, by decide +kernel, by decide +kernel⟩
theorem sc18 : FnScope ["house", "arrows", "room", "seen", "states", "ahead"] ["house", "arrows", "room"] (defScope (topS 29)) := ⟨rfl, rfl, rfl, by decide +kernel, rfl, by decide +kernel, by decide +kernel⟩
theorem sc19 : FnScope ["house", "arrows", "room", "ahead", "many", "states", "turn"] ["house", "arrows", "room"] (defScope (topS 30)) := ⟨rfl, rfl, rfl, by decide +kernel, rfl, by decide +kernel, by decide +kernel⟩
theorem sc20 : FnScope ["script", "cell", "pen", "house", "arrows", "room"] ["script"] (defScope (topS 31)) := ⟨rfl, rfl, rfl, by decide +kernel, rfl, by decide +kernel, by decide +kernel⟩
/-- is_whole -/
noncomputable def d0 : Fn := fnDen 1 1
  (mRet (mAndV (m1 (gIsi "int") (mVar 0)) (mNotV (m1 (gIsi "bool") (mVar 0)))))
/-- is_number_of -/
noncomputable def d1 : Fn := fnDen 2 2
  (mRet (mAndV (mF d0 [false] (mCons (mVar 0) mNil)) (m3 gLe gLt (mC (.int 0)) (mVar 0) (mVar 1))))
/-- check_room -/
noncomputable def d2 : Fn := fnDen 2 2
  (mIfS (mNot (toB (mF d1 [false, false] (mCons (mVar 1) (mCons (mA gLen (mCons (mVar 0) mNil)) mNil)))))
  mBad
  mNop)
noncomputable def d3e0 : M Val := (m2 gGe (mA gMinA (mCons (mVar 1) mNil)) (mC (.int 0)))
/-- is_shut -/
noncomputable def d3 : Fn := fnDen 1 2
  (mRet (mA gAll (mCons (mLc [1] (mItems (mVar 0)) (gNm 1) mYes d3e0) mNil)))
noncomputable def d4e0 : M Val := (mF d1 [false, false] (mCons (mVar 2) (mCons (mA gLen (mCons (mVar 3) mNil)) mNil)))
/-- is_arrows -/
noncomputable def d4 : Fn := fnDen 2 4
  (mSeq (mIfS (mOr (mNot (toB (m1 (gIsi "tuple") (mVar 1)))) (toB (m2 gNe (mA gLen (mCons (mVar 1) mNil)) (mA gLen (mCons (mVar 0) mNil)))))
  (mRet (mC (.bool false)))
  mNop)
  (mRet (mA gAll (mCons (mLc [2, 3] (mZipM (mCons (mVar 1) (mCons (mVar 0) mNil))) (gTp 2 (gsCons (gNm 2) (gsCons (gNm 3) gsNil))) mYes d4e0) mNil))))
/-- check_arrows -/
noncomputable def d5 : Fn := fnDen 2 2
  (mIfS (mNot (toB (mF d4 [false, false] (mCons (mVar 0) (mCons (mVar 1) mNil)))))
  mBad
  mNop)
/-- stepped -/
noncomputable def d6 : Fn := fnDen 3 5
  (mSeq (mSet 3 (m2 gIx (mVar 1) (mVar 2)))
  (mSeq (mSet 4 (m2 gAdd (m2 gAdd (mSl (mVar 1) none (some (mVar 2))) (mTup (mCons (m2 gMod (m2 gAdd (mVar 3) (mC (.int 1))) (mA gLen (mCons (m2 gIx (mVar 0) (mVar 2)) mNil))) mNil))) (mSl (mVar 1) (some (m2 gAdd (mVar 2) (mC (.int 1)))) none)))
  (mRet (mTup (mCons (mVar 4) (mCons (m2 gIx (m2 gIx (mVar 0) (mVar 2)) (mVar 3)) mNil))))))
/-- need_state -/
noncomputable def d7 : Fn := fnDen 3 3
  (mSeq (mExpr (mF d5 [false, false] (mCons (mVar 0) (mCons (mVar 1) mNil))))
  (mExpr (mF d2 [false, false] (mCons (mVar 0) (mCons (mVar 2) mNil)))))
/-- need_round -/
noncomputable def d8 : Fn := fnDen 3 3
  (mSeq (mExpr (mF d7 [false, false, false] (mCons (mVar 0) (mCons (mVar 1) (mCons (mVar 2) mNil)))))
  (mIfS (mNot (toB (mF d3 [false] (mCons (mVar 0) mNil))))
  mBad
  mNop))
noncomputable def d9b0 : S := (mSeq (mAsg (gPutN 3 (mTup (mCons (mVar 1) (mCons (mVar 2) mNil)))) (mVar 4))
  (mSeq (mAsg (gTp 2 (gsCons (gNm 1) (gsCons (gNm 2) gsNil))) (mF d6 [false, false, false] (mCons (mVar 0) (mCons (mVar 1) (mCons (mVar 2) mNil)))))
  (mSet 4 (m2 gAdd (mVar 4) (mC (.int 1))))))
noncomputable def d9t0 : M Bool := (toB (mInN true 3 (mTup (mCons (mVar 1) (mCons (mVar 2) mNil)))))
/-- round_of -/
noncomputable def d9 : Fn := fnDen 3 6
  (mSeq (mExpr (mF d8 [false, false, false] (mCons (mVar 0) (mCons (mVar 1) (mCons (mVar 2) mNil)))))
  (mSeq (mSetN 3)
  (mSeq (mSet 4 (mC (.int 0)))
  (mSeq (mWhile d9t0 d9b0)
  (mSeq (mSet 5 (mIxN 3 (mTup (mCons (mVar 1) (mCons (mVar 2) mNil)))))
  (mRet (mTup (mCons (mVar 5) (mCons (m2 gSub (mVar 4) (mVar 5)) mNil)))))))))
/-- _law_cell -/
noncomputable def d10 : Fn := fnDen 2 2
  (mSeq (mIfS (toB (m2 gLt (mVar 1) (mA gLen (mCons (mVar 0) mNil))))
  (mRet (m2 gIx (mVar 0) (mVar 1)))
  mNop)
  (mRet (mC (.int 0))))
/-- _law_pen -/
noncomputable def d11 : Fn := fnDen 1 2
  (mSeq (mSet 1 (mA gMax2 (mCons (mVar 0) (mCons (m2 gSub (mC (.int 0)) (mVar 0)) mNil))))
  (mRet (mLst (mCons (mVar 1) (mCons (mA gInt1 (mCons (m2 gGe (mVar 1) (m2 gPow (mC (.int 10)) (mC (.int 18)))) mNil)) mNil)))))
/-- _law_draw -/
noncomputable def d12 : Fn := fnDen 2 5
  (mSeq (mIfS (toB (m2 gEq (m2 gIx (mVar 0) (mC (.int 1))) (mC (.int 1))))
  (mSeq (mAsg (gTp 2 (gsCons (gNm 2) (gsCons (gNm 3) gsNil))) (mA gDivmod (mCons (m2 gIx (mVar 0) (mC (.int 0))) (mCons (mVar 1) mNil))))
  (mSeq (mAsg (gPut 0 (mC (.int 0))) (mVar 2))
  (mRet (mVar 3))))
  mNop)
  (mSeq (mSet 4 (m2 gMod (m2 gMul (m2 gAdd (m2 gMod (m2 gIx (mVar 0) (mC (.int 0))) (mC (.int 2147483647))) (mC (.int 40503))) (mC (.int 69621))) (mC (.int 2147483629))))
  (mSeq (mSet 4 (m2 gMod (m2 gAdd (m2 gMul (mVar 4) (mVar 4)) (mC (.int 7817))) (mC (.int 2147483587))))
  (mSeq (mAsg (gPut 0 (mC (.int 0))) (m2 gMod (m2 gAdd (m2 gMul (mVar 4) (mC (.int 48271))) (mC (.int 11))) (mC (.int 2147483629))))
  (mRet (m2 gMod (m2 gFdiv (m2 gIx (mVar 0) (mC (.int 0))) (mC (.int 32))) (mVar 1)))))))
/-- _law_whole -/
noncomputable def d13 : Fn := fnDen 1 1
  (mRet (mAndV (m1 (gIsi "int") (mVar 0)) (mNotV (m1 (gIsi "bool") (mVar 0)))))
noncomputable def d14e0 : M Val := (mF d12 [true, false] (mCons (mVar 0) (mCons (mVar 3) mNil)))
noncomputable def d14b0 : S := (mSeq (mSet 6 (m2 gAdd (mC (.int 1)) (mF d12 [true, false] (mCons (mVar 0) (mCons (mVar 2) mNil)))))
  (mSeq (mSet 7 (mLc [8] (mSrc rng1Of (mCons (mVar 6) mNil)) (gNm 8) mYes d14e0))
  (mSeq (mIfS (toB (m2 gEq (mF d12 [true, false] (mCons (mVar 0) (mCons (mC (.int 2)) mNil))) (mC (.int 1))))
  (mAsg (gPut 7 (mC (.int 0))) (m2 gMod (m2 gAdd (mVar 5) (mC (.int 1))) (mVar 3)))
  mNop)
  (mExpr (mMut 4 fAppend (mCons (mA gTuple (mCons (mVar 7) mNil)) mNil))))))
/-- _law_shut -/
noncomputable def d14 : Fn := fnDen 3 9
  (mSeq (mSet 3 (m2 gAdd (mC (.int 1)) (mF d12 [true, false] (mCons (mVar 0) (mCons (mVar 1) mNil)))))
  (mSeq (mSet 4 (mLst mNil))
  (mSeq (mFor (mSrc rng1Of (mCons (mVar 3) mNil)) (gNm 5) d14b0)
  (mRet (mA gTuple (mCons (mVar 4) mNil))))))
noncomputable def d15e0 : M Val := (mF d12 [true, false] (mCons (mVar 0) (mCons (mA gLen (mCons (mVar 2) mNil)) mNil)))
/-- _law_arrows -/
noncomputable def d15 : Fn := fnDen 2 3
  (mRet (mA gTuple (mCons (mLc [2] (mItems (mVar 1)) (gNm 2) mYes d15e0) mNil)))
/-- _law_left -/
noncomputable def d16 : Fn := fnDen 3 5
  (mSeq (mSet 3 (m2 gIx (mVar 1) (mVar 2)))
  (mSeq (mSet 4 (mA gList (mCons (mVar 1) mNil)))
  (mSeq (mAsg (gPut 4 (mVar 2)) (m2 gMod (m2 gAdd (mVar 3) (mC (.int 1))) (mA gLen (mCons (m2 gIx (mVar 0) (mVar 2)) mNil))))
  (mRet (mTup (mCons (mA gTuple (mCons (mVar 4) mNil)) (mCons (m2 gIx (m2 gIx (mVar 0) (mVar 2)) (mVar 3)) mNil)))))))
noncomputable def d17e0 : M Val := (mF d13 [false] (mCons (mVar 2) mNil))
/-- _law_tuple -/
noncomputable def d17 : Fn := fnDen 2 3
  (mSeq (mIfS (mOr (mNot (toB (m1 (gIsi "tuple") (mVar 0)))) (toB (m2 gNe (mVar 0) (mVar 1))))
  (mRet (mC (.bool false)))
  mNop)
  (mRet (mA gAll (mCons (mLc [2] (mItems (mVar 0)) (gNm 2) mYes d17e0) mNil))))
noncomputable def d18b0 : S := (mSeq (mAsg (gPutN 3 (mTup (mCons (mVar 1) (mCons (mVar 2) mNil)))) (mA gLen (mCons (mVar 4) mNil)))
  (mSeq (mExpr (mMut 4 fAppend (mCons (mTup (mCons (mVar 1) (mCons (mVar 2) mNil))) mNil)))
  (mAsg (gTp 2 (gsCons (gNm 1) (gsCons (gNm 2) gsNil))) (mF d16 [false, false, false] (mCons (mVar 0) (mCons (mVar 1) (mCons (mVar 2) mNil)))))))
noncomputable def d18t0 : M Bool := (toB (mInN true 3 (mTup (mCons (mVar 1) (mCons (mVar 2) mNil)))))
/-- _law_round -/
noncomputable def d18 : Fn := fnDen 3 6
  (mSeq (mSetN 3)
  (mSeq (mSet 4 (mLst mNil))
  (mSeq (mWhile d18t0 d18b0)
  (mSeq (mSet 5 (mIxN 3 (mTup (mCons (mVar 1) (mCons (mVar 2) mNil)))))
  (mRet (mTup (mCons (mVar 5) (mCons (m2 gSub (mA gLen (mCons (mVar 4) mNil)) (mVar 5)) (mCons (mVar 4) mNil)))))))))
noncomputable def d19b0 : S := (mIfS (mNot (toB (mF d17 [false, false] (mCons (mF d9 [false, false, false] (mCons (mVar 0) (mCons (mVar 1) (mCons (mVar 2) mNil)))) (mCons (mTup (mCons (mVar 3) (mCons (mVar 4) mNil))) mNil)))))
  (mRet (mC (.bool false)))
  mNop)
/-- _law_right -/
noncomputable def d19 : Fn := fnDen 3 7
  (mSeq (mAsg (gTp 3 (gsCons (gNm 3) (gsCons (gNm 4) (gsCons (gNm 5) gsNil)))) (mF d18 [false, false, false] (mCons (mVar 0) (mCons (mVar 1) (mCons (mVar 2) mNil)))))
  (mSeq (mFor (mSrc rng1Of (mCons (mC (.int 2)) mNil)) (gNm 6) d19b0)
  (mRet (mC (.bool true)))))
noncomputable def d20b0 : S := (mIfS (mNot (toB (mF d19 [false, false, false] (mCons (mVar 3) (mCons (mVar 4) (mCons (mVar 5) mNil))))))
  (mRet (mC (.bool false)))
  mNop)
noncomputable def d20b1 : S := (mSeq (mSet 2 (mF d11 [false] (mCons (mVar 1) mNil)))
  (mSeq (mSet 3 (mF d14 [true, false, false] (mCons (mVar 2) (mCons (m2 gIx (mLst (mCons (mC (.int 3)) (mCons (mC (.int 4)) (mCons (mC (.int 5)) mNil)))) (mF d12 [true, false] (mCons (mVar 2) (mCons (mC (.int 3)) mNil)))) (mCons (mC (.int 3)) mNil)))))
  (mSeq (mSet 4 (mF d15 [true, false] (mCons (mVar 2) (mCons (mVar 3) mNil))))
  (mFor (mSrc rng1Of (mCons (mA gLen (mCons (mVar 3) mNil)) mNil)) (gNm 5) d20b0))))
/-- law -/
noncomputable def d20 : Fn := fnDen 1 6
  (mSeq (mIfS (mOr (mNot (toB (mF d19 [false, false, false] (mCons (mTup (mCons (mTup (mCons (mC (.int 0)) mNil)) mNil)) (mCons (mTup (mCons (mC (.int 0)) mNil)) (mCons (mC (.int 0)) mNil)))))) (mNot (toB (mF d19 [false, false, false] (mCons (mTup (mCons (mTup (mCons (mC (.int 0)) (mCons (mC (.int 1)) mNil))) (mCons (mTup (mCons (mC (.int 1)) mNil)) mNil))) (mCons (mTup (mCons (mC (.int 0)) (mCons (mC (.int 0)) mNil))) (mCons (mC (.int 0)) mNil)))))))
  (mRet (mC (.bool false)))
  mNop)
  (mSeq (mFor (mItems (m2 gAdd (mLst (mCons (mF d10 [false, false] (mCons (mVar 0) (mCons (mC (.int 0)) mNil))) mNil)) (mSl (mVar 0) (some (mC (.int 1))) (some (mC (.int 3)))))) (gNm 1) d20b1)
  (mRet (mC (.bool true)))))
structure Law (K : PySem.W.Frag) (mg : Str → Option Value) (f : Nat → Addr) (fd : Nat → FuncData) (tok : Nat → Tok) : Prop where
  F0 : Fun K "is_whole" "is_whole" (topS 6) (f 0) (fd 0)
  g0 : mg "is_whole" = some (.ref (f 0))
  b0 : Binds K (fd 0) ["thing"] []
  F1 : Fun K "is_number_of" "is_number_of" (topS 7) (f 1) (fd 1)
  g1 : mg "is_number_of" = some (.ref (f 1))
  b1 : Binds K (fd 1) ["thing", "many"] []
  F2 : Fun K "check_room" "check_room" (topS 9) (f 2) (fd 2)
  g2 : mg "check_room" = some (.ref (f 2))
  b2 : Binds K (fd 2) ["house", "room"] []
  F3 : Fun K "is_shut" "is_shut" (topS 10) (f 3) (fd 3)
  g3 : mg "is_shut" = some (.ref (f 3))
  b3 : Binds K (fd 3) ["house"] []
  F4 : Fun K "is_arrows" "is_arrows" (topS 12) (f 4) (fd 4)
  g4 : mg "is_arrows" = some (.ref (f 4))
  b4 : Binds K (fd 4) ["house", "thing"] []
  F5 : Fun K "check_arrows" "check_arrows" (topS 13) (f 5) (fd 5)
  g5 : mg "check_arrows" = some (.ref (f 5))
  b5 : Binds K (fd 5) ["house", "arrows"] []
  F6 : Fun K "stepped" "stepped" (topS 15) (f 6) (fd 6)
  g6 : mg "stepped" = some (.ref (f 6))
  b6 : Binds K (fd 6) ["house", "arrows", "room"] []
  F7 : Fun K "need_state" "need_state" (topS 16) (f 7) (fd 7)
  g7 : mg "need_state" = some (.ref (f 7))
  b7 : Binds K (fd 7) ["house", "arrows", "room"] []
  F8 : Fun K "need_round" "need_round" (topS 18) (f 8) (fd 8)
  g8 : mg "need_round" = some (.ref (f 8))
  b8 : Binds K (fd 8) ["house", "arrows", "room"] []
  F9 : Fun K "round_of" "round_of" (topS 19) (f 9) (fd 9)
  g9 : mg "round_of" = some (.ref (f 9))
  b9 : Binds K (fd 9) ["house", "arrows", "room"] []
  F10 : Fun K "_law_cell" "_law_cell" (topS 21) (f 10) (fd 10)
  g10 : mg "_law_cell" = some (.ref (f 10))
  b10 : Binds K (fd 10) ["script", "k"] []
  F11 : Fun K "_law_pen" "_law_pen" (topS 22) (f 11) (fd 11)
  g11 : mg "_law_pen" = some (.ref (f 11))
  b11 : Binds K (fd 11) ["cell"] []
  F12 : Fun K "_law_draw" "_law_draw" (topS 23) (f 12) (fd 12)
  g12 : mg "_law_draw" = some (.ref (f 12))
  b12 : Binds K (fd 12) ["pen", "many"] []
  F13 : Fun K "_law_whole" "_law_whole" (topS 24) (f 13) (fd 13)
  g13 : mg "_law_whole" = some (.ref (f 13))
  b13 : Binds K (fd 13) ["thing"] []
  F14 : Fun K "_law_shut" "_law_shut" (topS 25) (f 14) (fd 14)
  g14 : mg "_law_shut" = some (.ref (f 14))
  b14 : Binds K (fd 14) ["pen", "most", "doors"] []
  F15 : Fun K "_law_arrows" "_law_arrows" (topS 26) (f 15) (fd 15)
  g15 : mg "_law_arrows" = some (.ref (f 15))
  b15 : Binds K (fd 15) ["pen", "house"] []
  F16 : Fun K "_law_left" "_law_left" (topS 27) (f 16) (fd 16)
  g16 : mg "_law_left" = some (.ref (f 16))
  b16 : Binds K (fd 16) ["house", "arrows", "room"] []
  F17 : Fun K "_law_tuple" "_law_tuple" (topS 28) (f 17) (fd 17)
  g17 : mg "_law_tuple" = some (.ref (f 17))
  b17 : Binds K (fd 17) ["found", "due"] []
  F18 : Fun K "_law_round" "_law_round" (topS 29) (f 18) (fd 18)
  g18 : mg "_law_round" = some (.ref (f 18))
  b18 : Binds K (fd 18) ["house", "arrows", "room"] []
  F19 : Fun K "_law_right" "_law_right" (topS 30) (f 19) (fd 19)
  g19 : mg "_law_right" = some (.ref (f 19))
  b19 : Binds K (fd 19) ["house", "arrows", "room"] []
  F20 : Fun K "law" "law" (topS 31) (f 20) (fd 20)
  g20 : mg "law" = some (.ref (f 20))
  b20 : Binds K (fd 20) ["script"] []
  n_isinstance : mg "isinstance" = none
  n_int : mg "int" = none
  n_bool : mg "bool" = none
  n_len : mg "len" = none
  n_all : mg "all" = none
  n_min : mg "min" = none
  n_tuple : mg "tuple" = none
  n_zip : mg "zip" = none
  n_max : mg "max" = none
  n_divmod : mg "divmod" = none
  n_range : mg "range" = none
  n_list : mg "list" = none
section
variable {P : Program} {w : World} {K : PySem.W.Frag} {mg : Str → Option Value} {base : Heap} {f : Nat → Addr} {fd : Nat → FuncData} {tok : Nat → Tok}
/-- is_whole -/
theorem ok0 (t : Law K mg f fd tok) : FnOk P w K mg base (L2N.CX P w) 1 (f 0) (fd 0) ["thing"] (spI K mg ["thing"].length d0) := fn_den t.F0 sc0 fun cdv A outer s H E G hK hM hx hr => by
  subst hK
  subst hM
  have tk : L2N.Takes (cxOf (L2N.CX P w) P w G.K G.mg base ["thing"] "is_whole" (defScope (topS 6)) (f 0) cdv A outer s H E) (fun cls d _ H => E cls d H) := L2N.takes_of rfl rfl rfl rfl
  have po : PassesOwn (model P w) (cxOf (L2N.CX P w) P w G.K G.mg base ["thing"] "is_whole" (defScope (topS 6)) (f 0) cdv A outer s H E).A (cxOf (L2N.CX P w) P w G.K G.mg base ["thing"] "is_whole" (defScope (topS 6)) (f 0) cdv A outer s H E).env (cxOf (L2N.CX P w) P w G.K G.mg base ["thing"] "is_whole" (defScope (topS 6)) (f 0) cdv A outer s H E).xe := passes_of rfl
  exact (s_one (s_ret (e_and (e_isi rfl rfl t.n_isinstance rfl t.n_int (by decide +kernel) (e_var 0)) (e_one (e_not (e_isi rfl rfl t.n_isinstance rfl t.n_bool (by decide +kernel) (e_var 0)))))))
/-- is_shut -/
theorem ok3 (t : Law K mg f fd tok) : FnOk P w K mg base (L2N.CX P w) 1 (f 3) (fd 3) ["house"] (spI K mg ["house"].length d3) := fn_den t.F3 sc3 fun cdv A outer s H E G hK hM hx hr => by
  subst hK
  subst hM
  have tk : L2N.Takes (cxOf (L2N.CX P w) P w G.K G.mg base ["house", "room"] "is_shut" (defScope (topS 10)) (f 3) cdv A outer s H E) (fun cls d _ H => E cls d H) := L2N.takes_of rfl rfl rfl rfl
  have po : PassesOwn (model P w) (cxOf (L2N.CX P w) P w G.K G.mg base ["house", "room"] "is_shut" (defScope (topS 10)) (f 3) cdv A outer s H E).A (cxOf (L2N.CX P w) P w G.K G.mg base ["house", "room"] "is_shut" (defScope (topS 10)) (f 3) cdv A outer s H E).env (cxOf (L2N.CX P w) P w G.K G.mg base ["house", "room"] "is_shut" (defScope (topS 10)) (f 3) cdv A outer s H E).xe := passes_of rfl
  exact (s_one (s_ret (e_callB (cr_all rfl) (g_all) rfl t.n_all (by decide +kernel) (a_cons (e_lc (own := [("room", 1)]) rfl sc3.nd (i_val rfl (e_var 0)) (by first | rfl | decide +kernel) (fun _ _ _ _ _ => (g_name (i := 1) sc3.nd rfl (by first | exact .inl rfl | exact .inr rfl) (by decide))) (fun _ _ _ _ _ => ts_nil) (fun _ _ _ _ _ => (e_cmp op_ge g_cmp (e_callB ((cr_min rfl).or (cr_minT rfl (Room.units hr))) g_minA rfl t.n_min (by decide +kernel) (a_cons (e_var 1) a_nil)) e_int (nomark _)))) a_nil))))
/-- stepped -/
theorem ok6 (t : Law K mg f fd tok) : FnOk P w K mg base (L2N.CX P w) 1 (f 6) (fd 6) ["house", "arrows", "room"] (spI K mg ["house", "arrows", "room"].length d6) := fn_den t.F6 sc6 fun cdv A outer s H E G hK hM hx hr => by
  subst hK
  subst hM
  have tk : L2N.Takes (cxOf (L2N.CX P w) P w G.K G.mg base ["house", "arrows", "room", "door", "later"] "stepped" (defScope (topS 15)) (f 6) cdv A outer s H E) (fun cls d _ H => E cls d H) := L2N.takes_of rfl rfl rfl rfl
  have po : PassesOwn (model P w) (cxOf (L2N.CX P w) P w G.K G.mg base ["house", "arrows", "room", "door", "later"] "stepped" (defScope (topS 15)) (f 6) cdv A outer s H E).A (cxOf (L2N.CX P w) P w G.K G.mg base ["house", "arrows", "room", "door", "later"] "stepped" (defScope (topS 15)) (f 6) cdv A outer s H E).env (cxOf (L2N.CX P w) P w G.K G.mg base ["house", "arrows", "room", "door", "later"] "stepped" (defScope (topS 15)) (f 6) cdv A outer s H E).xe := passes_of rfl
  exact (s_cons (s_set (i := 3) sc6.nd rfl (by first | exact .inl rfl | exact .inr rfl) (e_ix ix_seq g_ix (e_var 1) (e_var 2) (fun _ _ => rfl)))
  (s_cons (s_set (i := 4) sc6.nd rfl (by first | exact .inl rfl | exact .inr rfl) (e_bin op_addA g_add (e_bin op_addA g_add (e_slice rfl (e_var 1) po_no (po_so (e_var 2))) (e_tup (a_cons (e_bin op_mod g_mod (e_bin op_addA g_add (e_var 3) e_int) (e_callB call_len (g_len) rfl t.n_len (by decide +kernel) (a_cons (e_ix ix_seq g_ix (e_var 0) (e_var 2) (fun _ _ => rfl)) a_nil))) a_nil))) (e_slice rfl (e_var 1) (po_so (e_bin op_addA g_add (e_var 2) e_int)) po_no)))
  (s_one (s_ret (e_tup (a_cons (e_var 4) (a_cons (e_ix ix_seq g_ix (e_ix ix_seq g_ix (e_var 0) (e_var 2) (fun _ _ => rfl)) (e_var 3) (fun _ _ => rfl)) a_nil)))))))
/-- _law_cell -/
theorem ok10 (t : Law K mg f fd tok) : FnOk P w K mg base (L2N.CX P w) 1 (f 10) (fd 10) ["script", "k"] (spI K mg ["script", "k"].length d10) := fn_den t.F10 sc10 fun cdv A outer s H E G hK hM hx hr => by
  subst hK
  subst hM
  have tk : L2N.Takes (cxOf (L2N.CX P w) P w G.K G.mg base ["script", "k"] "_law_cell" (defScope (topS 21)) (f 10) cdv A outer s H E) (fun cls d _ H => E cls d H) := L2N.takes_of rfl rfl rfl rfl
  have po : PassesOwn (model P w) (cxOf (L2N.CX P w) P w G.K G.mg base ["script", "k"] "_law_cell" (defScope (topS 21)) (f 10) cdv A outer s H E).A (cxOf (L2N.CX P w) P w G.K G.mg base ["script", "k"] "_law_cell" (defScope (topS 21)) (f 10) cdv A outer s H E).env (cxOf (L2N.CX P w) P w G.K G.mg base ["script", "k"] "_law_cell" (defScope (topS 21)) (f 10) cdv A outer s H E).xe := passes_of rfl
  exact (s_cons (s_if (t_cmp op_lt g_cmp (e_var 1) (e_callB call_len (g_len) rfl t.n_len (by decide +kernel) (a_cons (e_var 0) a_nil)) (nomark _))
  (s_one (s_ret (e_ix ix_seq g_ix (e_var 0) (e_var 1) (fun _ _ => rfl))))
  s_nil)
  (s_one (s_ret e_int)))
/-- _law_pen -/
theorem ok11 (t : Law K mg f fd tok) : FnOk P w K mg base (L2N.CX P w) 1 (f 11) (fd 11) ["cell"] (spI K mg ["cell"].length d11) := fn_den t.F11 sc11 fun cdv A outer s H E G hK hM hx hr => by
  subst hK
  subst hM
  have tk : L2N.Takes (cxOf (L2N.CX P w) P w G.K G.mg base ["cell", "left"] "_law_pen" (defScope (topS 22)) (f 11) cdv A outer s H E) (fun cls d _ H => E cls d H) := L2N.takes_of rfl rfl rfl rfl
  have po : PassesOwn (model P w) (cxOf (L2N.CX P w) P w G.K G.mg base ["cell", "left"] "_law_pen" (defScope (topS 22)) (f 11) cdv A outer s H E).A (cxOf (L2N.CX P w) P w G.K G.mg base ["cell", "left"] "_law_pen" (defScope (topS 22)) (f 11) cdv A outer s H E).env (cxOf (L2N.CX P w) P w G.K G.mg base ["cell", "left"] "_law_pen" (defScope (topS 22)) (f 11) cdv A outer s H E).xe := passes_of rfl
  exact (s_cons (s_set (i := 1) sc11.nd rfl (by first | exact .inl rfl | exact .inr rfl) (e_callB (call_max2 rfl) g_max2 rfl t.n_max (by decide +kernel) (a_cons (e_var 0) (a_cons (e_bin op_sub g_sub e_int (e_var 0)) a_nil))))
  (s_one (s_ret (e_lst (a_cons (e_var 1) (a_cons (e_callTy call_int1 g_int1 rfl t.n_int (by decide +kernel) (a_cons (e_cmp op_ge g_cmp (e_var 1) (e_bin op_pow g_pow e_int e_int) (nomark _)) a_nil)) a_nil))))))
/-- _law_draw -/
theorem ok12 (t : Law K mg f fd tok) : FnOk P w K mg base (L2N.CX P w) 1 (f 12) (fd 12) ["pen", "many"] (spI K mg ["pen", "many"].length d12) := fn_den t.F12 sc12 fun cdv A outer s H E G hK hM hx hr => by
  subst hK
  subst hM
  have tk : L2N.Takes (cxOf (L2N.CX P w) P w G.K G.mg base ["pen", "many", "left", "found", "stir"] "_law_draw" (defScope (topS 23)) (f 12) cdv A outer s H E) (fun cls d _ H => E cls d H) := L2N.takes_of rfl rfl rfl rfl
  have po : PassesOwn (model P w) (cxOf (L2N.CX P w) P w G.K G.mg base ["pen", "many", "left", "found", "stir"] "_law_draw" (defScope (topS 23)) (f 12) cdv A outer s H E).A (cxOf (L2N.CX P w) P w G.K G.mg base ["pen", "many", "left", "found", "stir"] "_law_draw" (defScope (topS 23)) (f 12) cdv A outer s H E).env (cxOf (L2N.CX P w) P w G.K G.mg base ["pen", "many", "left", "found", "stir"] "_law_draw" (defScope (topS 23)) (f 12) cdv A outer s H E).xe := passes_of rfl
  exact (s_cons (s_if (t_cmp (op_eqP (Room.units hr)) g_eq (e_ix ix_seq g_ix (e_var 0) e_int (fun _ _ => rfl)) e_int (nomark _))
  (s_cons (s_asg (T := [2, 3]) (e_callB call_divmodF g_divmod rfl t.n_divmod (by decide +kernel) (a_cons (e_ix ix_seq g_ix (e_var 0) e_int (fun _ _ => rfl)) (a_cons (e_var 1) a_nil))) (g_tup rfl rfl (gs_cons (g_name (i := 2) sc12.nd rfl (by first | exact .inl rfl | exact .inr rfl) (by decide)) (gs_cons (g_name (i := 3) sc12.nd rfl (by first | exact .inl rfl | exact .inr rfl) (by decide)) gs_nil))))
  (s_cons (s_asg (T := []) (e_var 2) (g_put 0 e_int))
  (s_one (s_ret (e_var 3)))))
  s_nil)
  (s_cons (s_set (i := 4) sc12.nd rfl (by first | exact .inl rfl | exact .inr rfl) (e_bin op_mod g_mod (e_bin op_mulA g_mul (e_bin op_addA g_add (e_bin op_mod g_mod (e_ix ix_seq g_ix (e_var 0) e_int (fun _ _ => rfl)) e_int) e_int) e_int) e_int))
  (s_cons (s_set (i := 4) sc12.nd rfl (by first | exact .inl rfl | exact .inr rfl) (e_bin op_mod g_mod (e_bin op_addA g_add (e_bin op_mulA g_mul (e_var 4) (e_var 4)) e_int) e_int))
  (s_cons (s_asg (T := []) (e_bin op_mod g_mod (e_bin op_addA g_add (e_bin op_mulA g_mul (e_var 4) e_int) e_int) e_int) (g_put 0 e_int))
  (s_one (s_ret (e_bin op_mod g_mod (e_bin op_fdivA g_fdiv (e_ix ix_seq g_ix (e_var 0) e_int (fun _ _ => rfl)) e_int) (e_var 1))))))))
/-- _law_whole -/
theorem ok13 (t : Law K mg f fd tok) : FnOk P w K mg base (L2N.CX P w) 1 (f 13) (fd 13) ["thing"] (spI K mg ["thing"].length d13) := fn_den t.F13 sc13 fun cdv A outer s H E G hK hM hx hr => by
  subst hK
  subst hM
  have tk : L2N.Takes (cxOf (L2N.CX P w) P w G.K G.mg base ["thing"] "_law_whole" (defScope (topS 24)) (f 13) cdv A outer s H E) (fun cls d _ H => E cls d H) := L2N.takes_of rfl rfl rfl rfl
  have po : PassesOwn (model P w) (cxOf (L2N.CX P w) P w G.K G.mg base ["thing"] "_law_whole" (defScope (topS 24)) (f 13) cdv A outer s H E).A (cxOf (L2N.CX P w) P w G.K G.mg base ["thing"] "_law_whole" (defScope (topS 24)) (f 13) cdv A outer s H E).env (cxOf (L2N.CX P w) P w G.K G.mg base ["thing"] "_law_whole" (defScope (topS 24)) (f 13) cdv A outer s H E).xe := passes_of rfl
  exact (s_one (s_ret (e_and (e_isi rfl rfl t.n_isinstance rfl t.n_int (by decide +kernel) (e_var 0)) (e_one (e_not (e_isi rfl rfl t.n_isinstance rfl t.n_bool (by decide +kernel) (e_var 0)))))))
/-- _law_left -/
theorem ok16 (t : Law K mg f fd tok) : FnOk P w K mg base (L2N.CX P w) 1 (f 16) (fd 16) ["house", "arrows", "room"] (spI K mg ["house", "arrows", "room"].length d16) := fn_den t.F16 sc16 fun cdv A outer s H E G hK hM hx hr => by
  subst hK
  subst hM
  have tk : L2N.Takes (cxOf (L2N.CX P w) P w G.K G.mg base ["house", "arrows", "room", "door", "later"] "_law_left" (defScope (topS 27)) (f 16) cdv A outer s H E) (fun cls d _ H => E cls d H) := L2N.takes_of rfl rfl rfl rfl
  have po : PassesOwn (model P w) (cxOf (L2N.CX P w) P w G.K G.mg base ["house", "arrows", "room", "door", "later"] "_law_left" (defScope (topS 27)) (f 16) cdv A outer s H E).A (cxOf (L2N.CX P w) P w G.K G.mg base ["house", "arrows", "room", "door", "later"] "_law_left" (defScope (topS 27)) (f 16) cdv A outer s H E).env (cxOf (L2N.CX P w) P w G.K G.mg base ["house", "arrows", "room", "door", "later"] "_law_left" (defScope (topS 27)) (f 16) cdv A outer s H E).xe := passes_of rfl
  exact (s_cons (s_set (i := 3) sc16.nd rfl (by first | exact .inl rfl | exact .inr rfl) (e_ix ix_seq g_ix (e_var 1) (e_var 2) (fun _ _ => rfl)))
  (s_cons (s_set (i := 4) sc16.nd rfl (by first | exact .inl rfl | exact .inr rfl) (e_callTy call_list_of (g_list) rfl t.n_list (by decide +kernel) (a_cons (e_var 1) a_nil)))
  (s_cons (s_asg (T := []) (e_bin op_mod g_mod (e_bin op_addA g_add (e_var 3) e_int) (e_callB call_len (g_len) rfl t.n_len (by decide +kernel) (a_cons (e_ix ix_seq g_ix (e_var 0) (e_var 2) (fun _ _ => rfl)) a_nil))) (g_put 4 (e_var 2)))
  (s_one (s_ret (e_tup (a_cons (e_callTy call_tupleF (g_tuple) rfl t.n_tuple (by decide +kernel) (a_cons (e_var 4) a_nil)) (a_cons (e_ix ix_seq g_ix (e_ix ix_seq g_ix (e_var 0) (e_var 2) (fun _ _ => rfl)) (e_var 3) (fun _ _ => rfl)) a_nil))))))))
/-- is_number_of -/
theorem ok1 (t : Law K mg f fd tok) : FnOk P w K mg base (L2N.CX P w) 2 (f 1) (fd 1) ["thing", "many"] (spI K mg ["thing", "many"].length d1) := fn_den t.F1 sc1 fun cdv A outer s H E G hK hM hx hr => by
  subst hK
  subst hM
  have tk : L2N.Takes (cxOf (L2N.CX P w) P w G.K G.mg base ["thing", "many"] "is_number_of" (defScope (topS 7)) (f 1) cdv A outer s H E) (fun cls d _ H => E cls d H) := L2N.takes_of rfl rfl rfl rfl
  have po : PassesOwn (model P w) (cxOf (L2N.CX P w) P w G.K G.mg base ["thing", "many"] "is_number_of" (defScope (topS 7)) (f 1) cdv A outer s H E).A (cxOf (L2N.CX P w) P w G.K G.mg base ["thing", "many"] "is_number_of" (defScope (topS 7)) (f 1) cdv A outer s H E).env (cxOf (L2N.CX P w) P w G.K G.mg base ["thing", "many"] "is_number_of" (defScope (topS 7)) (f 1) cdv A outer s H E).xe := passes_of rfl
  exact (s_one (s_ret (e_and (e_call (ks := [false]) (ok0 t) (hr.mono (by decide)) rfl t.g0 t.F0.kp t.b0 tk hx rfl rfl fnDen_len (a_cons (e_var 0) a_nil)) (e_one (e_chain op_le op_lt g_cmp g_cmp e_int (e_var 0) (e_var 1))))))
/-- _law_shut -/
theorem ok14 (t : Law K mg f fd tok) : FnOk P w K mg base (L2N.CX P w) 2 (f 14) (fd 14) ["pen", "most", "doors"] (spI K mg ["pen", "most", "doors"].length d14) := fn_den t.F14 sc14 fun cdv A outer s H E G hK hM hx hr => by
  subst hK
  subst hM
  have tk : L2N.Takes (cxOf (L2N.CX P w) P w G.K G.mg base ["pen", "most", "doors", "many", "house", "room", "wide", "some", "door"] "_law_shut" (defScope (topS 25)) (f 14) cdv A outer s H E) (fun cls d _ H => E cls d H) := L2N.takes_of rfl rfl rfl rfl
  have po : PassesOwn (model P w) (cxOf (L2N.CX P w) P w G.K G.mg base ["pen", "most", "doors", "many", "house", "room", "wide", "some", "door"] "_law_shut" (defScope (topS 25)) (f 14) cdv A outer s H E).A (cxOf (L2N.CX P w) P w G.K G.mg base ["pen", "most", "doors", "many", "house", "room", "wide", "some", "door"] "_law_shut" (defScope (topS 25)) (f 14) cdv A outer s H E).env (cxOf (L2N.CX P w) P w G.K G.mg base ["pen", "most", "doors", "many", "house", "room", "wide", "some", "door"] "_law_shut" (defScope (topS 25)) (f 14) cdv A outer s H E).xe := passes_of rfl
  exact (s_cons (s_set (i := 3) sc14.nd rfl (by first | exact .inl rfl | exact .inr rfl) (e_bin op_addA g_add e_int (e_call (ks := [true, false]) (ok12 t) (hr.mono (by decide)) rfl t.g12 t.F12.kp t.b12 tk hx rfl rfl fnDen_len (a_cons (e_var 0) (a_cons (e_var 1) a_nil)))))
  (s_cons (s_set (i := 4) sc14.nd rfl (by first | exact .inl rfl | exact .inr rfl) (e_lst a_nil))
  (s_cons (s_for (T := [5]) po rfl (i_rng1 rfl t.n_range (a_cons (e_var 3) a_nil)) (g_name (i := 5) sc14.nd rfl (by first | exact .inl rfl | exact .inr rfl) (by decide))
  (s_cons (s_set (i := 6) sc14.nd rfl (by first | exact .inl rfl | exact .inr rfl) (e_bin op_addA g_add e_int (e_call (ks := [true, false]) (ok12 t) (hr.mono (by decide)) rfl t.g12 t.F12.kp t.b12 tk hx rfl rfl fnDen_len (a_cons (e_var 0) (a_cons (e_var 2) a_nil)))))
  (s_cons (s_setLc (own := [("door", 8)]) (i := 7) rfl sc14.nd rfl rfl (sw_true rfl rfl rfl rfl) (i_rng1 rfl t.n_range (a_cons (e_var 6) a_nil)) (by first | rfl | decide +kernel) (fun _ _ _ _ _ => (g_name (i := 8) sc14.nd rfl (by first | exact .inl rfl | exact .inr rfl) (by decide))) (fun _ _ _ _ _ => ts_nil) (fun _ _ _ _ _ => (e_call (ks := [true, false]) (ok12 t) (hr.mono (by decide)) rfl t.g12 t.F12.kp t.b12 tk0 hx rfl rfl fnDen_len (a_cons (e_var 0) (a_cons (e_var 3) a_nil)))))
  (s_cons (s_if (t_cmp (op_eqP (Room.units hr)) g_eq (e_call (ks := [true, false]) (ok12 t) (hr.mono (by decide)) rfl t.g12 t.F12.kp t.b12 tk hx rfl rfl fnDen_len (a_cons (e_var 0) (a_cons e_int a_nil))) e_int (nomark _))
  (s_one (s_asg (T := []) (e_bin op_mod g_mod (e_bin op_addA g_add (e_var 5) e_int) (e_var 3)) (g_put 7 e_int)))
  s_nil)
  (s_one (s_expr (e_mut 4 PySem.F.slot_list_append PySem.F.type_list_append mt_append m_append (a_cons (e_callTy call_tupleF (g_tuple) rfl t.n_tuple (by decide +kernel) (a_cons (e_var 7) a_nil)) a_nil))))))))
  (s_one (s_ret (e_callTy call_tupleF (g_tuple) rfl t.n_tuple (by decide +kernel) (a_cons (e_var 4) a_nil)))))))
/-- _law_arrows -/
theorem ok15 (t : Law K mg f fd tok) : FnOk P w K mg base (L2N.CX P w) 2 (f 15) (fd 15) ["pen", "house"] (spI K mg ["pen", "house"].length d15) := fn_den t.F15 sc15 fun cdv A outer s H E G hK hM hx hr => by
  subst hK
  subst hM
  have tk : L2N.Takes (cxOf (L2N.CX P w) P w G.K G.mg base ["pen", "house", "doors"] "_law_arrows" (defScope (topS 26)) (f 15) cdv A outer s H E) (fun cls d _ H => E cls d H) := L2N.takes_of rfl rfl rfl rfl
  have po : PassesOwn (model P w) (cxOf (L2N.CX P w) P w G.K G.mg base ["pen", "house", "doors"] "_law_arrows" (defScope (topS 26)) (f 15) cdv A outer s H E).A (cxOf (L2N.CX P w) P w G.K G.mg base ["pen", "house", "doors"] "_law_arrows" (defScope (topS 26)) (f 15) cdv A outer s H E).env (cxOf (L2N.CX P w) P w G.K G.mg base ["pen", "house", "doors"] "_law_arrows" (defScope (topS 26)) (f 15) cdv A outer s H E).xe := passes_of rfl
  exact (s_one (s_ret (e_callTy call_tupleF (g_tuple) rfl t.n_tuple (by decide +kernel) (a_cons (e_lc (own := [("doors", 2)]) rfl sc15.nd (i_val rfl (e_var 1)) (by first | rfl | decide +kernel) (fun _ _ _ _ _ => (g_name (i := 2) sc15.nd rfl (by first | exact .inl rfl | exact .inr rfl) (by decide))) (fun _ _ _ _ _ => ts_nil) (fun _ _ _ _ _ => (e_call (ks := [true, false]) (ok12 t) (hr.mono (by decide)) rfl t.g12 t.F12.kp t.b12 tk0 hx rfl rfl fnDen_len (a_cons (e_var 0) (a_cons (e_callB call_len (g_len) rfl t.n_len (by decide +kernel) (a_cons (e_var 2) a_nil)) a_nil))))) a_nil))))
/-- _law_tuple -/
theorem ok17 (t : Law K mg f fd tok) : FnOk P w K mg base (L2N.CX P w) 2 (f 17) (fd 17) ["found", "due"] (spI K mg ["found", "due"].length d17) := fn_den t.F17 sc17 fun cdv A outer s H E G hK hM hx hr => by
  subst hK
  subst hM
  have tk : L2N.Takes (cxOf (L2N.CX P w) P w G.K G.mg base ["found", "due", "one"] "_law_tuple" (defScope (topS 28)) (f 17) cdv A outer s H E) (fun cls d _ H => E cls d H) := L2N.takes_of rfl rfl rfl rfl
  have po : PassesOwn (model P w) (cxOf (L2N.CX P w) P w G.K G.mg base ["found", "due", "one"] "_law_tuple" (defScope (topS 28)) (f 17) cdv A outer s H E).A (cxOf (L2N.CX P w) P w G.K G.mg base ["found", "due", "one"] "_law_tuple" (defScope (topS 28)) (f 17) cdv A outer s H E).env (cxOf (L2N.CX P w) P w G.K G.mg base ["found", "due", "one"] "_law_tuple" (defScope (topS 28)) (f 17) cdv A outer s H E).xe := passes_of rfl
  exact (s_cons (s_if (t_W (t_or (t_not (t_val (e_isi rfl rfl t.n_isinstance rfl t.n_tuple (by decide +kernel) (e_var 0)))) (t_or1 (t_cmp (op_neP (Room.units hr)) g_ne (e_var 0) (e_var 1) (nomark _)))))
  (s_one (s_ret e_bl))
  s_nil)
  (s_one (s_ret (e_callB (cr_all rfl) (g_all) rfl t.n_all (by decide +kernel) (a_cons (e_lc (own := [("one", 2)]) rfl sc17.nd (i_val rfl (e_var 0)) (by first | rfl | decide +kernel) (fun _ _ _ _ _ => (g_name (i := 2) sc17.nd rfl (by first | exact .inl rfl | exact .inr rfl) (by decide))) (fun _ _ _ _ _ => ts_nil) (fun _ _ _ _ _ => (e_call (ks := [false]) (ok13 t) (hr.mono (by decide)) rfl t.g13 t.F13.kp t.b13 tk0 hx rfl rfl fnDen_len (a_cons (e_var 2) a_nil)))) a_nil)))))
/-- _law_round -/
theorem ok18 (t : Law K mg f fd tok) : FnOk P w K mg base (L2N.CX P w) 2 (f 18) (fd 18) ["house", "arrows", "room"] (spI K mg ["house", "arrows", "room"].length d18) := fn_den t.F18 sc18 fun cdv A outer s H E G hK hM hx hr => by
  subst hK
  subst hM
  have tk : L2N.Takes (cxOf (L2N.CX P w) P w G.K G.mg base ["house", "arrows", "room", "seen", "states", "ahead"] "_law_round" (defScope (topS 29)) (f 18) cdv A outer s H E) (fun cls d _ H => E cls d H) := L2N.takes_of rfl rfl rfl rfl
  have po : PassesOwn (model P w) (cxOf (L2N.CX P w) P w G.K G.mg base ["house", "arrows", "room", "seen", "states", "ahead"] "_law_round" (defScope (topS 29)) (f 18) cdv A outer s H E).A (cxOf (L2N.CX P w) P w G.K G.mg base ["house", "arrows", "room", "seen", "states", "ahead"] "_law_round" (defScope (topS 29)) (f 18) cdv A outer s H E).env (cxOf (L2N.CX P w) P w G.K G.mg base ["house", "arrows", "room", "seen", "states", "ahead"] "_law_round" (defScope (topS 29)) (f 18) cdv A outer s H E).xe := passes_of rfl
  exact (s_cons (s_setN (i := 3) sc18.nd rfl (by first | exact .inl rfl | exact .inr rfl))
  (s_cons (s_set (i := 4) sc18.nd rfl (by first | exact .inl rfl | exact .inr rfl) (e_lst a_nil))
  (s_cons (s_while po (t_inN (i := 3) true rfl (op_notInN (Room.units hr)) (e_tup (a_cons (e_var 1) (a_cons (e_var 2) a_nil))))
  (s_cons (s_asg (T := []) (e_callB call_len (g_len) rfl t.n_len (by decide +kernel) (a_cons (e_var 4) a_nil)) (g_putN 3 (Room.units hr) rfl (e_tup (a_cons (e_var 1) (a_cons (e_var 2) a_nil)))))
  (s_cons (s_expr (e_mut 4 PySem.F.slot_list_append PySem.F.type_list_append mt_append m_append (a_cons (e_tup (a_cons (e_var 1) (a_cons (e_var 2) a_nil))) a_nil)))
  (s_one (s_asg (T := [1, 2]) (e_call (ks := [false, false, false]) (ok16 t) (hr.mono (by decide)) rfl t.g16 t.F16.kp t.b16 tk hx rfl rfl fnDen_len (a_cons (e_var 0) (a_cons (e_var 1) (a_cons (e_var 2) a_nil)))) (g_tup rfl rfl (gs_cons (g_name (i := 1) sc18.nd rfl (by first | exact .inl rfl | exact .inr rfl) (by decide)) (gs_cons (g_name (i := 2) sc18.nd rfl (by first | exact .inl rfl | exact .inr rfl) (by decide)) gs_nil))))))))
  (s_cons (s_set (i := 5) sc18.nd rfl (by first | exact .inl rfl | exact .inr rfl) (e_ixN (i := 3) (Room.units hr) rfl (e_tup (a_cons (e_var 1) (a_cons (e_var 2) a_nil))) (fun _ _ => rfl)))
  (s_one (s_ret (e_tup (a_cons (e_var 5) (a_cons (e_bin op_sub g_sub (e_callB call_len (g_len) rfl t.n_len (by decide +kernel) (a_cons (e_var 4) a_nil)) (e_var 5)) (a_cons (e_var 4) a_nil))))))))))
/-- check_room -/
theorem ok2 (t : Law K mg f fd tok) : FnOk P w K mg base (L2N.CX P w) 3 (f 2) (fd 2) ["house", "room"] (spI K mg ["house", "room"].length d2) := fn_den t.F2 sc2 fun cdv A outer s H E G hK hM hx hr => by
  subst hK
  subst hM
  have tk : L2N.Takes (cxOf (L2N.CX P w) P w G.K G.mg base ["house", "room"] "check_room" (defScope (topS 9)) (f 2) cdv A outer s H E) (fun cls d _ H => E cls d H) := L2N.takes_of rfl rfl rfl rfl
  have po : PassesOwn (model P w) (cxOf (L2N.CX P w) P w G.K G.mg base ["house", "room"] "check_room" (defScope (topS 9)) (f 2) cdv A outer s H E).A (cxOf (L2N.CX P w) P w G.K G.mg base ["house", "room"] "check_room" (defScope (topS 9)) (f 2) cdv A outer s H E).env (cxOf (L2N.CX P w) P w G.K G.mg base ["house", "room"] "check_room" (defScope (topS 9)) (f 2) cdv A outer s H E).xe := passes_of rfl
  exact (s_one (s_if (t_not (t_val (e_call (ks := [false, false]) (ok1 t) (hr.mono (by decide)) rfl t.g1 t.F1.kp t.b1 tk hx rfl rfl fnDen_len (a_cons (e_var 1) (a_cons (e_callB call_len (g_len) rfl t.n_len (by decide +kernel) (a_cons (e_var 0) a_nil)) a_nil)))))
  (s_one s_never)
  s_nil))
/-- is_arrows -/
theorem ok4 (t : Law K mg f fd tok) : FnOk P w K mg base (L2N.CX P w) 3 (f 4) (fd 4) ["house", "thing"] (spI K mg ["house", "thing"].length d4) := fn_den t.F4 sc4 fun cdv A outer s H E G hK hM hx hr => by
  subst hK
  subst hM
  have tk : L2N.Takes (cxOf (L2N.CX P w) P w G.K G.mg base ["house", "thing", "one", "room"] "is_arrows" (defScope (topS 12)) (f 4) cdv A outer s H E) (fun cls d _ H => E cls d H) := L2N.takes_of rfl rfl rfl rfl
  have po : PassesOwn (model P w) (cxOf (L2N.CX P w) P w G.K G.mg base ["house", "thing", "one", "room"] "is_arrows" (defScope (topS 12)) (f 4) cdv A outer s H E).A (cxOf (L2N.CX P w) P w G.K G.mg base ["house", "thing", "one", "room"] "is_arrows" (defScope (topS 12)) (f 4) cdv A outer s H E).env (cxOf (L2N.CX P w) P w G.K G.mg base ["house", "thing", "one", "room"] "is_arrows" (defScope (topS 12)) (f 4) cdv A outer s H E).xe := passes_of rfl
  exact (s_cons (s_if (t_W (t_or (t_not (t_val (e_isi rfl rfl t.n_isinstance rfl t.n_tuple (by decide +kernel) (e_var 1)))) (t_or1 (t_cmp (op_neP (Room.units hr)) g_ne (e_callB call_len (g_len) rfl t.n_len (by decide +kernel) (a_cons (e_var 1) a_nil)) (e_callB call_len (g_len) rfl t.n_len (by decide +kernel) (a_cons (e_var 0) a_nil)) (nomark _)))))
  (s_one (s_ret e_bl))
  s_nil)
  (s_one (s_ret (e_callB (cr_all rfl) (g_all) rfl t.n_all (by decide +kernel) (a_cons (e_lc (own := [("one", 2), ("room", 3)]) rfl sc4.nd (i_zipM rfl rfl t.n_zip (a_cons (e_var 1) (a_cons (e_var 0) a_nil))) (by first | rfl | decide +kernel) (fun _ _ _ _ _ => (g_tup rfl rfl (gs_cons (g_name (i := 2) sc4.nd rfl (by first | exact .inl rfl | exact .inr rfl) (by decide)) (gs_cons (g_name (i := 3) sc4.nd rfl (by first | exact .inl rfl | exact .inr rfl) (by decide)) gs_nil)))) (fun _ _ _ _ _ => ts_nil) (fun _ _ _ _ _ => (e_call (ks := [false, false]) (ok1 t) (hr.mono (by decide)) rfl t.g1 t.F1.kp t.b1 tk0 hx rfl rfl fnDen_len (a_cons (e_var 2) (a_cons (e_callB call_len (g_len) rfl t.n_len (by decide +kernel) (a_cons (e_var 3) a_nil)) a_nil))))) a_nil)))))
/-- check_arrows -/
theorem ok5 (t : Law K mg f fd tok) : FnOk P w K mg base (L2N.CX P w) 4 (f 5) (fd 5) ["house", "arrows"] (spI K mg ["house", "arrows"].length d5) := fn_den t.F5 sc5 fun cdv A outer s H E G hK hM hx hr => by
  subst hK
  subst hM
  have tk : L2N.Takes (cxOf (L2N.CX P w) P w G.K G.mg base ["house", "arrows"] "check_arrows" (defScope (topS 13)) (f 5) cdv A outer s H E) (fun cls d _ H => E cls d H) := L2N.takes_of rfl rfl rfl rfl
  have po : PassesOwn (model P w) (cxOf (L2N.CX P w) P w G.K G.mg base ["house", "arrows"] "check_arrows" (defScope (topS 13)) (f 5) cdv A outer s H E).A (cxOf (L2N.CX P w) P w G.K G.mg base ["house", "arrows"] "check_arrows" (defScope (topS 13)) (f 5) cdv A outer s H E).env (cxOf (L2N.CX P w) P w G.K G.mg base ["house", "arrows"] "check_arrows" (defScope (topS 13)) (f 5) cdv A outer s H E).xe := passes_of rfl
  exact (s_one (s_if (t_not (t_val (e_call (ks := [false, false]) (ok4 t) (hr.mono (by decide)) rfl t.g4 t.F4.kp t.b4 tk hx rfl rfl fnDen_len (a_cons (e_var 0) (a_cons (e_var 1) a_nil)))))
  (s_one s_never)
  s_nil))
/-- need_state -/
theorem ok7 (t : Law K mg f fd tok) : FnOk P w K mg base (L2N.CX P w) 5 (f 7) (fd 7) ["house", "arrows", "room"] (spI K mg ["house", "arrows", "room"].length d7) := fn_den t.F7 sc7 fun cdv A outer s H E G hK hM hx hr => by
  subst hK
  subst hM
  have tk : L2N.Takes (cxOf (L2N.CX P w) P w G.K G.mg base ["house", "arrows", "room"] "need_state" (defScope (topS 16)) (f 7) cdv A outer s H E) (fun cls d _ H => E cls d H) := L2N.takes_of rfl rfl rfl rfl
  have po : PassesOwn (model P w) (cxOf (L2N.CX P w) P w G.K G.mg base ["house", "arrows", "room"] "need_state" (defScope (topS 16)) (f 7) cdv A outer s H E).A (cxOf (L2N.CX P w) P w G.K G.mg base ["house", "arrows", "room"] "need_state" (defScope (topS 16)) (f 7) cdv A outer s H E).env (cxOf (L2N.CX P w) P w G.K G.mg base ["house", "arrows", "room"] "need_state" (defScope (topS 16)) (f 7) cdv A outer s H E).xe := passes_of rfl
  exact (s_cons (s_expr (e_call (ks := [false, false]) (ok5 t) (hr.mono (by decide)) rfl t.g5 t.F5.kp t.b5 tk hx rfl rfl fnDen_len (a_cons (e_var 0) (a_cons (e_var 1) a_nil))))
  (s_one (s_expr (e_call (ks := [false, false]) (ok2 t) (hr.mono (by decide)) rfl t.g2 t.F2.kp t.b2 tk hx rfl rfl fnDen_len (a_cons (e_var 0) (a_cons (e_var 2) a_nil))))))
/-- need_round -/
theorem ok8 (t : Law K mg f fd tok) : FnOk P w K mg base (L2N.CX P w) 6 (f 8) (fd 8) ["house", "arrows", "room"] (spI K mg ["house", "arrows", "room"].length d8) := fn_den t.F8 sc8 fun cdv A outer s H E G hK hM hx hr => by
  subst hK
  subst hM
  have tk : L2N.Takes (cxOf (L2N.CX P w) P w G.K G.mg base ["house", "arrows", "room"] "need_round" (defScope (topS 18)) (f 8) cdv A outer s H E) (fun cls d _ H => E cls d H) := L2N.takes_of rfl rfl rfl rfl
  have po : PassesOwn (model P w) (cxOf (L2N.CX P w) P w G.K G.mg base ["house", "arrows", "room"] "need_round" (defScope (topS 18)) (f 8) cdv A outer s H E).A (cxOf (L2N.CX P w) P w G.K G.mg base ["house", "arrows", "room"] "need_round" (defScope (topS 18)) (f 8) cdv A outer s H E).env (cxOf (L2N.CX P w) P w G.K G.mg base ["house", "arrows", "room"] "need_round" (defScope (topS 18)) (f 8) cdv A outer s H E).xe := passes_of rfl
  exact (s_cons (s_expr (e_call (ks := [false, false, false]) (ok7 t) (hr.mono (by decide)) rfl t.g7 t.F7.kp t.b7 tk hx rfl rfl fnDen_len (a_cons (e_var 0) (a_cons (e_var 1) (a_cons (e_var 2) a_nil)))))
  (s_one (s_if (t_not (t_val (e_call (ks := [false]) (ok3 t) (hr.mono (by decide)) rfl t.g3 t.F3.kp t.b3 tk hx rfl rfl fnDen_len (a_cons (e_var 0) a_nil))))
  (s_one s_never)
  s_nil)))
/-- round_of -/
theorem ok9 (t : Law K mg f fd tok) : FnOk P w K mg base (L2N.CX P w) 7 (f 9) (fd 9) ["house", "arrows", "room"] (spI K mg ["house", "arrows", "room"].length d9) := fn_den t.F9 sc9 fun cdv A outer s H E G hK hM hx hr => by
  subst hK
  subst hM
  have tk : L2N.Takes (cxOf (L2N.CX P w) P w G.K G.mg base ["house", "arrows", "room", "seen", "many", "ahead"] "round_of" (defScope (topS 19)) (f 9) cdv A outer s H E) (fun cls d _ H => E cls d H) := L2N.takes_of rfl rfl rfl rfl
  have po : PassesOwn (model P w) (cxOf (L2N.CX P w) P w G.K G.mg base ["house", "arrows", "room", "seen", "many", "ahead"] "round_of" (defScope (topS 19)) (f 9) cdv A outer s H E).A (cxOf (L2N.CX P w) P w G.K G.mg base ["house", "arrows", "room", "seen", "many", "ahead"] "round_of" (defScope (topS 19)) (f 9) cdv A outer s H E).env (cxOf (L2N.CX P w) P w G.K G.mg base ["house", "arrows", "room", "seen", "many", "ahead"] "round_of" (defScope (topS 19)) (f 9) cdv A outer s H E).xe := passes_of rfl
  exact (s_cons (s_expr (e_call (ks := [false, false, false]) (ok8 t) (hr.mono (by decide)) rfl t.g8 t.F8.kp t.b8 tk hx rfl rfl fnDen_len (a_cons (e_var 0) (a_cons (e_var 1) (a_cons (e_var 2) a_nil)))))
  (s_cons (s_setN (i := 3) sc9.nd rfl (by first | exact .inl rfl | exact .inr rfl))
  (s_cons (s_set (i := 4) sc9.nd rfl (by first | exact .inl rfl | exact .inr rfl) e_int)
  (s_cons (s_while po (t_inN (i := 3) true rfl (op_notInN (Room.units hr)) (e_tup (a_cons (e_var 1) (a_cons (e_var 2) a_nil))))
  (s_cons (s_asg (T := []) (e_var 4) (g_putN 3 (Room.units hr) rfl (e_tup (a_cons (e_var 1) (a_cons (e_var 2) a_nil)))))
  (s_cons (s_asg (T := [1, 2]) (e_call (ks := [false, false, false]) (ok6 t) (hr.mono (by decide)) rfl t.g6 t.F6.kp t.b6 tk hx rfl rfl fnDen_len (a_cons (e_var 0) (a_cons (e_var 1) (a_cons (e_var 2) a_nil)))) (g_tup rfl rfl (gs_cons (g_name (i := 1) sc9.nd rfl (by first | exact .inl rfl | exact .inr rfl) (by decide)) (gs_cons (g_name (i := 2) sc9.nd rfl (by first | exact .inl rfl | exact .inr rfl) (by decide)) gs_nil))))
  (s_one (s_set (i := 4) sc9.nd rfl (by first | exact .inl rfl | exact .inr rfl) (e_bin op_addA g_add (e_var 4) e_int))))))
  (s_cons (s_set (i := 5) sc9.nd rfl (by first | exact .inl rfl | exact .inr rfl) (e_ixN (i := 3) (Room.units hr) rfl (e_tup (a_cons (e_var 1) (a_cons (e_var 2) a_nil))) (fun _ _ => rfl)))
  (s_one (s_ret (e_tup (a_cons (e_var 5) (a_cons (e_bin op_sub g_sub (e_var 4) (e_var 5)) a_nil))))))))))
/-- _law_right -/
theorem ok19 (t : Law K mg f fd tok) : FnOk P w K mg base (L2N.CX P w) 8 (f 19) (fd 19) ["house", "arrows", "room"] (spI K mg ["house", "arrows", "room"].length d19) := fn_den t.F19 sc19 fun cdv A outer s H E G hK hM hx hr => by
  subst hK
  subst hM
  have tk : L2N.Takes (cxOf (L2N.CX P w) P w G.K G.mg base ["house", "arrows", "room", "ahead", "many", "states", "turn"] "_law_right" (defScope (topS 30)) (f 19) cdv A outer s H E) (fun cls d _ H => E cls d H) := L2N.takes_of rfl rfl rfl rfl
  have po : PassesOwn (model P w) (cxOf (L2N.CX P w) P w G.K G.mg base ["house", "arrows", "room", "ahead", "many", "states", "turn"] "_law_right" (defScope (topS 30)) (f 19) cdv A outer s H E).A (cxOf (L2N.CX P w) P w G.K G.mg base ["house", "arrows", "room", "ahead", "many", "states", "turn"] "_law_right" (defScope (topS 30)) (f 19) cdv A outer s H E).env (cxOf (L2N.CX P w) P w G.K G.mg base ["house", "arrows", "room", "ahead", "many", "states", "turn"] "_law_right" (defScope (topS 30)) (f 19) cdv A outer s H E).xe := passes_of rfl
  exact (s_cons (s_asg (T := [3, 4, 5]) (e_call (ks := [false, false, false]) (ok18 t) (hr.mono (by decide)) rfl t.g18 t.F18.kp t.b18 tk hx rfl rfl fnDen_len (a_cons (e_var 0) (a_cons (e_var 1) (a_cons (e_var 2) a_nil)))) (g_tup rfl rfl (gs_cons (g_name (i := 3) sc19.nd rfl (by first | exact .inl rfl | exact .inr rfl) (by decide)) (gs_cons (g_name (i := 4) sc19.nd rfl (by first | exact .inl rfl | exact .inr rfl) (by decide)) (gs_cons (g_name (i := 5) sc19.nd rfl (by first | exact .inl rfl | exact .inr rfl) (by decide)) gs_nil)))))
  (s_cons (s_for (T := [6]) po rfl (i_rng1 rfl t.n_range (a_cons e_int a_nil)) (g_name (i := 6) sc19.nd rfl (by first | exact .inl rfl | exact .inr rfl) (by decide))
  (s_one (s_if (t_not (t_val (e_call (ks := [false, false]) (ok17 t) (hr.mono (by decide)) rfl t.g17 t.F17.kp t.b17 tk hx rfl rfl fnDen_len (a_cons (e_call (ks := [false, false, false]) (ok9 t) (hr.mono (by decide)) rfl t.g9 t.F9.kp t.b9 tk hx rfl rfl fnDen_len (a_cons (e_var 0) (a_cons (e_var 1) (a_cons (e_var 2) a_nil)))) (a_cons (e_tup (a_cons (e_var 3) (a_cons (e_var 4) a_nil))) a_nil)))))
  (s_one (s_ret e_bl))
  s_nil)))
  (s_one (s_ret e_bl))))
/-- law -/
theorem ok20 (t : Law K mg f fd tok) : FnOk P w K mg base (L2N.CX P w) 9 (f 20) (fd 20) ["script"] (spI K mg ["script"].length d20) := fn_den t.F20 sc20 fun cdv A outer s H E G hK hM hx hr => by
  subst hK
  subst hM
  have tk : L2N.Takes (cxOf (L2N.CX P w) P w G.K G.mg base ["script", "cell", "pen", "house", "arrows", "room"] "law" (defScope (topS 31)) (f 20) cdv A outer s H E) (fun cls d _ H => E cls d H) := L2N.takes_of rfl rfl rfl rfl
  have po : PassesOwn (model P w) (cxOf (L2N.CX P w) P w G.K G.mg base ["script", "cell", "pen", "house", "arrows", "room"] "law" (defScope (topS 31)) (f 20) cdv A outer s H E).A (cxOf (L2N.CX P w) P w G.K G.mg base ["script", "cell", "pen", "house", "arrows", "room"] "law" (defScope (topS 31)) (f 20) cdv A outer s H E).env (cxOf (L2N.CX P w) P w G.K G.mg base ["script", "cell", "pen", "house", "arrows", "room"] "law" (defScope (topS 31)) (f 20) cdv A outer s H E).xe := passes_of rfl
  exact (s_cons (s_if (t_W (t_or (t_not (t_val (e_call (ks := [false, false, false]) (ok19 t) (hr.mono (by decide)) rfl t.g19 t.F19.kp t.b19 tk hx rfl rfl fnDen_len (a_cons (e_tup (a_cons (e_tup (a_cons e_int a_nil)) a_nil)) (a_cons (e_tup (a_cons e_int a_nil)) (a_cons e_int a_nil)))))) (t_or1 (t_not (t_val (e_call (ks := [false, false, false]) (ok19 t) (hr.mono (by decide)) rfl t.g19 t.F19.kp t.b19 tk hx rfl rfl fnDen_len (a_cons (e_tup (a_cons (e_tup (a_cons e_int (a_cons e_int a_nil))) (a_cons (e_tup (a_cons e_int a_nil)) a_nil))) (a_cons (e_tup (a_cons e_int (a_cons e_int a_nil))) (a_cons e_int a_nil)))))))))
  (s_one (s_ret e_bl))
  s_nil)
  (s_cons (s_for (T := [1]) po rfl (i_val rfl (e_bin op_addA g_add (e_lst (a_cons (e_call (ks := [false, false]) (ok10 t) (hr.mono (by decide)) rfl t.g10 t.F10.kp t.b10 tk hx rfl rfl fnDen_len (a_cons (e_var 0) (a_cons e_int a_nil))) a_nil)) (e_slice rfl (e_var 0) (po_so e_int) (po_so e_int)))) (g_name (i := 1) sc20.nd rfl (by first | exact .inl rfl | exact .inr rfl) (by decide))
  (s_cons (s_set (i := 2) sc20.nd rfl (by first | exact .inl rfl | exact .inr rfl) (e_call (ks := [false]) (ok11 t) (hr.mono (by decide)) rfl t.g11 t.F11.kp t.b11 tk hx rfl rfl fnDen_len (a_cons (e_var 1) a_nil)))
  (s_cons (s_set (i := 3) sc20.nd rfl (by first | exact .inl rfl | exact .inr rfl) (e_call (ks := [true, false, false]) (ok14 t) (hr.mono (by decide)) rfl t.g14 t.F14.kp t.b14 tk hx rfl rfl fnDen_len (a_cons (e_var 2) (a_cons (e_ix ix_seq g_ix (e_lst (a_cons e_int (a_cons e_int (a_cons e_int a_nil)))) (e_call (ks := [true, false]) (ok12 t) (hr.mono (by decide)) rfl t.g12 t.F12.kp t.b12 tk hx rfl rfl fnDen_len (a_cons (e_var 2) (a_cons e_int a_nil))) (fun _ _ => rfl)) (a_cons e_int a_nil)))))
  (s_cons (s_set (i := 4) sc20.nd rfl (by first | exact .inl rfl | exact .inr rfl) (e_call (ks := [true, false]) (ok15 t) (hr.mono (by decide)) rfl t.g15 t.F15.kp t.b15 tk hx rfl rfl fnDen_len (a_cons (e_var 2) (a_cons (e_var 3) a_nil))))
  (s_one (s_for (T := [5]) po rfl (i_rng1 rfl t.n_range (a_cons (e_callB call_len (g_len) rfl t.n_len (by decide +kernel) (a_cons (e_var 3) a_nil)) a_nil)) (g_name (i := 5) sc20.nd rfl (by first | exact .inl rfl | exact .inr rfl) (by decide))
  (s_one (s_if (t_not (t_val (e_call (ks := [false, false, false]) (ok19 t) (hr.mono (by decide)) rfl t.g19 t.F19.kp t.b19 tk hx rfl rfl fnDen_len (a_cons (e_var 3) (a_cons (e_var 4) (a_cons (e_var 5) a_nil))))))
  (s_one (s_ret e_bl))
  s_nil))))))))
  (s_one (s_ret e_bl))))
end
/-- what the top has written -/
theorem all_mk {l : PySem.W.OpenLaw} {w : World} {K : PySem.W.Frag} {h : Heap} {mg : Str → Option Value} {fa f0 f1 f2 f3 f4 f5 f6 f7 f8 f9 f10 f11 f12 f13 f14 f15 f16 f17 f18 f19 f20 : Addr} (X : K.In h) (G : h.Ns mainGlobals mg) (hfa : mg "law" = some (.ref fa))
    {od0 an0 : Option Addr} {sl0 : Array (Option Value)} {oc0 kV0 dc0 pm0 cd0 ct0 : Value}
    (a0 : PySem.W.nsIn K mainGlobals "is_whole" = some (some (.ref f0))) (l0 : K.lookup f0 = some ⟨oc0, od0, .func (PySem.W.fnOf "is_whole" "is_whole" (defArgs (topS 6)) (defBody (topS 6)) (defScope (topS 6)) .none kV0 dc0 pm0 an0 cd0 ct0), sl0⟩) (c0 : PySem.W.codeIn K cd0 "is_whole" = true) (k0 : PySem.W.keepIn K (.ref f0) = true)
    {od1 an1 : Option Addr} {sl1 : Array (Option Value)} {oc1 kV1 dc1 pm1 cd1 ct1 : Value}
    (a1 : PySem.W.nsIn K mainGlobals "is_number_of" = some (some (.ref f1))) (l1 : K.lookup f1 = some ⟨oc1, od1, .func (PySem.W.fnOf "is_number_of" "is_number_of" (defArgs (topS 7)) (defBody (topS 7)) (defScope (topS 7)) .none kV1 dc1 pm1 an1 cd1 ct1), sl1⟩) (c1 : PySem.W.codeIn K cd1 "is_number_of" = true) (k1 : PySem.W.keepIn K (.ref f1) = true)
    {od2 an2 : Option Addr} {sl2 : Array (Option Value)} {oc2 kV2 dc2 pm2 cd2 ct2 : Value}
    (a2 : PySem.W.nsIn K mainGlobals "check_room" = some (some (.ref f2))) (l2 : K.lookup f2 = some ⟨oc2, od2, .func (PySem.W.fnOf "check_room" "check_room" (defArgs (topS 9)) (defBody (topS 9)) (defScope (topS 9)) .none kV2 dc2 pm2 an2 cd2 ct2), sl2⟩) (c2 : PySem.W.codeIn K cd2 "check_room" = true) (k2 : PySem.W.keepIn K (.ref f2) = true)
    {od3 an3 : Option Addr} {sl3 : Array (Option Value)} {oc3 kV3 dc3 pm3 cd3 ct3 : Value}
    (a3 : PySem.W.nsIn K mainGlobals "is_shut" = some (some (.ref f3))) (l3 : K.lookup f3 = some ⟨oc3, od3, .func (PySem.W.fnOf "is_shut" "is_shut" (defArgs (topS 10)) (defBody (topS 10)) (defScope (topS 10)) .none kV3 dc3 pm3 an3 cd3 ct3), sl3⟩) (c3 : PySem.W.codeIn K cd3 "is_shut" = true) (k3 : PySem.W.keepIn K (.ref f3) = true)
    {od4 an4 : Option Addr} {sl4 : Array (Option Value)} {oc4 kV4 dc4 pm4 cd4 ct4 : Value}
    (a4 : PySem.W.nsIn K mainGlobals "is_arrows" = some (some (.ref f4))) (l4 : K.lookup f4 = some ⟨oc4, od4, .func (PySem.W.fnOf "is_arrows" "is_arrows" (defArgs (topS 12)) (defBody (topS 12)) (defScope (topS 12)) .none kV4 dc4 pm4 an4 cd4 ct4), sl4⟩) (c4 : PySem.W.codeIn K cd4 "is_arrows" = true) (k4 : PySem.W.keepIn K (.ref f4) = true)
    {od5 an5 : Option Addr} {sl5 : Array (Option Value)} {oc5 kV5 dc5 pm5 cd5 ct5 : Value}
    (a5 : PySem.W.nsIn K mainGlobals "check_arrows" = some (some (.ref f5))) (l5 : K.lookup f5 = some ⟨oc5, od5, .func (PySem.W.fnOf "check_arrows" "check_arrows" (defArgs (topS 13)) (defBody (topS 13)) (defScope (topS 13)) .none kV5 dc5 pm5 an5 cd5 ct5), sl5⟩) (c5 : PySem.W.codeIn K cd5 "check_arrows" = true) (k5 : PySem.W.keepIn K (.ref f5) = true)
    {od6 an6 : Option Addr} {sl6 : Array (Option Value)} {oc6 kV6 dc6 pm6 cd6 ct6 : Value}
    (a6 : PySem.W.nsIn K mainGlobals "stepped" = some (some (.ref f6))) (l6 : K.lookup f6 = some ⟨oc6, od6, .func (PySem.W.fnOf "stepped" "stepped" (defArgs (topS 15)) (defBody (topS 15)) (defScope (topS 15)) .none kV6 dc6 pm6 an6 cd6 ct6), sl6⟩) (c6 : PySem.W.codeIn K cd6 "stepped" = true) (k6 : PySem.W.keepIn K (.ref f6) = true)
    {od7 an7 : Option Addr} {sl7 : Array (Option Value)} {oc7 kV7 dc7 pm7 cd7 ct7 : Value}
    (a7 : PySem.W.nsIn K mainGlobals "need_state" = some (some (.ref f7))) (l7 : K.lookup f7 = some ⟨oc7, od7, .func (PySem.W.fnOf "need_state" "need_state" (defArgs (topS 16)) (defBody (topS 16)) (defScope (topS 16)) .none kV7 dc7 pm7 an7 cd7 ct7), sl7⟩) (c7 : PySem.W.codeIn K cd7 "need_state" = true) (k7 : PySem.W.keepIn K (.ref f7) = true)
    {od8 an8 : Option Addr} {sl8 : Array (Option Value)} {oc8 kV8 dc8 pm8 cd8 ct8 : Value}
    (a8 : PySem.W.nsIn K mainGlobals "need_round" = some (some (.ref f8))) (l8 : K.lookup f8 = some ⟨oc8, od8, .func (PySem.W.fnOf "need_round" "need_round" (defArgs (topS 18)) (defBody (topS 18)) (defScope (topS 18)) .none kV8 dc8 pm8 an8 cd8 ct8), sl8⟩) (c8 : PySem.W.codeIn K cd8 "need_round" = true) (k8 : PySem.W.keepIn K (.ref f8) = true)
    {od9 an9 : Option Addr} {sl9 : Array (Option Value)} {oc9 kV9 dc9 pm9 cd9 ct9 : Value}
    (a9 : PySem.W.nsIn K mainGlobals "round_of" = some (some (.ref f9))) (l9 : K.lookup f9 = some ⟨oc9, od9, .func (PySem.W.fnOf "round_of" "round_of" (defArgs (topS 19)) (defBody (topS 19)) (defScope (topS 19)) .none kV9 dc9 pm9 an9 cd9 ct9), sl9⟩) (c9 : PySem.W.codeIn K cd9 "round_of" = true) (k9 : PySem.W.keepIn K (.ref f9) = true)
    {od10 an10 : Option Addr} {sl10 : Array (Option Value)} {oc10 kV10 dc10 pm10 cd10 ct10 : Value}
    (a10 : PySem.W.nsIn K mainGlobals "_law_cell" = some (some (.ref f10))) (l10 : K.lookup f10 = some ⟨oc10, od10, .func (PySem.W.fnOf "_law_cell" "_law_cell" (defArgs (topS 21)) (defBody (topS 21)) (defScope (topS 21)) .none kV10 dc10 pm10 an10 cd10 ct10), sl10⟩) (c10 : PySem.W.codeIn K cd10 "_law_cell" = true) (k10 : PySem.W.keepIn K (.ref f10) = true)
    {od11 an11 : Option Addr} {sl11 : Array (Option Value)} {oc11 kV11 dc11 pm11 cd11 ct11 : Value}
    (a11 : PySem.W.nsIn K mainGlobals "_law_pen" = some (some (.ref f11))) (l11 : K.lookup f11 = some ⟨oc11, od11, .func (PySem.W.fnOf "_law_pen" "_law_pen" (defArgs (topS 22)) (defBody (topS 22)) (defScope (topS 22)) .none kV11 dc11 pm11 an11 cd11 ct11), sl11⟩) (c11 : PySem.W.codeIn K cd11 "_law_pen" = true) (k11 : PySem.W.keepIn K (.ref f11) = true)
    {od12 an12 : Option Addr} {sl12 : Array (Option Value)} {oc12 kV12 dc12 pm12 cd12 ct12 : Value}
    (a12 : PySem.W.nsIn K mainGlobals "_law_draw" = some (some (.ref f12))) (l12 : K.lookup f12 = some ⟨oc12, od12, .func (PySem.W.fnOf "_law_draw" "_law_draw" (defArgs (topS 23)) (defBody (topS 23)) (defScope (topS 23)) .none kV12 dc12 pm12 an12 cd12 ct12), sl12⟩) (c12 : PySem.W.codeIn K cd12 "_law_draw" = true) (k12 : PySem.W.keepIn K (.ref f12) = true)
    {od13 an13 : Option Addr} {sl13 : Array (Option Value)} {oc13 kV13 dc13 pm13 cd13 ct13 : Value}
    (a13 : PySem.W.nsIn K mainGlobals "_law_whole" = some (some (.ref f13))) (l13 : K.lookup f13 = some ⟨oc13, od13, .func (PySem.W.fnOf "_law_whole" "_law_whole" (defArgs (topS 24)) (defBody (topS 24)) (defScope (topS 24)) .none kV13 dc13 pm13 an13 cd13 ct13), sl13⟩) (c13 : PySem.W.codeIn K cd13 "_law_whole" = true) (k13 : PySem.W.keepIn K (.ref f13) = true)
    {od14 an14 : Option Addr} {sl14 : Array (Option Value)} {oc14 kV14 dc14 pm14 cd14 ct14 : Value}
    (a14 : PySem.W.nsIn K mainGlobals "_law_shut" = some (some (.ref f14))) (l14 : K.lookup f14 = some ⟨oc14, od14, .func (PySem.W.fnOf "_law_shut" "_law_shut" (defArgs (topS 25)) (defBody (topS 25)) (defScope (topS 25)) .none kV14 dc14 pm14 an14 cd14 ct14), sl14⟩) (c14 : PySem.W.codeIn K cd14 "_law_shut" = true) (k14 : PySem.W.keepIn K (.ref f14) = true)
    {od15 an15 : Option Addr} {sl15 : Array (Option Value)} {oc15 kV15 dc15 pm15 cd15 ct15 : Value}
    (a15 : PySem.W.nsIn K mainGlobals "_law_arrows" = some (some (.ref f15))) (l15 : K.lookup f15 = some ⟨oc15, od15, .func (PySem.W.fnOf "_law_arrows" "_law_arrows" (defArgs (topS 26)) (defBody (topS 26)) (defScope (topS 26)) .none kV15 dc15 pm15 an15 cd15 ct15), sl15⟩) (c15 : PySem.W.codeIn K cd15 "_law_arrows" = true) (k15 : PySem.W.keepIn K (.ref f15) = true)
    {od16 an16 : Option Addr} {sl16 : Array (Option Value)} {oc16 kV16 dc16 pm16 cd16 ct16 : Value}
    (a16 : PySem.W.nsIn K mainGlobals "_law_left" = some (some (.ref f16))) (l16 : K.lookup f16 = some ⟨oc16, od16, .func (PySem.W.fnOf "_law_left" "_law_left" (defArgs (topS 27)) (defBody (topS 27)) (defScope (topS 27)) .none kV16 dc16 pm16 an16 cd16 ct16), sl16⟩) (c16 : PySem.W.codeIn K cd16 "_law_left" = true) (k16 : PySem.W.keepIn K (.ref f16) = true)
    {od17 an17 : Option Addr} {sl17 : Array (Option Value)} {oc17 kV17 dc17 pm17 cd17 ct17 : Value}
    (a17 : PySem.W.nsIn K mainGlobals "_law_tuple" = some (some (.ref f17))) (l17 : K.lookup f17 = some ⟨oc17, od17, .func (PySem.W.fnOf "_law_tuple" "_law_tuple" (defArgs (topS 28)) (defBody (topS 28)) (defScope (topS 28)) .none kV17 dc17 pm17 an17 cd17 ct17), sl17⟩) (c17 : PySem.W.codeIn K cd17 "_law_tuple" = true) (k17 : PySem.W.keepIn K (.ref f17) = true)
    {od18 an18 : Option Addr} {sl18 : Array (Option Value)} {oc18 kV18 dc18 pm18 cd18 ct18 : Value}
    (a18 : PySem.W.nsIn K mainGlobals "_law_round" = some (some (.ref f18))) (l18 : K.lookup f18 = some ⟨oc18, od18, .func (PySem.W.fnOf "_law_round" "_law_round" (defArgs (topS 29)) (defBody (topS 29)) (defScope (topS 29)) .none kV18 dc18 pm18 an18 cd18 ct18), sl18⟩) (c18 : PySem.W.codeIn K cd18 "_law_round" = true) (k18 : PySem.W.keepIn K (.ref f18) = true)
    {od19 an19 : Option Addr} {sl19 : Array (Option Value)} {oc19 kV19 dc19 pm19 cd19 ct19 : Value}
    (a19 : PySem.W.nsIn K mainGlobals "_law_right" = some (some (.ref f19))) (l19 : K.lookup f19 = some ⟨oc19, od19, .func (PySem.W.fnOf "_law_right" "_law_right" (defArgs (topS 30)) (defBody (topS 30)) (defScope (topS 30)) .none kV19 dc19 pm19 an19 cd19 ct19), sl19⟩) (c19 : PySem.W.codeIn K cd19 "_law_right" = true) (k19 : PySem.W.keepIn K (.ref f19) = true)
    {od20 an20 : Option Addr} {sl20 : Array (Option Value)} {oc20 kV20 dc20 pm20 cd20 ct20 : Value}
    (a20 : PySem.W.nsIn K mainGlobals "law" = some (some (.ref f20))) (l20 : K.lookup f20 = some ⟨oc20, od20, .func (PySem.W.fnOf "law" "law" (defArgs (topS 31)) (defBody (topS 31)) (defScope (topS 31)) .none kV20 dc20 pm20 an20 cd20 ct20), sl20⟩) (c20 : PySem.W.codeIn K cd20 "law" = true) (k20 : PySem.W.keepIn K (.ref f20) = true)
    (z_isinstance : PySem.W.nsIn K mainGlobals "isinstance" = some none)
    (z_int : PySem.W.nsIn K mainGlobals "int" = some none)
    (z_bool : PySem.W.nsIn K mainGlobals "bool" = some none)
    (z_len : PySem.W.nsIn K mainGlobals "len" = some none)
    (z_all : PySem.W.nsIn K mainGlobals "all" = some none)
    (z_min : PySem.W.nsIn K mainGlobals "min" = some none)
    (z_tuple : PySem.W.nsIn K mainGlobals "tuple" = some none)
    (z_zip : PySem.W.nsIn K mainGlobals "zip" = some none)
    (z_max : PySem.W.nsIn K mainGlobals "max" = some none)
    (z_divmod : PySem.W.nsIn K mainGlobals "divmod" = some none)
    (z_range : PySem.W.nsIn K mainGlobals "range" = some none)
    (z_list : PySem.W.nsIn K mainGlobals "list" = some none)
    : ∃ fd : FuncData, (∀ (s : Shared) (v : Value), BindsTo s fd ⟨[v], []⟩ [("script", v)]) ∧ ∀ base : Heap, K.In base → base.Ns mainGlobals mg → FnOk l.prog w K mg base (L2N.CX l.prog w) 9 fa fd ["script"] (spI K mg ["script"].length d20) := by
  have e := hfa.symm.trans (PySem.W.mg_of X G a20)
  cases e
  have F0 := fun_mk (st := topS 6) l0 c0 k0
  have F1 := fun_mk (st := topS 7) l1 c1 k1
  have F2 := fun_mk (st := topS 9) l2 c2 k2
  have F3 := fun_mk (st := topS 10) l3 c3 k3
  have F4 := fun_mk (st := topS 12) l4 c4 k4
  have F5 := fun_mk (st := topS 13) l5 c5 k5
  have F6 := fun_mk (st := topS 15) l6 c6 k6
  have F7 := fun_mk (st := topS 16) l7 c7 k7
  have F8 := fun_mk (st := topS 18) l8 c8 k8
  have F9 := fun_mk (st := topS 19) l9 c9 k9
  have F10 := fun_mk (st := topS 21) l10 c10 k10
  have F11 := fun_mk (st := topS 22) l11 c11 k11
  have F12 := fun_mk (st := topS 23) l12 c12 k12
  have F13 := fun_mk (st := topS 24) l13 c13 k13
  have F14 := fun_mk (st := topS 25) l14 c14 k14
  have F15 := fun_mk (st := topS 26) l15 c15 k15
  have F16 := fun_mk (st := topS 27) l16 c16 k16
  have F17 := fun_mk (st := topS 28) l17 c17 k17
  have F18 := fun_mk (st := topS 29) l18 c18 k18
  have F19 := fun_mk (st := topS 30) l19 c19 k19
  have F20 := fun_mk (st := topS 31) l20 c20 k20
  let f : Nat → Addr := fun | 0 => f0 | 1 => f1 | 2 => f2 | 3 => f3 | 4 => f4 | 5 => f5 | 6 => f6 | 7 => f7 | 8 => f8 | 9 => f9 | 10 => f10 | 11 => f11 | 12 => f12 | 13 => f13 | 14 => f14 | 15 => f15 | 16 => f16 | 17 => f17 | 18 => f18 | 19 => f19 | 20 => fa | _ => 0
  let fd : Nat → FuncData := fun | 0 => PySem.W.fnOf "is_whole" "is_whole" (defArgs (topS 6)) (defBody (topS 6)) (defScope (topS 6)) .none kV0 dc0 pm0 an0 cd0 ct0 | 1 => PySem.W.fnOf "is_number_of" "is_number_of" (defArgs (topS 7)) (defBody (topS 7)) (defScope (topS 7)) .none kV1 dc1 pm1 an1 cd1 ct1 | 2 => PySem.W.fnOf "check_room" "check_room" (defArgs (topS 9)) (defBody (topS 9)) (defScope (topS 9)) .none kV2 dc2 pm2 an2 cd2 ct2 | 3 => PySem.W.fnOf "is_shut" "is_shut" (defArgs (topS 10)) (defBody (topS 10)) (defScope (topS 10)) .none kV3 dc3 pm3 an3 cd3 ct3 | 4 => PySem.W.fnOf "is_arrows" "is_arrows" (defArgs (topS 12)) (defBody (topS 12)) (defScope (topS 12)) .none kV4 dc4 pm4 an4 cd4 ct4 | 5 => PySem.W.fnOf "check_arrows" "check_arrows" (defArgs (topS 13)) (defBody (topS 13)) (defScope (topS 13)) .none kV5 dc5 pm5 an5 cd5 ct5 | 6 => PySem.W.fnOf "stepped" "stepped" (defArgs (topS 15)) (defBody (topS 15)) (defScope (topS 15)) .none kV6 dc6 pm6 an6 cd6 ct6 | 7 => PySem.W.fnOf "need_state" "need_state" (defArgs (topS 16)) (defBody (topS 16)) (defScope (topS 16)) .none kV7 dc7 pm7 an7 cd7 ct7 | 8 => PySem.W.fnOf "need_round" "need_round" (defArgs (topS 18)) (defBody (topS 18)) (defScope (topS 18)) .none kV8 dc8 pm8 an8 cd8 ct8 | 9 => PySem.W.fnOf "round_of" "round_of" (defArgs (topS 19)) (defBody (topS 19)) (defScope (topS 19)) .none kV9 dc9 pm9 an9 cd9 ct9 | 10 => PySem.W.fnOf "_law_cell" "_law_cell" (defArgs (topS 21)) (defBody (topS 21)) (defScope (topS 21)) .none kV10 dc10 pm10 an10 cd10 ct10 | 11 => PySem.W.fnOf "_law_pen" "_law_pen" (defArgs (topS 22)) (defBody (topS 22)) (defScope (topS 22)) .none kV11 dc11 pm11 an11 cd11 ct11 | 12 => PySem.W.fnOf "_law_draw" "_law_draw" (defArgs (topS 23)) (defBody (topS 23)) (defScope (topS 23)) .none kV12 dc12 pm12 an12 cd12 ct12 | 13 => PySem.W.fnOf "_law_whole" "_law_whole" (defArgs (topS 24)) (defBody (topS 24)) (defScope (topS 24)) .none kV13 dc13 pm13 an13 cd13 ct13 | 14 => PySem.W.fnOf "_law_shut" "_law_shut" (defArgs (topS 25)) (defBody (topS 25)) (defScope (topS 25)) .none kV14 dc14 pm14 an14 cd14 ct14 | 15 => PySem.W.fnOf "_law_arrows" "_law_arrows" (defArgs (topS 26)) (defBody (topS 26)) (defScope (topS 26)) .none kV15 dc15 pm15 an15 cd15 ct15 | 16 => PySem.W.fnOf "_law_left" "_law_left" (defArgs (topS 27)) (defBody (topS 27)) (defScope (topS 27)) .none kV16 dc16 pm16 an16 cd16 ct16 | 17 => PySem.W.fnOf "_law_tuple" "_law_tuple" (defArgs (topS 28)) (defBody (topS 28)) (defScope (topS 28)) .none kV17 dc17 pm17 an17 cd17 ct17 | 18 => PySem.W.fnOf "_law_round" "_law_round" (defArgs (topS 29)) (defBody (topS 29)) (defScope (topS 29)) .none kV18 dc18 pm18 an18 cd18 ct18 | 19 => PySem.W.fnOf "_law_right" "_law_right" (defArgs (topS 30)) (defBody (topS 30)) (defScope (topS 30)) .none kV19 dc19 pm19 an19 cd19 ct19 | 20 => PySem.W.fnOf "law" "law" (defArgs (topS 31)) (defBody (topS 31)) (defScope (topS 31)) .none kV20 dc20 pm20 an20 cd20 ct20 | _ => PySem.W.fnOf "is_whole" "is_whole" (defArgs (topS 6)) (defBody (topS 6)) (defScope (topS 6)) .none kV0 dc0 pm0 an0 cd0 ct0
  let tok : Nat → Tok := fun | _ => default
  have t : Law K mg f fd tok := ⟨F0, PySem.W.mg_of X G a0, F0.binds (ps := ["thing"]) fun _ _ _ _ _ _ us hl => match us, hl with | [_], _ => rfl, F1, PySem.W.mg_of X G a1, F1.binds (ps := ["thing", "many"]) fun _ _ _ _ _ _ us hl => match us, hl with | [_, _], _ => rfl, F2, PySem.W.mg_of X G a2, F2.binds (ps := ["house", "room"]) fun _ _ _ _ _ _ us hl => match us, hl with | [_, _], _ => rfl, F3, PySem.W.mg_of X G a3, F3.binds (ps := ["house"]) fun _ _ _ _ _ _ us hl => match us, hl with | [_], _ => rfl, F4, PySem.W.mg_of X G a4, F4.binds (ps := ["house", "thing"]) fun _ _ _ _ _ _ us hl => match us, hl with | [_, _], _ => rfl, F5, PySem.W.mg_of X G a5, F5.binds (ps := ["house", "arrows"]) fun _ _ _ _ _ _ us hl => match us, hl with | [_, _], _ => rfl, F6, PySem.W.mg_of X G a6, F6.binds (ps := ["house", "arrows", "room"]) fun _ _ _ _ _ _ us hl => match us, hl with | [_, _, _], _ => rfl, F7, PySem.W.mg_of X G a7, F7.binds (ps := ["house", "arrows", "room"]) fun _ _ _ _ _ _ us hl => match us, hl with | [_, _, _], _ => rfl, F8, PySem.W.mg_of X G a8, F8.binds (ps := ["house", "arrows", "room"]) fun _ _ _ _ _ _ us hl => match us, hl with | [_, _, _], _ => rfl, F9, PySem.W.mg_of X G a9, F9.binds (ps := ["house", "arrows", "room"]) fun _ _ _ _ _ _ us hl => match us, hl with | [_, _, _], _ => rfl, F10, PySem.W.mg_of X G a10, F10.binds (ps := ["script", "k"]) fun _ _ _ _ _ _ us hl => match us, hl with | [_, _], _ => rfl, F11, PySem.W.mg_of X G a11, F11.binds (ps := ["cell"]) fun _ _ _ _ _ _ us hl => match us, hl with | [_], _ => rfl, F12, PySem.W.mg_of X G a12, F12.binds (ps := ["pen", "many"]) fun _ _ _ _ _ _ us hl => match us, hl with | [_, _], _ => rfl, F13, PySem.W.mg_of X G a13, F13.binds (ps := ["thing"]) fun _ _ _ _ _ _ us hl => match us, hl with | [_], _ => rfl, F14, PySem.W.mg_of X G a14, F14.binds (ps := ["pen", "most", "doors"]) fun _ _ _ _ _ _ us hl => match us, hl with | [_, _, _], _ => rfl, F15, PySem.W.mg_of X G a15, F15.binds (ps := ["pen", "house"]) fun _ _ _ _ _ _ us hl => match us, hl with | [_, _], _ => rfl, F16, PySem.W.mg_of X G a16, F16.binds (ps := ["house", "arrows", "room"]) fun _ _ _ _ _ _ us hl => match us, hl with | [_, _, _], _ => rfl, F17, PySem.W.mg_of X G a17, F17.binds (ps := ["found", "due"]) fun _ _ _ _ _ _ us hl => match us, hl with | [_, _], _ => rfl, F18, PySem.W.mg_of X G a18, F18.binds (ps := ["house", "arrows", "room"]) fun _ _ _ _ _ _ us hl => match us, hl with | [_, _, _], _ => rfl, F19, PySem.W.mg_of X G a19, F19.binds (ps := ["house", "arrows", "room"]) fun _ _ _ _ _ _ us hl => match us, hl with | [_, _, _], _ => rfl, F20, PySem.W.mg_of X G a20, F20.binds (ps := ["script"]) fun _ _ _ _ _ _ us hl => match us, hl with | [_], _ => rfl, PySem.W.mg_none_of X G z_isinstance, PySem.W.mg_none_of X G z_int, PySem.W.mg_none_of X G z_bool, PySem.W.mg_none_of X G z_len, PySem.W.mg_none_of X G z_all, PySem.W.mg_none_of X G z_min, PySem.W.mg_none_of X G z_tuple, PySem.W.mg_none_of X G z_zip, PySem.W.mg_none_of X G z_max, PySem.W.mg_none_of X G z_divmod, PySem.W.mg_none_of X G z_range, PySem.W.mg_none_of X G z_list⟩
  exact ⟨fd 20, fun s v => .of_eq rfl, fun base _ _ => ok20 t⟩
end Nb
namespace Nb
open L2 PySem PySem.Spec PyProof.Rows
theorem whole_p {d : D} : d0 [.v d] = .ok (.bool (isW d)) [.no] := by
  simp -implicitDefEqProofs (maxSteps := 4000000) (disch := first | with_unfolding_all rfl | omega | (simp only [List.length_append, List.length_cons, List.length_nil, List.length_map, List.length_replicate, List.length_take, List.length_drop]; omega)) only [d0, Nb.v_zipM, Nb.zm_ll, Nb.zm_lt, Nb.zm_tl, Nb.zm_tt, Nb.fp_ok, Nb.fp_okt, Nb.fp_ex, Nb.v_mFP, Nb.v_tupP, Nb.tp_f, Nb.tp_s, Nb.tp_d, Nb.v_pairD, Nb.oa_o, Nb.oa_v, Nb.v_retP, Nb.rp_d, Nb.rp_t, Nb.v_unpP, Nb.up_d, Nb.up_t, Nb.v_putO, Nb.po_n, Nb.po_v, Nb.po_o, Nb.v_parO, Nb.pr_ff, Nb.v_mLcO, Nb.la_o, Nb.la_v, Nb.nn_n, Nb.v_ix1P, Nb.i1_t, Nb.i1_d, Nb.kO_t, Nb.v_inN, Nb.v_ixN, Nb.v_setN, Nb.is_n, Nb.nio_no, Nb.nio_v, Nb.nio_n, Nb.v_putN, Nb.oe_s, Nb.oe_n, Nb.v_c, Nb.v_var, Nb.vs_v, Nb.vs_o, Nb.vs_io, Nb.w_d, Nb.w_f, Nb.w_s, Nb.ws_o, Nb.ws_io, Nb.ws_v, Nb.cl_l, Nb.cl_d, Nb.a_d, Nb.a_f, Nb.a_s, Nb.as_o, Nb.as_v, Nb.as_nil, Nb.as_cons, Nb.v_m2, Nb.v_ap2, Nb.v_m1, Nb.v_ap1, Nb.v_set, Nb.sd_no, Nb.sd_v, Nb.sd_o, Nb.sf_no, Nb.sf_v, Nb.sf_o, Nb.ss_no, Nb.ss_v, Nb.ss_oo, Nb.v_nil, Nb.v_cons, Nb.v_tup, Nb.v_lst, Nb.v_rep, Nb.w_nil, Nb.w_cons, Nb.v_mA, Nb.p_nil, Nb.p_t, Nb.p_f, Nb.x_d, Nb.x_f, Nb.x_s, Nb.xs_v, Nb.xs_o, Nb.xs_io, Nb.ce_nil, Nb.ce_v, Nb.ce_i, Nb.cs_o, Nb.cs_io, Nb.sl_nil, Nb.sl_v, Nb.sl_i, Nb.fo_ok, Nb.fo_okt, Nb.fo_oko, Nb.fo_ex, Nb.v_mF, Nb.pb_nil, Nb.pb_v, Nb.pb_i, Nb.ss_o, Nb.ss_io, Nb.b_b, Nb.v_toB, Nb.v_mTst, Nb.v_and, Nb.v_or, Nb.v_not, Nb.v_if, Nb.v_andV, Nb.v_orV, Nb.v_notV, Nb.v_m3, Nb.v_inR, Nb.v_part0, Nb.i_i, Nb.v_part1, Nb.v_sl, Nb.v_dc0, Nb.v_dc1, Nb.v_seq, Nb.n_rt, Nb.n_rtt, Nb.n_rto, Nb.n_bk, Nb.n_ct, Nb.n_ex, Nb.n_bad, Nb.v_nop, Nb.v_brk, Nb.v_cnt, Nb.v_expr, Nb.v_ifS, Nb.v_ret, Nb.v_retN, Nb.r_d, Nb.r_f, Nb.r_s, Nb.rs_o, Nb.rs_v, Nb.v_asg, Nb.t_nm, Nb.t_nil, Nb.t_cons, Nb.t_tp, Nb.ps_2, Nb.v_par, Nb.v_for, Nb.v_items, Nb.it_l, Nb.it_t, Nb.v_src, Nb.rg1, Nb.rg2, Nb.v_enum, Nb.eo_1, Nb.v_zip, Nb.v_zipD, Nb.zo_l, Nb.zo_t, Nb.v_mut, Nb.il_o, Nb.il_io, Nb.v_apMut, Nb.mu_o, Nb.mu_io, Nb.v_gPut, Nb.pu_o, Nb.pu_io, Nb.v_augS, Nb.id_i, Nb.cl_o, Nb.cl_io, Nb.v_dict, Nb.ky_i, Nb.ky_s, Nb.v_keys, Nb.ko_f, Nb.v_gPutA, Nb.pd_o, Nb.ic_o, Nb.ic_io, Nb.v_mLc, Nb.wi_nil, Nb.wi_cons, Nb.wp_no, Nb.wp_v, Nb.re_nil, Nb.re_cons, Nb.rt_nn, Nb.rt_vn, Nb.rt_nv, Nb.rt_vv, Nb.f1, Nb.f2, Nb.f3, Nb.f4, Nb.f5, Nb.fs_nx, Nb.fs_rt, Nb.fs_rtt, Nb.fs_rto, Nb.ou_0, Nb.ou_s, Nb.io_no, Nb.io_v, Nb.io_o, Nb.io_io, Nb.g0, Nb.g1, Nb.s0, Nb.s1, Nb.ln_le, Nb.ln_lt, Nb.o_add, Nb.o_sub, Nb.o_mulr, Nb.o_mull, Nb.o_fdiv, Nb.o_mod, Nb.o_neg, Nb.o_cmp, Nb.o_max2, Nb.o_min2, Nb.o_int_b, Nb.o_lenL, Nb.o_lenT, Nb.o_pow, Nb.o_slL, Nb.o_slT, Nb.o_repT, Nb.v_apR, Nb.o_inD, Nb.o_inL, Nb.o_inT, Nb.o_list_l, Nb.o_list_t, Nb.o_tup_l, Nb.o_tup_t, Nb.o_addL, Nb.o_addT, Nb.o_eq, Nb.o_ne, Nb.o_extL, Nb.o_extT, Nb.o_app, Nb.at0, Nb.ix_in, Nb.at1, Nb.at2, Nb.pick_in, Nb.o_ixL, Nb.o_ixT, Nb.o_ixLn, Nb.o_ixTn, Nb.pk0, Nb.pk1, Nb.pk2, Nb.o_eqi, Nb.o_eqb, Nb.o_nei, Nb.o_divmod, Nb.o_all, Nb.o_sum, Nb.v_exc, Nb.ex_x, Nb.fl_house, Nb.fl_nobody, Nb.fl_text, Nb.fl_open, Nb.fl_many, Nb.fl_most, Nb.v_throw, Nb.v_throwF1, Nb.v_throwF2, Nb.sm_log, Nb.v_try, Nb.tr_nx, Nb.tr_rt, Nb.tr_rtt, Nb.tr_rto, Nb.tr_c0, Nb.tr_c1, Nb.tr_c2, Nb.tr_c3, Nb.tr_c4, Nb.tr_c5, Nb.tr_c6, Nb.tr_c7, Nb.tr_c8, Nb.tr_c9, Nb.tr_c10, Nb.tr_c11, Nb.v_putX, Nb.px_no, Nb.px_v, Nb.ox_nx, Nb.ox_rt, Nb.ox_rto, Nb.v_endX, Nb.en_x, Nb.cl_nil, Nb.cl_cons, Nb.cl_no, Nb.cl_v, Nb.cl_oo, Nb.cl_ioo, Nb.cl_x, Nb.io_x, Nb.vs_x, Nb.xs_x, Nb.fs_ex, Nb.lo_ex, Nb.ce_x, Nb.sl_x, Nb.pb_x, Nb.v_m2T, Nb.kd_l, Nb.kd_t, Nb.me_1, Nb.me_2, Nb.me_3, Nb.o_revL, Nb.o_revT, Nb.o_lr1, Nb.o_tr1, Nb.o_eqs, Nb.o_nes, R.elim_ok, R.elim_ex, R.elim_bad, Out.next_nx, Option.bind_some, Option.map_some, Option.bind_none, Option.map_none, List.cons_append, List.nil_append, List.replicate_succ, List.replicate_zero, Nat.reduceSub, Nat.reduceAdd, if_true, if_false, Bool.not_true, Bool.not_false, Bool.false_eq_true, List.length_cons, List.length_nil, List.append_nil, Int.reduceToNat, List.set_cons_zero, List.set_cons_succ, decide_true, decide_false, Int.reduceEq, Int.reduceLT, Int.reduceLE, List.nodup_nil, Nb.rb_n2, Nb.rb_p2, Nb.rb_n1, Nb.rb_p1, and_self, and_true, true_and, and_false, false_and, not_true_eq_false, not_false_eq_true, Nb.nd1, Nb.nd2, Nb.nd3, Nb.k_int, Nb.k_bool, Nb.k_tuple, Nb.k_list, Nb.k_str, Nb.cast_lit, Nb.o_inI, Nb.o_inIT, Nb.o_sortU, Nb.o_sorted, Nb.o_sortT, Nb.o_neL0, Nb.o_neb, Nb.o_eqT0, Nb.o_pop, Nb.hasK_T, Nb.o_sumT, Nb.o_sumL, Nb.pick_ints, Nb.pick_rows, Nb.o_eqT, Nb.o_neT, Nb.o_eqL, Nb.o_neL, Nb.o_eqR, Nb.o_neR, Nb.all_map', Int.reduceNeg, Nb.o_cntT, Nb.o_cntL, Nb.ints_rev, Bool.false_bne, Bool.true_bne, Bool.and_self, Bool.or_self, Bool.true_and, Bool.and_true, Bool.false_and, Bool.and_false, Bool.true_or, Bool.or_true, Bool.false_or, Bool.or_false]
  cases d <;> rfl
theorem whole_l {d : D} : d13 [.v d] = .ok (.bool (isW d)) [.no] := by
  simp -implicitDefEqProofs (maxSteps := 4000000) (disch := first | with_unfolding_all rfl | omega | (simp only [List.length_append, List.length_cons, List.length_nil, List.length_map, List.length_replicate, List.length_take, List.length_drop]; omega)) only [d13, Nb.v_zipM, Nb.zm_ll, Nb.zm_lt, Nb.zm_tl, Nb.zm_tt, Nb.fp_ok, Nb.fp_okt, Nb.fp_ex, Nb.v_mFP, Nb.v_tupP, Nb.tp_f, Nb.tp_s, Nb.tp_d, Nb.v_pairD, Nb.oa_o, Nb.oa_v, Nb.v_retP, Nb.rp_d, Nb.rp_t, Nb.v_unpP, Nb.up_d, Nb.up_t, Nb.v_putO, Nb.po_n, Nb.po_v, Nb.po_o, Nb.v_parO, Nb.pr_ff, Nb.v_mLcO, Nb.la_o, Nb.la_v, Nb.nn_n, Nb.v_ix1P, Nb.i1_t, Nb.i1_d, Nb.kO_t, Nb.v_inN, Nb.v_ixN, Nb.v_setN, Nb.is_n, Nb.nio_no, Nb.nio_v, Nb.nio_n, Nb.v_putN, Nb.oe_s, Nb.oe_n, Nb.v_c, Nb.v_var, Nb.vs_v, Nb.vs_o, Nb.vs_io, Nb.w_d, Nb.w_f, Nb.w_s, Nb.ws_o, Nb.ws_io, Nb.ws_v, Nb.cl_l, Nb.cl_d, Nb.a_d, Nb.a_f, Nb.a_s, Nb.as_o, Nb.as_v, Nb.as_nil, Nb.as_cons, Nb.v_m2, Nb.v_ap2, Nb.v_m1, Nb.v_ap1, Nb.v_set, Nb.sd_no, Nb.sd_v, Nb.sd_o, Nb.sf_no, Nb.sf_v, Nb.sf_o, Nb.ss_no, Nb.ss_v, Nb.ss_oo, Nb.v_nil, Nb.v_cons, Nb.v_tup, Nb.v_lst, Nb.v_rep, Nb.w_nil, Nb.w_cons, Nb.v_mA, Nb.p_nil, Nb.p_t, Nb.p_f, Nb.x_d, Nb.x_f, Nb.x_s, Nb.xs_v, Nb.xs_o, Nb.xs_io, Nb.ce_nil, Nb.ce_v, Nb.ce_i, Nb.cs_o, Nb.cs_io, Nb.sl_nil, Nb.sl_v, Nb.sl_i, Nb.fo_ok, Nb.fo_okt, Nb.fo_oko, Nb.fo_ex, Nb.v_mF, Nb.pb_nil, Nb.pb_v, Nb.pb_i, Nb.ss_o, Nb.ss_io, Nb.b_b, Nb.v_toB, Nb.v_mTst, Nb.v_and, Nb.v_or, Nb.v_not, Nb.v_if, Nb.v_andV, Nb.v_orV, Nb.v_notV, Nb.v_m3, Nb.v_inR, Nb.v_part0, Nb.i_i, Nb.v_part1, Nb.v_sl, Nb.v_dc0, Nb.v_dc1, Nb.v_seq, Nb.n_rt, Nb.n_rtt, Nb.n_rto, Nb.n_bk, Nb.n_ct, Nb.n_ex, Nb.n_bad, Nb.v_nop, Nb.v_brk, Nb.v_cnt, Nb.v_expr, Nb.v_ifS, Nb.v_ret, Nb.v_retN, Nb.r_d, Nb.r_f, Nb.r_s, Nb.rs_o, Nb.rs_v, Nb.v_asg, Nb.t_nm, Nb.t_nil, Nb.t_cons, Nb.t_tp, Nb.ps_2, Nb.v_par, Nb.v_for, Nb.v_items, Nb.it_l, Nb.it_t, Nb.v_src, Nb.rg1, Nb.rg2, Nb.v_enum, Nb.eo_1, Nb.v_zip, Nb.v_zipD, Nb.zo_l, Nb.zo_t, Nb.v_mut, Nb.il_o, Nb.il_io, Nb.v_apMut, Nb.mu_o, Nb.mu_io, Nb.v_gPut, Nb.pu_o, Nb.pu_io, Nb.v_augS, Nb.id_i, Nb.cl_o, Nb.cl_io, Nb.v_dict, Nb.ky_i, Nb.ky_s, Nb.v_keys, Nb.ko_f, Nb.v_gPutA, Nb.pd_o, Nb.ic_o, Nb.ic_io, Nb.v_mLc, Nb.wi_nil, Nb.wi_cons, Nb.wp_no, Nb.wp_v, Nb.re_nil, Nb.re_cons, Nb.rt_nn, Nb.rt_vn, Nb.rt_nv, Nb.rt_vv, Nb.f1, Nb.f2, Nb.f3, Nb.f4, Nb.f5, Nb.fs_nx, Nb.fs_rt, Nb.fs_rtt, Nb.fs_rto, Nb.ou_0, Nb.ou_s, Nb.io_no, Nb.io_v, Nb.io_o, Nb.io_io, Nb.g0, Nb.g1, Nb.s0, Nb.s1, Nb.ln_le, Nb.ln_lt, Nb.o_add, Nb.o_sub, Nb.o_mulr, Nb.o_mull, Nb.o_fdiv, Nb.o_mod, Nb.o_neg, Nb.o_cmp, Nb.o_max2, Nb.o_min2, Nb.o_int_b, Nb.o_lenL, Nb.o_lenT, Nb.o_pow, Nb.o_slL, Nb.o_slT, Nb.o_repT, Nb.v_apR, Nb.o_inD, Nb.o_inL, Nb.o_inT, Nb.o_list_l, Nb.o_list_t, Nb.o_tup_l, Nb.o_tup_t, Nb.o_addL, Nb.o_addT, Nb.o_eq, Nb.o_ne, Nb.o_extL, Nb.o_extT, Nb.o_app, Nb.at0, Nb.ix_in, Nb.at1, Nb.at2, Nb.pick_in, Nb.o_ixL, Nb.o_ixT, Nb.o_ixLn, Nb.o_ixTn, Nb.pk0, Nb.pk1, Nb.pk2, Nb.o_eqi, Nb.o_eqb, Nb.o_nei, Nb.o_divmod, Nb.o_all, Nb.o_sum, Nb.v_exc, Nb.ex_x, Nb.fl_house, Nb.fl_nobody, Nb.fl_text, Nb.fl_open, Nb.fl_many, Nb.fl_most, Nb.v_throw, Nb.v_throwF1, Nb.v_throwF2, Nb.sm_log, Nb.v_try, Nb.tr_nx, Nb.tr_rt, Nb.tr_rtt, Nb.tr_rto, Nb.tr_c0, Nb.tr_c1, Nb.tr_c2, Nb.tr_c3, Nb.tr_c4, Nb.tr_c5, Nb.tr_c6, Nb.tr_c7, Nb.tr_c8, Nb.tr_c9, Nb.tr_c10, Nb.tr_c11, Nb.v_putX, Nb.px_no, Nb.px_v, Nb.ox_nx, Nb.ox_rt, Nb.ox_rto, Nb.v_endX, Nb.en_x, Nb.cl_nil, Nb.cl_cons, Nb.cl_no, Nb.cl_v, Nb.cl_oo, Nb.cl_ioo, Nb.cl_x, Nb.io_x, Nb.vs_x, Nb.xs_x, Nb.fs_ex, Nb.lo_ex, Nb.ce_x, Nb.sl_x, Nb.pb_x, Nb.v_m2T, Nb.kd_l, Nb.kd_t, Nb.me_1, Nb.me_2, Nb.me_3, Nb.o_revL, Nb.o_revT, Nb.o_lr1, Nb.o_tr1, Nb.o_eqs, Nb.o_nes, R.elim_ok, R.elim_ex, R.elim_bad, Out.next_nx, Option.bind_some, Option.map_some, Option.bind_none, Option.map_none, List.cons_append, List.nil_append, List.replicate_succ, List.replicate_zero, Nat.reduceSub, Nat.reduceAdd, if_true, if_false, Bool.not_true, Bool.not_false, Bool.false_eq_true, List.length_cons, List.length_nil, List.append_nil, Int.reduceToNat, List.set_cons_zero, List.set_cons_succ, decide_true, decide_false, Int.reduceEq, Int.reduceLT, Int.reduceLE, List.nodup_nil, Nb.rb_n2, Nb.rb_p2, Nb.rb_n1, Nb.rb_p1, and_self, and_true, true_and, and_false, false_and, not_true_eq_false, not_false_eq_true, Nb.nd1, Nb.nd2, Nb.nd3, Nb.k_int, Nb.k_bool, Nb.k_tuple, Nb.k_list, Nb.k_str, Nb.cast_lit, Nb.o_inI, Nb.o_inIT, Nb.o_sortU, Nb.o_sorted, Nb.o_sortT, Nb.o_neL0, Nb.o_neb, Nb.o_eqT0, Nb.o_pop, Nb.hasK_T, Nb.o_sumT, Nb.o_sumL, Nb.pick_ints, Nb.pick_rows, Nb.o_eqT, Nb.o_neT, Nb.o_eqL, Nb.o_neL, Nb.o_eqR, Nb.o_neR, Nb.all_map', Int.reduceNeg, Nb.o_cntT, Nb.o_cntL, Nb.ints_rev, Bool.false_bne, Bool.true_bne, Bool.and_self, Bool.or_self, Bool.true_and, Bool.and_true, Bool.false_and, Bool.and_false, Bool.true_or, Bool.or_true, Bool.false_or, Bool.or_false]
  cases d <;> rfl
theorem cell_ok {ns : List Int} {k : Int} (h0 : 0 ≤ k) : ∃ n : Int, d10 [.v (.list (ns.map PyData.int)), .v (.int k)] = .ok (.int n) [.no, .no] := by
  unfold d10
  by_cases h : k < (ns.length : Int)
  · have hm : ∃ n : Int, pick (ns.map PyData.int) k = .int n := by
      have := pick_mem (xs := ns.map PyData.int) h0 (by rw [List.length_map]; exact h)
      obtain ⟨n, _, e⟩ := List.mem_map.mp this
      exact ⟨n, e.symm⟩
    obtain ⟨n, e⟩ := hm
    refine ⟨n, ?_⟩
    simp -implicitDefEqProofs (maxSteps := 4000000) (disch := first | with_unfolding_all rfl | omega | (simp only [List.length_append, List.length_cons, List.length_nil, List.length_map, List.length_replicate, List.length_take, List.length_drop]; omega)) only [h, e, List.length_map, Nb.v_zipM, Nb.zm_ll, Nb.zm_lt, Nb.zm_tl, Nb.zm_tt, Nb.fp_ok, Nb.fp_okt, Nb.fp_ex, Nb.v_mFP, Nb.v_tupP, Nb.tp_f, Nb.tp_s, Nb.tp_d, Nb.v_pairD, Nb.oa_o, Nb.oa_v, Nb.v_retP, Nb.rp_d, Nb.rp_t, Nb.v_unpP, Nb.up_d, Nb.up_t, Nb.v_putO, Nb.po_n, Nb.po_v, Nb.po_o, Nb.v_parO, Nb.pr_ff, Nb.v_mLcO, Nb.la_o, Nb.la_v, Nb.nn_n, Nb.v_ix1P, Nb.i1_t, Nb.i1_d, Nb.kO_t, Nb.v_inN, Nb.v_ixN, Nb.v_setN, Nb.is_n, Nb.nio_no, Nb.nio_v, Nb.nio_n, Nb.v_putN, Nb.oe_s, Nb.oe_n, Nb.v_c, Nb.v_var, Nb.vs_v, Nb.vs_o, Nb.vs_io, Nb.w_d, Nb.w_f, Nb.w_s, Nb.ws_o, Nb.ws_io, Nb.ws_v, Nb.cl_l, Nb.cl_d, Nb.a_d, Nb.a_f, Nb.a_s, Nb.as_o, Nb.as_v, Nb.as_nil, Nb.as_cons, Nb.v_m2, Nb.v_ap2, Nb.v_m1, Nb.v_ap1, Nb.v_set, Nb.sd_no, Nb.sd_v, Nb.sd_o, Nb.sf_no, Nb.sf_v, Nb.sf_o, Nb.ss_no, Nb.ss_v, Nb.ss_oo, Nb.v_nil, Nb.v_cons, Nb.v_tup, Nb.v_lst, Nb.v_rep, Nb.w_nil, Nb.w_cons, Nb.v_mA, Nb.p_nil, Nb.p_t, Nb.p_f, Nb.x_d, Nb.x_f, Nb.x_s, Nb.xs_v, Nb.xs_o, Nb.xs_io, Nb.ce_nil, Nb.ce_v, Nb.ce_i, Nb.cs_o, Nb.cs_io, Nb.sl_nil, Nb.sl_v, Nb.sl_i, Nb.fo_ok, Nb.fo_okt, Nb.fo_oko, Nb.fo_ex, Nb.v_mF, Nb.pb_nil, Nb.pb_v, Nb.pb_i, Nb.ss_o, Nb.ss_io, Nb.b_b, Nb.v_toB, Nb.v_mTst, Nb.v_and, Nb.v_or, Nb.v_not, Nb.v_if, Nb.v_andV, Nb.v_orV, Nb.v_notV, Nb.v_m3, Nb.v_inR, Nb.v_part0, Nb.i_i, Nb.v_part1, Nb.v_sl, Nb.v_dc0, Nb.v_dc1, Nb.v_seq, Nb.n_rt, Nb.n_rtt, Nb.n_rto, Nb.n_bk, Nb.n_ct, Nb.n_ex, Nb.n_bad, Nb.v_nop, Nb.v_brk, Nb.v_cnt, Nb.v_expr, Nb.v_ifS, Nb.v_ret, Nb.v_retN, Nb.r_d, Nb.r_f, Nb.r_s, Nb.rs_o, Nb.rs_v, Nb.v_asg, Nb.t_nm, Nb.t_nil, Nb.t_cons, Nb.t_tp, Nb.ps_2, Nb.v_par, Nb.v_for, Nb.v_items, Nb.it_l, Nb.it_t, Nb.v_src, Nb.rg1, Nb.rg2, Nb.v_enum, Nb.eo_1, Nb.v_zip, Nb.v_zipD, Nb.zo_l, Nb.zo_t, Nb.v_mut, Nb.il_o, Nb.il_io, Nb.v_apMut, Nb.mu_o, Nb.mu_io, Nb.v_gPut, Nb.pu_o, Nb.pu_io, Nb.v_augS, Nb.id_i, Nb.cl_o, Nb.cl_io, Nb.v_dict, Nb.ky_i, Nb.ky_s, Nb.v_keys, Nb.ko_f, Nb.v_gPutA, Nb.pd_o, Nb.ic_o, Nb.ic_io, Nb.v_mLc, Nb.wi_nil, Nb.wi_cons, Nb.wp_no, Nb.wp_v, Nb.re_nil, Nb.re_cons, Nb.rt_nn, Nb.rt_vn, Nb.rt_nv, Nb.rt_vv, Nb.f1, Nb.f2, Nb.f3, Nb.f4, Nb.f5, Nb.fs_nx, Nb.fs_rt, Nb.fs_rtt, Nb.fs_rto, Nb.ou_0, Nb.ou_s, Nb.io_no, Nb.io_v, Nb.io_o, Nb.io_io, Nb.g0, Nb.g1, Nb.s0, Nb.s1, Nb.ln_le, Nb.ln_lt, Nb.o_add, Nb.o_sub, Nb.o_mulr, Nb.o_mull, Nb.o_fdiv, Nb.o_mod, Nb.o_neg, Nb.o_cmp, Nb.o_max2, Nb.o_min2, Nb.o_int_b, Nb.o_lenL, Nb.o_lenT, Nb.o_pow, Nb.o_slL, Nb.o_slT, Nb.o_repT, Nb.v_apR, Nb.o_inD, Nb.o_inL, Nb.o_inT, Nb.o_list_l, Nb.o_list_t, Nb.o_tup_l, Nb.o_tup_t, Nb.o_addL, Nb.o_addT, Nb.o_eq, Nb.o_ne, Nb.o_extL, Nb.o_extT, Nb.o_app, Nb.at0, Nb.ix_in, Nb.at1, Nb.at2, Nb.pick_in, Nb.o_ixL, Nb.o_ixT, Nb.o_ixLn, Nb.o_ixTn, Nb.pk0, Nb.pk1, Nb.pk2, Nb.o_eqi, Nb.o_eqb, Nb.o_nei, Nb.o_divmod, Nb.o_all, Nb.o_sum, Nb.v_exc, Nb.ex_x, Nb.fl_house, Nb.fl_nobody, Nb.fl_text, Nb.fl_open, Nb.fl_many, Nb.fl_most, Nb.v_throw, Nb.v_throwF1, Nb.v_throwF2, Nb.sm_log, Nb.v_try, Nb.tr_nx, Nb.tr_rt, Nb.tr_rtt, Nb.tr_rto, Nb.tr_c0, Nb.tr_c1, Nb.tr_c2, Nb.tr_c3, Nb.tr_c4, Nb.tr_c5, Nb.tr_c6, Nb.tr_c7, Nb.tr_c8, Nb.tr_c9, Nb.tr_c10, Nb.tr_c11, Nb.v_putX, Nb.px_no, Nb.px_v, Nb.ox_nx, Nb.ox_rt, Nb.ox_rto, Nb.v_endX, Nb.en_x, Nb.cl_nil, Nb.cl_cons, Nb.cl_no, Nb.cl_v, Nb.cl_oo, Nb.cl_ioo, Nb.cl_x, Nb.io_x, Nb.vs_x, Nb.xs_x, Nb.fs_ex, Nb.lo_ex, Nb.ce_x, Nb.sl_x, Nb.pb_x, Nb.v_m2T, Nb.kd_l, Nb.kd_t, Nb.me_1, Nb.me_2, Nb.me_3, Nb.o_revL, Nb.o_revT, Nb.o_lr1, Nb.o_tr1, Nb.o_eqs, Nb.o_nes, R.elim_ok, R.elim_ex, R.elim_bad, Out.next_nx, Option.bind_some, Option.map_some, Option.bind_none, Option.map_none, List.cons_append, List.nil_append, List.replicate_succ, List.replicate_zero, Nat.reduceSub, Nat.reduceAdd, if_true, if_false, Bool.not_true, Bool.not_false, Bool.false_eq_true, List.length_cons, List.length_nil, List.append_nil, Int.reduceToNat, List.set_cons_zero, List.set_cons_succ, decide_true, decide_false, Int.reduceEq, Int.reduceLT, Int.reduceLE, List.nodup_nil, Nb.rb_n2, Nb.rb_p2, Nb.rb_n1, Nb.rb_p1, and_self, and_true, true_and, and_false, false_and, not_true_eq_false, not_false_eq_true, Nb.nd1, Nb.nd2, Nb.nd3, Nb.k_int, Nb.k_bool, Nb.k_tuple, Nb.k_list, Nb.k_str, Nb.cast_lit, Nb.o_inI, Nb.o_inIT, Nb.o_sortU, Nb.o_sorted, Nb.o_sortT, Nb.o_neL0, Nb.o_neb, Nb.o_eqT0, Nb.o_pop, Nb.hasK_T, Nb.o_sumT, Nb.o_sumL, Nb.pick_ints, Nb.pick_rows, Nb.o_eqT, Nb.o_neT, Nb.o_eqL, Nb.o_neL, Nb.o_eqR, Nb.o_neR, Nb.all_map', Int.reduceNeg, Nb.o_cntT, Nb.o_cntL, Nb.ints_rev, Bool.false_bne, Bool.true_bne, Bool.and_self, Bool.or_self, Bool.true_and, Bool.and_true, Bool.false_and, Bool.and_false, Bool.true_or, Bool.or_true, Bool.false_or, Bool.or_false]
  · refine ⟨0, ?_⟩
    simp -implicitDefEqProofs (maxSteps := 4000000) (disch := first | with_unfolding_all rfl | omega | (simp only [List.length_append, List.length_cons, List.length_nil, List.length_map, List.length_replicate, List.length_take, List.length_drop]; omega)) only [h, List.length_map, Nb.v_zipM, Nb.zm_ll, Nb.zm_lt, Nb.zm_tl, Nb.zm_tt, Nb.fp_ok, Nb.fp_okt, Nb.fp_ex, Nb.v_mFP, Nb.v_tupP, Nb.tp_f, Nb.tp_s, Nb.tp_d, Nb.v_pairD, Nb.oa_o, Nb.oa_v, Nb.v_retP, Nb.rp_d, Nb.rp_t, Nb.v_unpP, Nb.up_d, Nb.up_t, Nb.v_putO, Nb.po_n, Nb.po_v, Nb.po_o, Nb.v_parO, Nb.pr_ff, Nb.v_mLcO, Nb.la_o, Nb.la_v, Nb.nn_n, Nb.v_ix1P, Nb.i1_t, Nb.i1_d, Nb.kO_t, Nb.v_inN, Nb.v_ixN, Nb.v_setN, Nb.is_n, Nb.nio_no, Nb.nio_v, Nb.nio_n, Nb.v_putN, Nb.oe_s, Nb.oe_n, Nb.v_c, Nb.v_var, Nb.vs_v, Nb.vs_o, Nb.vs_io, Nb.w_d, Nb.w_f, Nb.w_s, Nb.ws_o, Nb.ws_io, Nb.ws_v, Nb.cl_l, Nb.cl_d, Nb.a_d, Nb.a_f, Nb.a_s, Nb.as_o, Nb.as_v, Nb.as_nil, Nb.as_cons, Nb.v_m2, Nb.v_ap2, Nb.v_m1, Nb.v_ap1, Nb.v_set, Nb.sd_no, Nb.sd_v, Nb.sd_o, Nb.sf_no, Nb.sf_v, Nb.sf_o, Nb.ss_no, Nb.ss_v, Nb.ss_oo, Nb.v_nil, Nb.v_cons, Nb.v_tup, Nb.v_lst, Nb.v_rep, Nb.w_nil, Nb.w_cons, Nb.v_mA, Nb.p_nil, Nb.p_t, Nb.p_f, Nb.x_d, Nb.x_f, Nb.x_s, Nb.xs_v, Nb.xs_o, Nb.xs_io, Nb.ce_nil, Nb.ce_v, Nb.ce_i, Nb.cs_o, Nb.cs_io, Nb.sl_nil, Nb.sl_v, Nb.sl_i, Nb.fo_ok, Nb.fo_okt, Nb.fo_oko, Nb.fo_ex, Nb.v_mF, Nb.pb_nil, Nb.pb_v, Nb.pb_i, Nb.ss_o, Nb.ss_io, Nb.b_b, Nb.v_toB, Nb.v_mTst, Nb.v_and, Nb.v_or, Nb.v_not, Nb.v_if, Nb.v_andV, Nb.v_orV, Nb.v_notV, Nb.v_m3, Nb.v_inR, Nb.v_part0, Nb.i_i, Nb.v_part1, Nb.v_sl, Nb.v_dc0, Nb.v_dc1, Nb.v_seq, Nb.n_rt, Nb.n_rtt, Nb.n_rto, Nb.n_bk, Nb.n_ct, Nb.n_ex, Nb.n_bad, Nb.v_nop, Nb.v_brk, Nb.v_cnt, Nb.v_expr, Nb.v_ifS, Nb.v_ret, Nb.v_retN, Nb.r_d, Nb.r_f, Nb.r_s, Nb.rs_o, Nb.rs_v, Nb.v_asg, Nb.t_nm, Nb.t_nil, Nb.t_cons, Nb.t_tp, Nb.ps_2, Nb.v_par, Nb.v_for, Nb.v_items, Nb.it_l, Nb.it_t, Nb.v_src, Nb.rg1, Nb.rg2, Nb.v_enum, Nb.eo_1, Nb.v_zip, Nb.v_zipD, Nb.zo_l, Nb.zo_t, Nb.v_mut, Nb.il_o, Nb.il_io, Nb.v_apMut, Nb.mu_o, Nb.mu_io, Nb.v_gPut, Nb.pu_o, Nb.pu_io, Nb.v_augS, Nb.id_i, Nb.cl_o, Nb.cl_io, Nb.v_dict, Nb.ky_i, Nb.ky_s, Nb.v_keys, Nb.ko_f, Nb.v_gPutA, Nb.pd_o, Nb.ic_o, Nb.ic_io, Nb.v_mLc, Nb.wi_nil, Nb.wi_cons, Nb.wp_no, Nb.wp_v, Nb.re_nil, Nb.re_cons, Nb.rt_nn, Nb.rt_vn, Nb.rt_nv, Nb.rt_vv, Nb.f1, Nb.f2, Nb.f3, Nb.f4, Nb.f5, Nb.fs_nx, Nb.fs_rt, Nb.fs_rtt, Nb.fs_rto, Nb.ou_0, Nb.ou_s, Nb.io_no, Nb.io_v, Nb.io_o, Nb.io_io, Nb.g0, Nb.g1, Nb.s0, Nb.s1, Nb.ln_le, Nb.ln_lt, Nb.o_add, Nb.o_sub, Nb.o_mulr, Nb.o_mull, Nb.o_fdiv, Nb.o_mod, Nb.o_neg, Nb.o_cmp, Nb.o_max2, Nb.o_min2, Nb.o_int_b, Nb.o_lenL, Nb.o_lenT, Nb.o_pow, Nb.o_slL, Nb.o_slT, Nb.o_repT, Nb.v_apR, Nb.o_inD, Nb.o_inL, Nb.o_inT, Nb.o_list_l, Nb.o_list_t, Nb.o_tup_l, Nb.o_tup_t, Nb.o_addL, Nb.o_addT, Nb.o_eq, Nb.o_ne, Nb.o_extL, Nb.o_extT, Nb.o_app, Nb.at0, Nb.ix_in, Nb.at1, Nb.at2, Nb.pick_in, Nb.o_ixL, Nb.o_ixT, Nb.o_ixLn, Nb.o_ixTn, Nb.pk0, Nb.pk1, Nb.pk2, Nb.o_eqi, Nb.o_eqb, Nb.o_nei, Nb.o_divmod, Nb.o_all, Nb.o_sum, Nb.v_exc, Nb.ex_x, Nb.fl_house, Nb.fl_nobody, Nb.fl_text, Nb.fl_open, Nb.fl_many, Nb.fl_most, Nb.v_throw, Nb.v_throwF1, Nb.v_throwF2, Nb.sm_log, Nb.v_try, Nb.tr_nx, Nb.tr_rt, Nb.tr_rtt, Nb.tr_rto, Nb.tr_c0, Nb.tr_c1, Nb.tr_c2, Nb.tr_c3, Nb.tr_c4, Nb.tr_c5, Nb.tr_c6, Nb.tr_c7, Nb.tr_c8, Nb.tr_c9, Nb.tr_c10, Nb.tr_c11, Nb.v_putX, Nb.px_no, Nb.px_v, Nb.ox_nx, Nb.ox_rt, Nb.ox_rto, Nb.v_endX, Nb.en_x, Nb.cl_nil, Nb.cl_cons, Nb.cl_no, Nb.cl_v, Nb.cl_oo, Nb.cl_ioo, Nb.cl_x, Nb.io_x, Nb.vs_x, Nb.xs_x, Nb.fs_ex, Nb.lo_ex, Nb.ce_x, Nb.sl_x, Nb.pb_x, Nb.v_m2T, Nb.kd_l, Nb.kd_t, Nb.me_1, Nb.me_2, Nb.me_3, Nb.o_revL, Nb.o_revT, Nb.o_lr1, Nb.o_tr1, Nb.o_eqs, Nb.o_nes, R.elim_ok, R.elim_ex, R.elim_bad, Out.next_nx, Option.bind_some, Option.map_some, Option.bind_none, Option.map_none, List.cons_append, List.nil_append, List.replicate_succ, List.replicate_zero, Nat.reduceSub, Nat.reduceAdd, if_true, if_false, Bool.not_true, Bool.not_false, Bool.false_eq_true, List.length_cons, List.length_nil, List.append_nil, Int.reduceToNat, List.set_cons_zero, List.set_cons_succ, decide_true, decide_false, Int.reduceEq, Int.reduceLT, Int.reduceLE, List.nodup_nil, Nb.rb_n2, Nb.rb_p2, Nb.rb_n1, Nb.rb_p1, and_self, and_true, true_and, and_false, false_and, not_true_eq_false, not_false_eq_true, Nb.nd1, Nb.nd2, Nb.nd3, Nb.k_int, Nb.k_bool, Nb.k_tuple, Nb.k_list, Nb.k_str, Nb.cast_lit, Nb.o_inI, Nb.o_inIT, Nb.o_sortU, Nb.o_sorted, Nb.o_sortT, Nb.o_neL0, Nb.o_neb, Nb.o_eqT0, Nb.o_pop, Nb.hasK_T, Nb.o_sumT, Nb.o_sumL, Nb.pick_ints, Nb.pick_rows, Nb.o_eqT, Nb.o_neT, Nb.o_eqL, Nb.o_neL, Nb.o_eqR, Nb.o_neR, Nb.all_map', Int.reduceNeg, Nb.o_cntT, Nb.o_cntL, Nb.ints_rev, Bool.false_bne, Bool.true_bne, Bool.and_self, Bool.or_self, Bool.true_and, Bool.and_true, Bool.false_and, Bool.and_false, Bool.true_or, Bool.or_true, Bool.false_or, Bool.or_false]
def Pen (c : Cl) : Prop := ∃ a b : Int, c = .lst [.int a, .int b] ∧ (b = 0 ∨ b = 1)
theorem draw_ok {c : Cl} {m : Int} (hc : Pen c) (hm : 0 < m) (hm2 : m < 2 ^ 200) : ∃ c' r, Pen c' ∧ 0 ≤ r ∧ r < m ∧ d12 [.io c, .v (.int m)] = .ok (.int r) [.io c', .no] := by
  obtain ⟨a, b, rfl, rfl | rfl⟩ := hc
  · refine ⟨_, _, ⟨_, 0, rfl, .inl rfl⟩, ?_, ?_, by
      simp -implicitDefEqProofs (maxSteps := 4000000) (disch := first | with_unfolding_all rfl | omega | (simp only [List.length_append, List.length_cons, List.length_nil, List.length_map, List.length_replicate, List.length_take, List.length_drop]; omega)) only [d12, Nb.v_zipM, Nb.zm_ll, Nb.zm_lt, Nb.zm_tl, Nb.zm_tt, Nb.fp_ok, Nb.fp_okt, Nb.fp_ex, Nb.v_mFP, Nb.v_tupP, Nb.tp_f, Nb.tp_s, Nb.tp_d, Nb.v_pairD, Nb.oa_o, Nb.oa_v, Nb.v_retP, Nb.rp_d, Nb.rp_t, Nb.v_unpP, Nb.up_d, Nb.up_t, Nb.v_putO, Nb.po_n, Nb.po_v, Nb.po_o, Nb.v_parO, Nb.pr_ff, Nb.v_mLcO, Nb.la_o, Nb.la_v, Nb.nn_n, Nb.v_ix1P, Nb.i1_t, Nb.i1_d, Nb.kO_t, Nb.v_inN, Nb.v_ixN, Nb.v_setN, Nb.is_n, Nb.nio_no, Nb.nio_v, Nb.nio_n, Nb.v_putN, Nb.oe_s, Nb.oe_n, Nb.v_c, Nb.v_var, Nb.vs_v, Nb.vs_o, Nb.vs_io, Nb.w_d, Nb.w_f, Nb.w_s, Nb.ws_o, Nb.ws_io, Nb.ws_v, Nb.cl_l, Nb.cl_d, Nb.a_d, Nb.a_f, Nb.a_s, Nb.as_o, Nb.as_v, Nb.as_nil, Nb.as_cons, Nb.v_m2, Nb.v_ap2, Nb.v_m1, Nb.v_ap1, Nb.v_set, Nb.sd_no, Nb.sd_v, Nb.sd_o, Nb.sf_no, Nb.sf_v, Nb.sf_o, Nb.ss_no, Nb.ss_v, Nb.ss_oo, Nb.v_nil, Nb.v_cons, Nb.v_tup, Nb.v_lst, Nb.v_rep, Nb.w_nil, Nb.w_cons, Nb.v_mA, Nb.p_nil, Nb.p_t, Nb.p_f, Nb.x_d, Nb.x_f, Nb.x_s, Nb.xs_v, Nb.xs_o, Nb.xs_io, Nb.ce_nil, Nb.ce_v, Nb.ce_i, Nb.cs_o, Nb.cs_io, Nb.sl_nil, Nb.sl_v, Nb.sl_i, Nb.fo_ok, Nb.fo_okt, Nb.fo_oko, Nb.fo_ex, Nb.v_mF, Nb.pb_nil, Nb.pb_v, Nb.pb_i, Nb.ss_o, Nb.ss_io, Nb.b_b, Nb.v_toB, Nb.v_mTst, Nb.v_and, Nb.v_or, Nb.v_not, Nb.v_if, Nb.v_andV, Nb.v_orV, Nb.v_notV, Nb.v_m3, Nb.v_inR, Nb.v_part0, Nb.i_i, Nb.v_part1, Nb.v_sl, Nb.v_dc0, Nb.v_dc1, Nb.v_seq, Nb.n_rt, Nb.n_rtt, Nb.n_rto, Nb.n_bk, Nb.n_ct, Nb.n_ex, Nb.n_bad, Nb.v_nop, Nb.v_brk, Nb.v_cnt, Nb.v_expr, Nb.v_ifS, Nb.v_ret, Nb.v_retN, Nb.r_d, Nb.r_f, Nb.r_s, Nb.rs_o, Nb.rs_v, Nb.v_asg, Nb.t_nm, Nb.t_nil, Nb.t_cons, Nb.t_tp, Nb.ps_2, Nb.v_par, Nb.v_for, Nb.v_items, Nb.it_l, Nb.it_t, Nb.v_src, Nb.rg1, Nb.rg2, Nb.v_enum, Nb.eo_1, Nb.v_zip, Nb.v_zipD, Nb.zo_l, Nb.zo_t, Nb.v_mut, Nb.il_o, Nb.il_io, Nb.v_apMut, Nb.mu_o, Nb.mu_io, Nb.v_gPut, Nb.pu_o, Nb.pu_io, Nb.v_augS, Nb.id_i, Nb.cl_o, Nb.cl_io, Nb.v_dict, Nb.ky_i, Nb.ky_s, Nb.v_keys, Nb.ko_f, Nb.v_gPutA, Nb.pd_o, Nb.ic_o, Nb.ic_io, Nb.v_mLc, Nb.wi_nil, Nb.wi_cons, Nb.wp_no, Nb.wp_v, Nb.re_nil, Nb.re_cons, Nb.rt_nn, Nb.rt_vn, Nb.rt_nv, Nb.rt_vv, Nb.f1, Nb.f2, Nb.f3, Nb.f4, Nb.f5, Nb.fs_nx, Nb.fs_rt, Nb.fs_rtt, Nb.fs_rto, Nb.ou_0, Nb.ou_s, Nb.io_no, Nb.io_v, Nb.io_o, Nb.io_io, Nb.g0, Nb.g1, Nb.s0, Nb.s1, Nb.ln_le, Nb.ln_lt, Nb.o_add, Nb.o_sub, Nb.o_mulr, Nb.o_mull, Nb.o_fdiv, Nb.o_mod, Nb.o_neg, Nb.o_cmp, Nb.o_max2, Nb.o_min2, Nb.o_int_b, Nb.o_lenL, Nb.o_lenT, Nb.o_pow, Nb.o_slL, Nb.o_slT, Nb.o_repT, Nb.v_apR, Nb.o_inD, Nb.o_inL, Nb.o_inT, Nb.o_list_l, Nb.o_list_t, Nb.o_tup_l, Nb.o_tup_t, Nb.o_addL, Nb.o_addT, Nb.o_eq, Nb.o_ne, Nb.o_extL, Nb.o_extT, Nb.o_app, Nb.at0, Nb.ix_in, Nb.at1, Nb.at2, Nb.pick_in, Nb.o_ixL, Nb.o_ixT, Nb.o_ixLn, Nb.o_ixTn, Nb.pk0, Nb.pk1, Nb.pk2, Nb.o_eqi, Nb.o_eqb, Nb.o_nei, Nb.o_divmod, Nb.o_all, Nb.o_sum, Nb.v_exc, Nb.ex_x, Nb.fl_house, Nb.fl_nobody, Nb.fl_text, Nb.fl_open, Nb.fl_many, Nb.fl_most, Nb.v_throw, Nb.v_throwF1, Nb.v_throwF2, Nb.sm_log, Nb.v_try, Nb.tr_nx, Nb.tr_rt, Nb.tr_rtt, Nb.tr_rto, Nb.tr_c0, Nb.tr_c1, Nb.tr_c2, Nb.tr_c3, Nb.tr_c4, Nb.tr_c5, Nb.tr_c6, Nb.tr_c7, Nb.tr_c8, Nb.tr_c9, Nb.tr_c10, Nb.tr_c11, Nb.v_putX, Nb.px_no, Nb.px_v, Nb.ox_nx, Nb.ox_rt, Nb.ox_rto, Nb.v_endX, Nb.en_x, Nb.cl_nil, Nb.cl_cons, Nb.cl_no, Nb.cl_v, Nb.cl_oo, Nb.cl_ioo, Nb.cl_x, Nb.io_x, Nb.vs_x, Nb.xs_x, Nb.fs_ex, Nb.lo_ex, Nb.ce_x, Nb.sl_x, Nb.pb_x, Nb.v_m2T, Nb.kd_l, Nb.kd_t, Nb.me_1, Nb.me_2, Nb.me_3, Nb.o_revL, Nb.o_revT, Nb.o_lr1, Nb.o_tr1, Nb.o_eqs, Nb.o_nes, R.elim_ok, R.elim_ex, R.elim_bad, Out.next_nx, Option.bind_some, Option.map_some, Option.bind_none, Option.map_none, List.cons_append, List.nil_append, List.replicate_succ, List.replicate_zero, Nat.reduceSub, Nat.reduceAdd, if_true, if_false, Bool.not_true, Bool.not_false, Bool.false_eq_true, List.length_cons, List.length_nil, List.append_nil, Int.reduceToNat, List.set_cons_zero, List.set_cons_succ, decide_true, decide_false, Int.reduceEq, Int.reduceLT, Int.reduceLE, List.nodup_nil, Nb.rb_n2, Nb.rb_p2, Nb.rb_n1, Nb.rb_p1, and_self, and_true, true_and, and_false, false_and, not_true_eq_false, not_false_eq_true, Nb.nd1, Nb.nd2, Nb.nd3, Nb.k_int, Nb.k_bool, Nb.k_tuple, Nb.k_list, Nb.k_str, Nb.cast_lit, Nb.o_inI, Nb.o_inIT, Nb.o_sortU, Nb.o_sorted, Nb.o_sortT, Nb.o_neL0, Nb.o_neb, Nb.o_eqT0, Nb.o_pop, Nb.hasK_T, Nb.o_sumT, Nb.o_sumL, Nb.pick_ints, Nb.pick_rows, Nb.o_eqT, Nb.o_neT, Nb.o_eqL, Nb.o_neL, Nb.o_eqR, Nb.o_neR, Nb.all_map', Int.reduceNeg, Nb.o_cntT, Nb.o_cntL, Nb.ints_rev, Bool.false_bne, Bool.true_bne, Bool.and_self, Bool.or_self, Bool.true_and, Bool.and_true, Bool.false_and, Bool.and_false, Bool.true_or, Bool.or_true, Bool.false_or, Bool.or_false]
      rfl⟩
    · exact Int.emod_nonneg _ (by omega)
    · exact Int.emod_lt_of_pos _ hm
  · refine ⟨_, _, ⟨_, 1, rfl, .inr rfl⟩, ?_, ?_, by
      simp -implicitDefEqProofs (maxSteps := 4000000) (disch := first | with_unfolding_all rfl | omega | (simp only [List.length_append, List.length_cons, List.length_nil, List.length_map, List.length_replicate, List.length_take, List.length_drop]; omega)) only [d12, Nb.v_zipM, Nb.zm_ll, Nb.zm_lt, Nb.zm_tl, Nb.zm_tt, Nb.fp_ok, Nb.fp_okt, Nb.fp_ex, Nb.v_mFP, Nb.v_tupP, Nb.tp_f, Nb.tp_s, Nb.tp_d, Nb.v_pairD, Nb.oa_o, Nb.oa_v, Nb.v_retP, Nb.rp_d, Nb.rp_t, Nb.v_unpP, Nb.up_d, Nb.up_t, Nb.v_putO, Nb.po_n, Nb.po_v, Nb.po_o, Nb.v_parO, Nb.pr_ff, Nb.v_mLcO, Nb.la_o, Nb.la_v, Nb.nn_n, Nb.v_ix1P, Nb.i1_t, Nb.i1_d, Nb.kO_t, Nb.v_inN, Nb.v_ixN, Nb.v_setN, Nb.is_n, Nb.nio_no, Nb.nio_v, Nb.nio_n, Nb.v_putN, Nb.oe_s, Nb.oe_n, Nb.v_c, Nb.v_var, Nb.vs_v, Nb.vs_o, Nb.vs_io, Nb.w_d, Nb.w_f, Nb.w_s, Nb.ws_o, Nb.ws_io, Nb.ws_v, Nb.cl_l, Nb.cl_d, Nb.a_d, Nb.a_f, Nb.a_s, Nb.as_o, Nb.as_v, Nb.as_nil, Nb.as_cons, Nb.v_m2, Nb.v_ap2, Nb.v_m1, Nb.v_ap1, Nb.v_set, Nb.sd_no, Nb.sd_v, Nb.sd_o, Nb.sf_no, Nb.sf_v, Nb.sf_o, Nb.ss_no, Nb.ss_v, Nb.ss_oo, Nb.v_nil, Nb.v_cons, Nb.v_tup, Nb.v_lst, Nb.v_rep, Nb.w_nil, Nb.w_cons, Nb.v_mA, Nb.p_nil, Nb.p_t, Nb.p_f, Nb.x_d, Nb.x_f, Nb.x_s, Nb.xs_v, Nb.xs_o, Nb.xs_io, Nb.ce_nil, Nb.ce_v, Nb.ce_i, Nb.cs_o, Nb.cs_io, Nb.sl_nil, Nb.sl_v, Nb.sl_i, Nb.fo_ok, Nb.fo_okt, Nb.fo_oko, Nb.fo_ex, Nb.v_mF, Nb.pb_nil, Nb.pb_v, Nb.pb_i, Nb.ss_o, Nb.ss_io, Nb.b_b, Nb.v_toB, Nb.v_mTst, Nb.v_and, Nb.v_or, Nb.v_not, Nb.v_if, Nb.v_andV, Nb.v_orV, Nb.v_notV, Nb.v_m3, Nb.v_inR, Nb.v_part0, Nb.i_i, Nb.v_part1, Nb.v_sl, Nb.v_dc0, Nb.v_dc1, Nb.v_seq, Nb.n_rt, Nb.n_rtt, Nb.n_rto, Nb.n_bk, Nb.n_ct, Nb.n_ex, Nb.n_bad, Nb.v_nop, Nb.v_brk, Nb.v_cnt, Nb.v_expr, Nb.v_ifS, Nb.v_ret, Nb.v_retN, Nb.r_d, Nb.r_f, Nb.r_s, Nb.rs_o, Nb.rs_v, Nb.v_asg, Nb.t_nm, Nb.t_nil, Nb.t_cons, Nb.t_tp, Nb.ps_2, Nb.v_par, Nb.v_for, Nb.v_items, Nb.it_l, Nb.it_t, Nb.v_src, Nb.rg1, Nb.rg2, Nb.v_enum, Nb.eo_1, Nb.v_zip, Nb.v_zipD, Nb.zo_l, Nb.zo_t, Nb.v_mut, Nb.il_o, Nb.il_io, Nb.v_apMut, Nb.mu_o, Nb.mu_io, Nb.v_gPut, Nb.pu_o, Nb.pu_io, Nb.v_augS, Nb.id_i, Nb.cl_o, Nb.cl_io, Nb.v_dict, Nb.ky_i, Nb.ky_s, Nb.v_keys, Nb.ko_f, Nb.v_gPutA, Nb.pd_o, Nb.ic_o, Nb.ic_io, Nb.v_mLc, Nb.wi_nil, Nb.wi_cons, Nb.wp_no, Nb.wp_v, Nb.re_nil, Nb.re_cons, Nb.rt_nn, Nb.rt_vn, Nb.rt_nv, Nb.rt_vv, Nb.f1, Nb.f2, Nb.f3, Nb.f4, Nb.f5, Nb.fs_nx, Nb.fs_rt, Nb.fs_rtt, Nb.fs_rto, Nb.ou_0, Nb.ou_s, Nb.io_no, Nb.io_v, Nb.io_o, Nb.io_io, Nb.g0, Nb.g1, Nb.s0, Nb.s1, Nb.ln_le, Nb.ln_lt, Nb.o_add, Nb.o_sub, Nb.o_mulr, Nb.o_mull, Nb.o_fdiv, Nb.o_mod, Nb.o_neg, Nb.o_cmp, Nb.o_max2, Nb.o_min2, Nb.o_int_b, Nb.o_lenL, Nb.o_lenT, Nb.o_pow, Nb.o_slL, Nb.o_slT, Nb.o_repT, Nb.v_apR, Nb.o_inD, Nb.o_inL, Nb.o_inT, Nb.o_list_l, Nb.o_list_t, Nb.o_tup_l, Nb.o_tup_t, Nb.o_addL, Nb.o_addT, Nb.o_eq, Nb.o_ne, Nb.o_extL, Nb.o_extT, Nb.o_app, Nb.at0, Nb.ix_in, Nb.at1, Nb.at2, Nb.pick_in, Nb.o_ixL, Nb.o_ixT, Nb.o_ixLn, Nb.o_ixTn, Nb.pk0, Nb.pk1, Nb.pk2, Nb.o_eqi, Nb.o_eqb, Nb.o_nei, Nb.o_divmod, Nb.o_all, Nb.o_sum, Nb.v_exc, Nb.ex_x, Nb.fl_house, Nb.fl_nobody, Nb.fl_text, Nb.fl_open, Nb.fl_many, Nb.fl_most, Nb.v_throw, Nb.v_throwF1, Nb.v_throwF2, Nb.sm_log, Nb.v_try, Nb.tr_nx, Nb.tr_rt, Nb.tr_rtt, Nb.tr_rto, Nb.tr_c0, Nb.tr_c1, Nb.tr_c2, Nb.tr_c3, Nb.tr_c4, Nb.tr_c5, Nb.tr_c6, Nb.tr_c7, Nb.tr_c8, Nb.tr_c9, Nb.tr_c10, Nb.tr_c11, Nb.v_putX, Nb.px_no, Nb.px_v, Nb.ox_nx, Nb.ox_rt, Nb.ox_rto, Nb.v_endX, Nb.en_x, Nb.cl_nil, Nb.cl_cons, Nb.cl_no, Nb.cl_v, Nb.cl_oo, Nb.cl_ioo, Nb.cl_x, Nb.io_x, Nb.vs_x, Nb.xs_x, Nb.fs_ex, Nb.lo_ex, Nb.ce_x, Nb.sl_x, Nb.pb_x, Nb.v_m2T, Nb.kd_l, Nb.kd_t, Nb.me_1, Nb.me_2, Nb.me_3, Nb.o_revL, Nb.o_revT, Nb.o_lr1, Nb.o_tr1, Nb.o_eqs, Nb.o_nes, R.elim_ok, R.elim_ex, R.elim_bad, Out.next_nx, Option.bind_some, Option.map_some, Option.bind_none, Option.map_none, List.cons_append, List.nil_append, List.replicate_succ, List.replicate_zero, Nat.reduceSub, Nat.reduceAdd, if_true, if_false, Bool.not_true, Bool.not_false, Bool.false_eq_true, List.length_cons, List.length_nil, List.append_nil, Int.reduceToNat, List.set_cons_zero, List.set_cons_succ, decide_true, decide_false, Int.reduceEq, Int.reduceLT, Int.reduceLE, List.nodup_nil, Nb.rb_n2, Nb.rb_p2, Nb.rb_n1, Nb.rb_p1, and_self, and_true, true_and, and_false, false_and, not_true_eq_false, not_false_eq_true, Nb.nd1, Nb.nd2, Nb.nd3, Nb.k_int, Nb.k_bool, Nb.k_tuple, Nb.k_list, Nb.k_str, Nb.cast_lit, Nb.o_inI, Nb.o_inIT, Nb.o_sortU, Nb.o_sorted, Nb.o_sortT, Nb.o_neL0, Nb.o_neb, Nb.o_eqT0, Nb.o_pop, Nb.hasK_T, Nb.o_sumT, Nb.o_sumL, Nb.pick_ints, Nb.pick_rows, Nb.o_eqT, Nb.o_neT, Nb.o_eqL, Nb.o_neL, Nb.o_eqR, Nb.o_neR, Nb.all_map', Int.reduceNeg, Nb.o_cntT, Nb.o_cntL, Nb.ints_rev, Bool.false_bne, Bool.true_bne, Bool.and_self, Bool.or_self, Bool.true_and, Bool.and_true, Bool.false_and, Bool.and_false, Bool.true_or, Bool.or_true, Bool.false_or, Bool.or_false]
      rfl⟩
    · exact Int.emod_nonneg _ (by omega)
    · exact Int.emod_lt_of_pos _ hm
theorem pen_ok {n : Int} : ∃ c, Pen c ∧ d11 [.v (.int n)] = .oko c [.no] := by
  unfold d11
  simp -implicitDefEqProofs (maxSteps := 4000000) (disch := first | with_unfolding_all rfl | omega | (simp only [List.length_append, List.length_cons, List.length_nil, List.length_map, List.length_replicate, List.length_take, List.length_drop]; omega)) only [Nb.v_zipM, Nb.zm_ll, Nb.zm_lt, Nb.zm_tl, Nb.zm_tt, Nb.fp_ok, Nb.fp_okt, Nb.fp_ex, Nb.v_mFP, Nb.v_tupP, Nb.tp_f, Nb.tp_s, Nb.tp_d, Nb.v_pairD, Nb.oa_o, Nb.oa_v, Nb.v_retP, Nb.rp_d, Nb.rp_t, Nb.v_unpP, Nb.up_d, Nb.up_t, Nb.v_putO, Nb.po_n, Nb.po_v, Nb.po_o, Nb.v_parO, Nb.pr_ff, Nb.v_mLcO, Nb.la_o, Nb.la_v, Nb.nn_n, Nb.v_ix1P, Nb.i1_t, Nb.i1_d, Nb.kO_t, Nb.v_inN, Nb.v_ixN, Nb.v_setN, Nb.is_n, Nb.nio_no, Nb.nio_v, Nb.nio_n, Nb.v_putN, Nb.oe_s, Nb.oe_n, Nb.v_c, Nb.v_var, Nb.vs_v, Nb.vs_o, Nb.vs_io, Nb.w_d, Nb.w_f, Nb.w_s, Nb.ws_o, Nb.ws_io, Nb.ws_v, Nb.cl_l, Nb.cl_d, Nb.a_d, Nb.a_f, Nb.a_s, Nb.as_o, Nb.as_v, Nb.as_nil, Nb.as_cons, Nb.v_m2, Nb.v_ap2, Nb.v_m1, Nb.v_ap1, Nb.v_set, Nb.sd_no, Nb.sd_v, Nb.sd_o, Nb.sf_no, Nb.sf_v, Nb.sf_o, Nb.ss_no, Nb.ss_v, Nb.ss_oo, Nb.v_nil, Nb.v_cons, Nb.v_tup, Nb.v_lst, Nb.v_rep, Nb.w_nil, Nb.w_cons, Nb.v_mA, Nb.p_nil, Nb.p_t, Nb.p_f, Nb.x_d, Nb.x_f, Nb.x_s, Nb.xs_v, Nb.xs_o, Nb.xs_io, Nb.ce_nil, Nb.ce_v, Nb.ce_i, Nb.cs_o, Nb.cs_io, Nb.sl_nil, Nb.sl_v, Nb.sl_i, Nb.fo_ok, Nb.fo_okt, Nb.fo_oko, Nb.fo_ex, Nb.v_mF, Nb.pb_nil, Nb.pb_v, Nb.pb_i, Nb.ss_o, Nb.ss_io, Nb.b_b, Nb.v_toB, Nb.v_mTst, Nb.v_and, Nb.v_or, Nb.v_not, Nb.v_if, Nb.v_andV, Nb.v_orV, Nb.v_notV, Nb.v_m3, Nb.v_inR, Nb.v_part0, Nb.i_i, Nb.v_part1, Nb.v_sl, Nb.v_dc0, Nb.v_dc1, Nb.v_seq, Nb.n_rt, Nb.n_rtt, Nb.n_rto, Nb.n_bk, Nb.n_ct, Nb.n_ex, Nb.n_bad, Nb.v_nop, Nb.v_brk, Nb.v_cnt, Nb.v_expr, Nb.v_ifS, Nb.v_ret, Nb.v_retN, Nb.r_d, Nb.r_f, Nb.r_s, Nb.rs_o, Nb.rs_v, Nb.v_asg, Nb.t_nm, Nb.t_nil, Nb.t_cons, Nb.t_tp, Nb.ps_2, Nb.v_par, Nb.v_for, Nb.v_items, Nb.it_l, Nb.it_t, Nb.v_src, Nb.rg1, Nb.rg2, Nb.v_enum, Nb.eo_1, Nb.v_zip, Nb.v_zipD, Nb.zo_l, Nb.zo_t, Nb.v_mut, Nb.il_o, Nb.il_io, Nb.v_apMut, Nb.mu_o, Nb.mu_io, Nb.v_gPut, Nb.pu_o, Nb.pu_io, Nb.v_augS, Nb.id_i, Nb.cl_o, Nb.cl_io, Nb.v_dict, Nb.ky_i, Nb.ky_s, Nb.v_keys, Nb.ko_f, Nb.v_gPutA, Nb.pd_o, Nb.ic_o, Nb.ic_io, Nb.v_mLc, Nb.wi_nil, Nb.wi_cons, Nb.wp_no, Nb.wp_v, Nb.re_nil, Nb.re_cons, Nb.rt_nn, Nb.rt_vn, Nb.rt_nv, Nb.rt_vv, Nb.f1, Nb.f2, Nb.f3, Nb.f4, Nb.f5, Nb.fs_nx, Nb.fs_rt, Nb.fs_rtt, Nb.fs_rto, Nb.ou_0, Nb.ou_s, Nb.io_no, Nb.io_v, Nb.io_o, Nb.io_io, Nb.g0, Nb.g1, Nb.s0, Nb.s1, Nb.ln_le, Nb.ln_lt, Nb.o_add, Nb.o_sub, Nb.o_mulr, Nb.o_mull, Nb.o_fdiv, Nb.o_mod, Nb.o_neg, Nb.o_cmp, Nb.o_max2, Nb.o_min2, Nb.o_int_b, Nb.o_lenL, Nb.o_lenT, Nb.o_pow, Nb.o_slL, Nb.o_slT, Nb.o_repT, Nb.v_apR, Nb.o_inD, Nb.o_inL, Nb.o_inT, Nb.o_list_l, Nb.o_list_t, Nb.o_tup_l, Nb.o_tup_t, Nb.o_addL, Nb.o_addT, Nb.o_eq, Nb.o_ne, Nb.o_extL, Nb.o_extT, Nb.o_app, Nb.at0, Nb.ix_in, Nb.at1, Nb.at2, Nb.pick_in, Nb.o_ixL, Nb.o_ixT, Nb.o_ixLn, Nb.o_ixTn, Nb.pk0, Nb.pk1, Nb.pk2, Nb.o_eqi, Nb.o_eqb, Nb.o_nei, Nb.o_divmod, Nb.o_all, Nb.o_sum, Nb.v_exc, Nb.ex_x, Nb.fl_house, Nb.fl_nobody, Nb.fl_text, Nb.fl_open, Nb.fl_many, Nb.fl_most, Nb.v_throw, Nb.v_throwF1, Nb.v_throwF2, Nb.sm_log, Nb.v_try, Nb.tr_nx, Nb.tr_rt, Nb.tr_rtt, Nb.tr_rto, Nb.tr_c0, Nb.tr_c1, Nb.tr_c2, Nb.tr_c3, Nb.tr_c4, Nb.tr_c5, Nb.tr_c6, Nb.tr_c7, Nb.tr_c8, Nb.tr_c9, Nb.tr_c10, Nb.tr_c11, Nb.v_putX, Nb.px_no, Nb.px_v, Nb.ox_nx, Nb.ox_rt, Nb.ox_rto, Nb.v_endX, Nb.en_x, Nb.cl_nil, Nb.cl_cons, Nb.cl_no, Nb.cl_v, Nb.cl_oo, Nb.cl_ioo, Nb.cl_x, Nb.io_x, Nb.vs_x, Nb.xs_x, Nb.fs_ex, Nb.lo_ex, Nb.ce_x, Nb.sl_x, Nb.pb_x, Nb.v_m2T, Nb.kd_l, Nb.kd_t, Nb.me_1, Nb.me_2, Nb.me_3, Nb.o_revL, Nb.o_revT, Nb.o_lr1, Nb.o_tr1, Nb.o_eqs, Nb.o_nes, R.elim_ok, R.elim_ex, R.elim_bad, Out.next_nx, Option.bind_some, Option.map_some, Option.bind_none, Option.map_none, List.cons_append, List.nil_append, List.replicate_succ, List.replicate_zero, Nat.reduceSub, Nat.reduceAdd, if_true, if_false, Bool.not_true, Bool.not_false, Bool.false_eq_true, List.length_cons, List.length_nil, List.append_nil, Int.reduceToNat, List.set_cons_zero, List.set_cons_succ, decide_true, decide_false, Int.reduceEq, Int.reduceLT, Int.reduceLE, List.nodup_nil, Nb.rb_n2, Nb.rb_p2, Nb.rb_n1, Nb.rb_p1, and_self, and_true, true_and, and_false, false_and, not_true_eq_false, not_false_eq_true, Nb.nd1, Nb.nd2, Nb.nd3, Nb.k_int, Nb.k_bool, Nb.k_tuple, Nb.k_list, Nb.k_str, Nb.cast_lit, Nb.o_inI, Nb.o_inIT, Nb.o_sortU, Nb.o_sorted, Nb.o_sortT, Nb.o_neL0, Nb.o_neb, Nb.o_eqT0, Nb.o_pop, Nb.hasK_T, Nb.o_sumT, Nb.o_sumL, Nb.pick_ints, Nb.pick_rows, Nb.o_eqT, Nb.o_neT, Nb.o_eqL, Nb.o_neL, Nb.o_eqR, Nb.o_neR, Nb.all_map', Int.reduceNeg, Nb.o_cntT, Nb.o_cntL, Nb.ints_rev, Bool.false_bne, Bool.true_bne, Bool.and_self, Bool.or_self, Bool.true_and, Bool.and_true, Bool.false_and, Bool.and_false, Bool.true_or, Bool.or_true, Bool.false_or, Bool.or_false]
  by_cases h : (10 : Int) ^ 18 ≤ (if 0 - n > n then 0 - n else n)
  · simp -implicitDefEqProofs (maxSteps := 4000000) (disch := first | with_unfolding_all rfl | omega | (simp only [List.length_append, List.length_cons, List.length_nil, List.length_map, List.length_replicate, List.length_take, List.length_drop]; omega)) only [h, Nb.v_zipM, Nb.zm_ll, Nb.zm_lt, Nb.zm_tl, Nb.zm_tt, Nb.fp_ok, Nb.fp_okt, Nb.fp_ex, Nb.v_mFP, Nb.v_tupP, Nb.tp_f, Nb.tp_s, Nb.tp_d, Nb.v_pairD, Nb.oa_o, Nb.oa_v, Nb.v_retP, Nb.rp_d, Nb.rp_t, Nb.v_unpP, Nb.up_d, Nb.up_t, Nb.v_putO, Nb.po_n, Nb.po_v, Nb.po_o, Nb.v_parO, Nb.pr_ff, Nb.v_mLcO, Nb.la_o, Nb.la_v, Nb.nn_n, Nb.v_ix1P, Nb.i1_t, Nb.i1_d, Nb.kO_t, Nb.v_inN, Nb.v_ixN, Nb.v_setN, Nb.is_n, Nb.nio_no, Nb.nio_v, Nb.nio_n, Nb.v_putN, Nb.oe_s, Nb.oe_n, Nb.v_c, Nb.v_var, Nb.vs_v, Nb.vs_o, Nb.vs_io, Nb.w_d, Nb.w_f, Nb.w_s, Nb.ws_o, Nb.ws_io, Nb.ws_v, Nb.cl_l, Nb.cl_d, Nb.a_d, Nb.a_f, Nb.a_s, Nb.as_o, Nb.as_v, Nb.as_nil, Nb.as_cons, Nb.v_m2, Nb.v_ap2, Nb.v_m1, Nb.v_ap1, Nb.v_set, Nb.sd_no, Nb.sd_v, Nb.sd_o, Nb.sf_no, Nb.sf_v, Nb.sf_o, Nb.ss_no, Nb.ss_v, Nb.ss_oo, Nb.v_nil, Nb.v_cons, Nb.v_tup, Nb.v_lst, Nb.v_rep, Nb.w_nil, Nb.w_cons, Nb.v_mA, Nb.p_nil, Nb.p_t, Nb.p_f, Nb.x_d, Nb.x_f, Nb.x_s, Nb.xs_v, Nb.xs_o, Nb.xs_io, Nb.ce_nil, Nb.ce_v, Nb.ce_i, Nb.cs_o, Nb.cs_io, Nb.sl_nil, Nb.sl_v, Nb.sl_i, Nb.fo_ok, Nb.fo_okt, Nb.fo_oko, Nb.fo_ex, Nb.v_mF, Nb.pb_nil, Nb.pb_v, Nb.pb_i, Nb.ss_o, Nb.ss_io, Nb.b_b, Nb.v_toB, Nb.v_mTst, Nb.v_and, Nb.v_or, Nb.v_not, Nb.v_if, Nb.v_andV, Nb.v_orV, Nb.v_notV, Nb.v_m3, Nb.v_inR, Nb.v_part0, Nb.i_i, Nb.v_part1, Nb.v_sl, Nb.v_dc0, Nb.v_dc1, Nb.v_seq, Nb.n_rt, Nb.n_rtt, Nb.n_rto, Nb.n_bk, Nb.n_ct, Nb.n_ex, Nb.n_bad, Nb.v_nop, Nb.v_brk, Nb.v_cnt, Nb.v_expr, Nb.v_ifS, Nb.v_ret, Nb.v_retN, Nb.r_d, Nb.r_f, Nb.r_s, Nb.rs_o, Nb.rs_v, Nb.v_asg, Nb.t_nm, Nb.t_nil, Nb.t_cons, Nb.t_tp, Nb.ps_2, Nb.v_par, Nb.v_for, Nb.v_items, Nb.it_l, Nb.it_t, Nb.v_src, Nb.rg1, Nb.rg2, Nb.v_enum, Nb.eo_1, Nb.v_zip, Nb.v_zipD, Nb.zo_l, Nb.zo_t, Nb.v_mut, Nb.il_o, Nb.il_io, Nb.v_apMut, Nb.mu_o, Nb.mu_io, Nb.v_gPut, Nb.pu_o, Nb.pu_io, Nb.v_augS, Nb.id_i, Nb.cl_o, Nb.cl_io, Nb.v_dict, Nb.ky_i, Nb.ky_s, Nb.v_keys, Nb.ko_f, Nb.v_gPutA, Nb.pd_o, Nb.ic_o, Nb.ic_io, Nb.v_mLc, Nb.wi_nil, Nb.wi_cons, Nb.wp_no, Nb.wp_v, Nb.re_nil, Nb.re_cons, Nb.rt_nn, Nb.rt_vn, Nb.rt_nv, Nb.rt_vv, Nb.f1, Nb.f2, Nb.f3, Nb.f4, Nb.f5, Nb.fs_nx, Nb.fs_rt, Nb.fs_rtt, Nb.fs_rto, Nb.ou_0, Nb.ou_s, Nb.io_no, Nb.io_v, Nb.io_o, Nb.io_io, Nb.g0, Nb.g1, Nb.s0, Nb.s1, Nb.ln_le, Nb.ln_lt, Nb.o_add, Nb.o_sub, Nb.o_mulr, Nb.o_mull, Nb.o_fdiv, Nb.o_mod, Nb.o_neg, Nb.o_cmp, Nb.o_max2, Nb.o_min2, Nb.o_int_b, Nb.o_lenL, Nb.o_lenT, Nb.o_pow, Nb.o_slL, Nb.o_slT, Nb.o_repT, Nb.v_apR, Nb.o_inD, Nb.o_inL, Nb.o_inT, Nb.o_list_l, Nb.o_list_t, Nb.o_tup_l, Nb.o_tup_t, Nb.o_addL, Nb.o_addT, Nb.o_eq, Nb.o_ne, Nb.o_extL, Nb.o_extT, Nb.o_app, Nb.at0, Nb.ix_in, Nb.at1, Nb.at2, Nb.pick_in, Nb.o_ixL, Nb.o_ixT, Nb.o_ixLn, Nb.o_ixTn, Nb.pk0, Nb.pk1, Nb.pk2, Nb.o_eqi, Nb.o_eqb, Nb.o_nei, Nb.o_divmod, Nb.o_all, Nb.o_sum, Nb.v_exc, Nb.ex_x, Nb.fl_house, Nb.fl_nobody, Nb.fl_text, Nb.fl_open, Nb.fl_many, Nb.fl_most, Nb.v_throw, Nb.v_throwF1, Nb.v_throwF2, Nb.sm_log, Nb.v_try, Nb.tr_nx, Nb.tr_rt, Nb.tr_rtt, Nb.tr_rto, Nb.tr_c0, Nb.tr_c1, Nb.tr_c2, Nb.tr_c3, Nb.tr_c4, Nb.tr_c5, Nb.tr_c6, Nb.tr_c7, Nb.tr_c8, Nb.tr_c9, Nb.tr_c10, Nb.tr_c11, Nb.v_putX, Nb.px_no, Nb.px_v, Nb.ox_nx, Nb.ox_rt, Nb.ox_rto, Nb.v_endX, Nb.en_x, Nb.cl_nil, Nb.cl_cons, Nb.cl_no, Nb.cl_v, Nb.cl_oo, Nb.cl_ioo, Nb.cl_x, Nb.io_x, Nb.vs_x, Nb.xs_x, Nb.fs_ex, Nb.lo_ex, Nb.ce_x, Nb.sl_x, Nb.pb_x, Nb.v_m2T, Nb.kd_l, Nb.kd_t, Nb.me_1, Nb.me_2, Nb.me_3, Nb.o_revL, Nb.o_revT, Nb.o_lr1, Nb.o_tr1, Nb.o_eqs, Nb.o_nes, R.elim_ok, R.elim_ex, R.elim_bad, Out.next_nx, Option.bind_some, Option.map_some, Option.bind_none, Option.map_none, List.cons_append, List.nil_append, List.replicate_succ, List.replicate_zero, Nat.reduceSub, Nat.reduceAdd, if_true, if_false, Bool.not_true, Bool.not_false, Bool.false_eq_true, List.length_cons, List.length_nil, List.append_nil, Int.reduceToNat, List.set_cons_zero, List.set_cons_succ, decide_true, decide_false, Int.reduceEq, Int.reduceLT, Int.reduceLE, List.nodup_nil, Nb.rb_n2, Nb.rb_p2, Nb.rb_n1, Nb.rb_p1, and_self, and_true, true_and, and_false, false_and, not_true_eq_false, not_false_eq_true, Nb.nd1, Nb.nd2, Nb.nd3, Nb.k_int, Nb.k_bool, Nb.k_tuple, Nb.k_list, Nb.k_str, Nb.cast_lit, Nb.o_inI, Nb.o_inIT, Nb.o_sortU, Nb.o_sorted, Nb.o_sortT, Nb.o_neL0, Nb.o_neb, Nb.o_eqT0, Nb.o_pop, Nb.hasK_T, Nb.o_sumT, Nb.o_sumL, Nb.pick_ints, Nb.pick_rows, Nb.o_eqT, Nb.o_neT, Nb.o_eqL, Nb.o_neL, Nb.o_eqR, Nb.o_neR, Nb.all_map', Int.reduceNeg, Nb.o_cntT, Nb.o_cntL, Nb.ints_rev, Bool.false_bne, Bool.true_bne, Bool.and_self, Bool.or_self, Bool.true_and, Bool.and_true, Bool.false_and, Bool.and_false, Bool.true_or, Bool.or_true, Bool.false_or, Bool.or_false]
    exact ⟨_, ⟨_, 1, rfl, .inr rfl⟩, rfl⟩
  · simp -implicitDefEqProofs (maxSteps := 4000000) (disch := first | with_unfolding_all rfl | omega | (simp only [List.length_append, List.length_cons, List.length_nil, List.length_map, List.length_replicate, List.length_take, List.length_drop]; omega)) only [h, Nb.v_zipM, Nb.zm_ll, Nb.zm_lt, Nb.zm_tl, Nb.zm_tt, Nb.fp_ok, Nb.fp_okt, Nb.fp_ex, Nb.v_mFP, Nb.v_tupP, Nb.tp_f, Nb.tp_s, Nb.tp_d, Nb.v_pairD, Nb.oa_o, Nb.oa_v, Nb.v_retP, Nb.rp_d, Nb.rp_t, Nb.v_unpP, Nb.up_d, Nb.up_t, Nb.v_putO, Nb.po_n, Nb.po_v, Nb.po_o, Nb.v_parO, Nb.pr_ff, Nb.v_mLcO, Nb.la_o, Nb.la_v, Nb.nn_n, Nb.v_ix1P, Nb.i1_t, Nb.i1_d, Nb.kO_t, Nb.v_inN, Nb.v_ixN, Nb.v_setN, Nb.is_n, Nb.nio_no, Nb.nio_v, Nb.nio_n, Nb.v_putN, Nb.oe_s, Nb.oe_n, Nb.v_c, Nb.v_var, Nb.vs_v, Nb.vs_o, Nb.vs_io, Nb.w_d, Nb.w_f, Nb.w_s, Nb.ws_o, Nb.ws_io, Nb.ws_v, Nb.cl_l, Nb.cl_d, Nb.a_d, Nb.a_f, Nb.a_s, Nb.as_o, Nb.as_v, Nb.as_nil, Nb.as_cons, Nb.v_m2, Nb.v_ap2, Nb.v_m1, Nb.v_ap1, Nb.v_set, Nb.sd_no, Nb.sd_v, Nb.sd_o, Nb.sf_no, Nb.sf_v, Nb.sf_o, Nb.ss_no, Nb.ss_v, Nb.ss_oo, Nb.v_nil, Nb.v_cons, Nb.v_tup, Nb.v_lst, Nb.v_rep, Nb.w_nil, Nb.w_cons, Nb.v_mA, Nb.p_nil, Nb.p_t, Nb.p_f, Nb.x_d, Nb.x_f, Nb.x_s, Nb.xs_v, Nb.xs_o, Nb.xs_io, Nb.ce_nil, Nb.ce_v, Nb.ce_i, Nb.cs_o, Nb.cs_io, Nb.sl_nil, Nb.sl_v, Nb.sl_i, Nb.fo_ok, Nb.fo_okt, Nb.fo_oko, Nb.fo_ex, Nb.v_mF, Nb.pb_nil, Nb.pb_v, Nb.pb_i, Nb.ss_o, Nb.ss_io, Nb.b_b, Nb.v_toB, Nb.v_mTst, Nb.v_and, Nb.v_or, Nb.v_not, Nb.v_if, Nb.v_andV, Nb.v_orV, Nb.v_notV, Nb.v_m3, Nb.v_inR, Nb.v_part0, Nb.i_i, Nb.v_part1, Nb.v_sl, Nb.v_dc0, Nb.v_dc1, Nb.v_seq, Nb.n_rt, Nb.n_rtt, Nb.n_rto, Nb.n_bk, Nb.n_ct, Nb.n_ex, Nb.n_bad, Nb.v_nop, Nb.v_brk, Nb.v_cnt, Nb.v_expr, Nb.v_ifS, Nb.v_ret, Nb.v_retN, Nb.r_d, Nb.r_f, Nb.r_s, Nb.rs_o, Nb.rs_v, Nb.v_asg, Nb.t_nm, Nb.t_nil, Nb.t_cons, Nb.t_tp, Nb.ps_2, Nb.v_par, Nb.v_for, Nb.v_items, Nb.it_l, Nb.it_t, Nb.v_src, Nb.rg1, Nb.rg2, Nb.v_enum, Nb.eo_1, Nb.v_zip, Nb.v_zipD, Nb.zo_l, Nb.zo_t, Nb.v_mut, Nb.il_o, Nb.il_io, Nb.v_apMut, Nb.mu_o, Nb.mu_io, Nb.v_gPut, Nb.pu_o, Nb.pu_io, Nb.v_augS, Nb.id_i, Nb.cl_o, Nb.cl_io, Nb.v_dict, Nb.ky_i, Nb.ky_s, Nb.v_keys, Nb.ko_f, Nb.v_gPutA, Nb.pd_o, Nb.ic_o, Nb.ic_io, Nb.v_mLc, Nb.wi_nil, Nb.wi_cons, Nb.wp_no, Nb.wp_v, Nb.re_nil, Nb.re_cons, Nb.rt_nn, Nb.rt_vn, Nb.rt_nv, Nb.rt_vv, Nb.f1, Nb.f2, Nb.f3, Nb.f4, Nb.f5, Nb.fs_nx, Nb.fs_rt, Nb.fs_rtt, Nb.fs_rto, Nb.ou_0, Nb.ou_s, Nb.io_no, Nb.io_v, Nb.io_o, Nb.io_io, Nb.g0, Nb.g1, Nb.s0, Nb.s1, Nb.ln_le, Nb.ln_lt, Nb.o_add, Nb.o_sub, Nb.o_mulr, Nb.o_mull, Nb.o_fdiv, Nb.o_mod, Nb.o_neg, Nb.o_cmp, Nb.o_max2, Nb.o_min2, Nb.o_int_b, Nb.o_lenL, Nb.o_lenT, Nb.o_pow, Nb.o_slL, Nb.o_slT, Nb.o_repT, Nb.v_apR, Nb.o_inD, Nb.o_inL, Nb.o_inT, Nb.o_list_l, Nb.o_list_t, Nb.o_tup_l, Nb.o_tup_t, Nb.o_addL, Nb.o_addT, Nb.o_eq, Nb.o_ne, Nb.o_extL, Nb.o_extT, Nb.o_app, Nb.at0, Nb.ix_in, Nb.at1, Nb.at2, Nb.pick_in, Nb.o_ixL, Nb.o_ixT, Nb.o_ixLn, Nb.o_ixTn, Nb.pk0, Nb.pk1, Nb.pk2, Nb.o_eqi, Nb.o_eqb, Nb.o_nei, Nb.o_divmod, Nb.o_all, Nb.o_sum, Nb.v_exc, Nb.ex_x, Nb.fl_house, Nb.fl_nobody, Nb.fl_text, Nb.fl_open, Nb.fl_many, Nb.fl_most, Nb.v_throw, Nb.v_throwF1, Nb.v_throwF2, Nb.sm_log, Nb.v_try, Nb.tr_nx, Nb.tr_rt, Nb.tr_rtt, Nb.tr_rto, Nb.tr_c0, Nb.tr_c1, Nb.tr_c2, Nb.tr_c3, Nb.tr_c4, Nb.tr_c5, Nb.tr_c6, Nb.tr_c7, Nb.tr_c8, Nb.tr_c9, Nb.tr_c10, Nb.tr_c11, Nb.v_putX, Nb.px_no, Nb.px_v, Nb.ox_nx, Nb.ox_rt, Nb.ox_rto, Nb.v_endX, Nb.en_x, Nb.cl_nil, Nb.cl_cons, Nb.cl_no, Nb.cl_v, Nb.cl_oo, Nb.cl_ioo, Nb.cl_x, Nb.io_x, Nb.vs_x, Nb.xs_x, Nb.fs_ex, Nb.lo_ex, Nb.ce_x, Nb.sl_x, Nb.pb_x, Nb.v_m2T, Nb.kd_l, Nb.kd_t, Nb.me_1, Nb.me_2, Nb.me_3, Nb.o_revL, Nb.o_revT, Nb.o_lr1, Nb.o_tr1, Nb.o_eqs, Nb.o_nes, R.elim_ok, R.elim_ex, R.elim_bad, Out.next_nx, Option.bind_some, Option.map_some, Option.bind_none, Option.map_none, List.cons_append, List.nil_append, List.replicate_succ, List.replicate_zero, Nat.reduceSub, Nat.reduceAdd, if_true, if_false, Bool.not_true, Bool.not_false, Bool.false_eq_true, List.length_cons, List.length_nil, List.append_nil, Int.reduceToNat, List.set_cons_zero, List.set_cons_succ, decide_true, decide_false, Int.reduceEq, Int.reduceLT, Int.reduceLE, List.nodup_nil, Nb.rb_n2, Nb.rb_p2, Nb.rb_n1, Nb.rb_p1, and_self, and_true, true_and, and_false, false_and, not_true_eq_false, not_false_eq_true, Nb.nd1, Nb.nd2, Nb.nd3, Nb.k_int, Nb.k_bool, Nb.k_tuple, Nb.k_list, Nb.k_str, Nb.cast_lit, Nb.o_inI, Nb.o_inIT, Nb.o_sortU, Nb.o_sorted, Nb.o_sortT, Nb.o_neL0, Nb.o_neb, Nb.o_eqT0, Nb.o_pop, Nb.hasK_T, Nb.o_sumT, Nb.o_sumL, Nb.pick_ints, Nb.pick_rows, Nb.o_eqT, Nb.o_neT, Nb.o_eqL, Nb.o_neL, Nb.o_eqR, Nb.o_neR, Nb.all_map', Int.reduceNeg, Nb.o_cntT, Nb.o_cntL, Nb.ints_rev, Bool.false_bne, Bool.true_bne, Bool.and_self, Bool.or_self, Bool.true_and, Bool.and_true, Bool.false_and, Bool.and_false, Bool.true_or, Bool.or_true, Bool.false_or, Bool.or_false]
    exact ⟨_, ⟨_, 0, rfl, .inl rfl⟩, rfl⟩
/-- a house -/
structure HouseOk (hs : List (List Int)) (most doors : Nat) : Prop where
  one : 1 ≤ hs.length
  most : hs.length ≤ most
  room : ∀ r ∈ hs, 1 ≤ r.length ∧ r.length ≤ doors ∧ ∀ n ∈ r, -3 ≤ n ∧ n < hs.length
theorem HouseOk.at {hs : List (List Int)} {most doors : Nat} (h : HouseOk hs most doors) {k : Nat} (hk : k < hs.length) : 1 ≤ (hs.getD k []).length ∧ (hs.getD k []).length ≤ doors ∧ ∀ n ∈ hs.getD k [], -3 ≤ n ∧ n < hs.length := h.room _ (getD_mem hk)
/-- arrows of a house -/
structure ArrOk (hs : List (List Int)) (as : List Int) : Prop where
  len : as.length = hs.length
  arr : ∀ k, k < hs.length → 0 ≤ as.getD k 0 ∧ as.getD k 0 < (hs.getD k []).length
theorem cells_int {ns : List Int} {n0 : Int} {a b : Option Int} : ∀ d ∈ PyData.int n0 :: cutD (ns.map PyData.int) a b, ∃ n : Int, d = .int n := fun d hd => by
  rcases List.mem_cons.mp hd with rfl | hd
  · exact ⟨_, rfl⟩
  · unfold cutD at hd
    obtain ⟨n, _, e⟩ := List.mem_map.mp (List.mem_of_mem_drop (List.mem_of_mem_take hd))
    exact ⟨n, e.symm⟩
theorem num_ok {i m : Int} : d1 [.v (.int i), .v (.int m)] = .ok (.bool (decide (0 ≤ i ∧ i < m))) [.no, .no] := by
  unfold d1
  by_cases h : 0 ≤ i
  · simp -implicitDefEqProofs (maxSteps := 4000000) (disch := first | with_unfolding_all rfl | omega | (simp only [List.length_append, List.length_cons, List.length_nil, List.length_map, List.length_replicate, List.length_take, List.length_drop]; omega)) only [whole_p, isW, h, Nb.v_zipM, Nb.zm_ll, Nb.zm_lt, Nb.zm_tl, Nb.zm_tt, Nb.fp_ok, Nb.fp_okt, Nb.fp_ex, Nb.v_mFP, Nb.v_tupP, Nb.tp_f, Nb.tp_s, Nb.tp_d, Nb.v_pairD, Nb.oa_o, Nb.oa_v, Nb.v_retP, Nb.rp_d, Nb.rp_t, Nb.v_unpP, Nb.up_d, Nb.up_t, Nb.v_putO, Nb.po_n, Nb.po_v, Nb.po_o, Nb.v_parO, Nb.pr_ff, Nb.v_mLcO, Nb.la_o, Nb.la_v, Nb.nn_n, Nb.v_ix1P, Nb.i1_t, Nb.i1_d, Nb.kO_t, Nb.v_inN, Nb.v_ixN, Nb.v_setN, Nb.is_n, Nb.nio_no, Nb.nio_v, Nb.nio_n, Nb.v_putN, Nb.oe_s, Nb.oe_n, Nb.v_c, Nb.v_var, Nb.vs_v, Nb.vs_o, Nb.vs_io, Nb.w_d, Nb.w_f, Nb.w_s, Nb.ws_o, Nb.ws_io, Nb.ws_v, Nb.cl_l, Nb.cl_d, Nb.a_d, Nb.a_f, Nb.a_s, Nb.as_o, Nb.as_v, Nb.as_nil, Nb.as_cons, Nb.v_m2, Nb.v_ap2, Nb.v_m1, Nb.v_ap1, Nb.v_set, Nb.sd_no, Nb.sd_v, Nb.sd_o, Nb.sf_no, Nb.sf_v, Nb.sf_o, Nb.ss_no, Nb.ss_v, Nb.ss_oo, Nb.v_nil, Nb.v_cons, Nb.v_tup, Nb.v_lst, Nb.v_rep, Nb.w_nil, Nb.w_cons, Nb.v_mA, Nb.p_nil, Nb.p_t, Nb.p_f, Nb.x_d, Nb.x_f, Nb.x_s, Nb.xs_v, Nb.xs_o, Nb.xs_io, Nb.ce_nil, Nb.ce_v, Nb.ce_i, Nb.cs_o, Nb.cs_io, Nb.sl_nil, Nb.sl_v, Nb.sl_i, Nb.fo_ok, Nb.fo_okt, Nb.fo_oko, Nb.fo_ex, Nb.v_mF, Nb.pb_nil, Nb.pb_v, Nb.pb_i, Nb.ss_o, Nb.ss_io, Nb.b_b, Nb.v_toB, Nb.v_mTst, Nb.v_and, Nb.v_or, Nb.v_not, Nb.v_if, Nb.v_andV, Nb.v_orV, Nb.v_notV, Nb.v_m3, Nb.v_inR, Nb.v_part0, Nb.i_i, Nb.v_part1, Nb.v_sl, Nb.v_dc0, Nb.v_dc1, Nb.v_seq, Nb.n_rt, Nb.n_rtt, Nb.n_rto, Nb.n_bk, Nb.n_ct, Nb.n_ex, Nb.n_bad, Nb.v_nop, Nb.v_brk, Nb.v_cnt, Nb.v_expr, Nb.v_ifS, Nb.v_ret, Nb.v_retN, Nb.r_d, Nb.r_f, Nb.r_s, Nb.rs_o, Nb.rs_v, Nb.v_asg, Nb.t_nm, Nb.t_nil, Nb.t_cons, Nb.t_tp, Nb.ps_2, Nb.v_par, Nb.v_for, Nb.v_items, Nb.it_l, Nb.it_t, Nb.v_src, Nb.rg1, Nb.rg2, Nb.v_enum, Nb.eo_1, Nb.v_zip, Nb.v_zipD, Nb.zo_l, Nb.zo_t, Nb.v_mut, Nb.il_o, Nb.il_io, Nb.v_apMut, Nb.mu_o, Nb.mu_io, Nb.v_gPut, Nb.pu_o, Nb.pu_io, Nb.v_augS, Nb.id_i, Nb.cl_o, Nb.cl_io, Nb.v_dict, Nb.ky_i, Nb.ky_s, Nb.v_keys, Nb.ko_f, Nb.v_gPutA, Nb.pd_o, Nb.ic_o, Nb.ic_io, Nb.v_mLc, Nb.wi_nil, Nb.wi_cons, Nb.wp_no, Nb.wp_v, Nb.re_nil, Nb.re_cons, Nb.rt_nn, Nb.rt_vn, Nb.rt_nv, Nb.rt_vv, Nb.f1, Nb.f2, Nb.f3, Nb.f4, Nb.f5, Nb.fs_nx, Nb.fs_rt, Nb.fs_rtt, Nb.fs_rto, Nb.ou_0, Nb.ou_s, Nb.io_no, Nb.io_v, Nb.io_o, Nb.io_io, Nb.g0, Nb.g1, Nb.s0, Nb.s1, Nb.ln_le, Nb.ln_lt, Nb.o_add, Nb.o_sub, Nb.o_mulr, Nb.o_mull, Nb.o_fdiv, Nb.o_mod, Nb.o_neg, Nb.o_cmp, Nb.o_max2, Nb.o_min2, Nb.o_int_b, Nb.o_lenL, Nb.o_lenT, Nb.o_pow, Nb.o_slL, Nb.o_slT, Nb.o_repT, Nb.v_apR, Nb.o_inD, Nb.o_inL, Nb.o_inT, Nb.o_list_l, Nb.o_list_t, Nb.o_tup_l, Nb.o_tup_t, Nb.o_addL, Nb.o_addT, Nb.o_eq, Nb.o_ne, Nb.o_extL, Nb.o_extT, Nb.o_app, Nb.at0, Nb.ix_in, Nb.at1, Nb.at2, Nb.pick_in, Nb.o_ixL, Nb.o_ixT, Nb.o_ixLn, Nb.o_ixTn, Nb.pk0, Nb.pk1, Nb.pk2, Nb.o_eqi, Nb.o_eqb, Nb.o_nei, Nb.o_divmod, Nb.o_all, Nb.o_sum, Nb.v_exc, Nb.ex_x, Nb.fl_house, Nb.fl_nobody, Nb.fl_text, Nb.fl_open, Nb.fl_many, Nb.fl_most, Nb.v_throw, Nb.v_throwF1, Nb.v_throwF2, Nb.sm_log, Nb.v_try, Nb.tr_nx, Nb.tr_rt, Nb.tr_rtt, Nb.tr_rto, Nb.tr_c0, Nb.tr_c1, Nb.tr_c2, Nb.tr_c3, Nb.tr_c4, Nb.tr_c5, Nb.tr_c6, Nb.tr_c7, Nb.tr_c8, Nb.tr_c9, Nb.tr_c10, Nb.tr_c11, Nb.v_putX, Nb.px_no, Nb.px_v, Nb.ox_nx, Nb.ox_rt, Nb.ox_rto, Nb.v_endX, Nb.en_x, Nb.cl_nil, Nb.cl_cons, Nb.cl_no, Nb.cl_v, Nb.cl_oo, Nb.cl_ioo, Nb.cl_x, Nb.io_x, Nb.vs_x, Nb.xs_x, Nb.fs_ex, Nb.lo_ex, Nb.ce_x, Nb.sl_x, Nb.pb_x, Nb.v_m2T, Nb.kd_l, Nb.kd_t, Nb.me_1, Nb.me_2, Nb.me_3, Nb.o_revL, Nb.o_revT, Nb.o_lr1, Nb.o_tr1, Nb.o_eqs, Nb.o_nes, R.elim_ok, R.elim_ex, R.elim_bad, Out.next_nx, Option.bind_some, Option.map_some, Option.bind_none, Option.map_none, List.cons_append, List.nil_append, List.replicate_succ, List.replicate_zero, Nat.reduceSub, Nat.reduceAdd, if_true, if_false, Bool.not_true, Bool.not_false, Bool.false_eq_true, List.length_cons, List.length_nil, List.append_nil, Int.reduceToNat, List.set_cons_zero, List.set_cons_succ, decide_true, decide_false, Int.reduceEq, Int.reduceLT, Int.reduceLE, List.nodup_nil, Nb.rb_n2, Nb.rb_p2, Nb.rb_n1, Nb.rb_p1, and_self, and_true, true_and, and_false, false_and, not_true_eq_false, not_false_eq_true, Nb.nd1, Nb.nd2, Nb.nd3, Nb.k_int, Nb.k_bool, Nb.k_tuple, Nb.k_list, Nb.k_str, Nb.cast_lit, Nb.o_inI, Nb.o_inIT, Nb.o_sortU, Nb.o_sorted, Nb.o_sortT, Nb.o_neL0, Nb.o_neb, Nb.o_eqT0, Nb.o_pop, Nb.hasK_T, Nb.o_sumT, Nb.o_sumL, Nb.pick_ints, Nb.pick_rows, Nb.o_eqT, Nb.o_neT, Nb.o_eqL, Nb.o_neL, Nb.o_eqR, Nb.o_neR, Nb.all_map', Int.reduceNeg, Nb.o_cntT, Nb.o_cntL, Nb.ints_rev, Bool.false_bne, Bool.true_bne, Bool.and_self, Bool.or_self, Bool.true_and, Bool.and_true, Bool.false_and, Bool.and_false, Bool.true_or, Bool.or_true, Bool.false_or, Bool.or_false]
  · simp -implicitDefEqProofs (maxSteps := 4000000) (disch := first | with_unfolding_all rfl | omega | (simp only [List.length_append, List.length_cons, List.length_nil, List.length_map, List.length_replicate, List.length_take, List.length_drop]; omega)) only [whole_p, isW, h, Nb.v_zipM, Nb.zm_ll, Nb.zm_lt, Nb.zm_tl, Nb.zm_tt, Nb.fp_ok, Nb.fp_okt, Nb.fp_ex, Nb.v_mFP, Nb.v_tupP, Nb.tp_f, Nb.tp_s, Nb.tp_d, Nb.v_pairD, Nb.oa_o, Nb.oa_v, Nb.v_retP, Nb.rp_d, Nb.rp_t, Nb.v_unpP, Nb.up_d, Nb.up_t, Nb.v_putO, Nb.po_n, Nb.po_v, Nb.po_o, Nb.v_parO, Nb.pr_ff, Nb.v_mLcO, Nb.la_o, Nb.la_v, Nb.nn_n, Nb.v_ix1P, Nb.i1_t, Nb.i1_d, Nb.kO_t, Nb.v_inN, Nb.v_ixN, Nb.v_setN, Nb.is_n, Nb.nio_no, Nb.nio_v, Nb.nio_n, Nb.v_putN, Nb.oe_s, Nb.oe_n, Nb.v_c, Nb.v_var, Nb.vs_v, Nb.vs_o, Nb.vs_io, Nb.w_d, Nb.w_f, Nb.w_s, Nb.ws_o, Nb.ws_io, Nb.ws_v, Nb.cl_l, Nb.cl_d, Nb.a_d, Nb.a_f, Nb.a_s, Nb.as_o, Nb.as_v, Nb.as_nil, Nb.as_cons, Nb.v_m2, Nb.v_ap2, Nb.v_m1, Nb.v_ap1, Nb.v_set, Nb.sd_no, Nb.sd_v, Nb.sd_o, Nb.sf_no, Nb.sf_v, Nb.sf_o, Nb.ss_no, Nb.ss_v, Nb.ss_oo, Nb.v_nil, Nb.v_cons, Nb.v_tup, Nb.v_lst, Nb.v_rep, Nb.w_nil, Nb.w_cons, Nb.v_mA, Nb.p_nil, Nb.p_t, Nb.p_f, Nb.x_d, Nb.x_f, Nb.x_s, Nb.xs_v, Nb.xs_o, Nb.xs_io, Nb.ce_nil, Nb.ce_v, Nb.ce_i, Nb.cs_o, Nb.cs_io, Nb.sl_nil, Nb.sl_v, Nb.sl_i, Nb.fo_ok, Nb.fo_okt, Nb.fo_oko, Nb.fo_ex, Nb.v_mF, Nb.pb_nil, Nb.pb_v, Nb.pb_i, Nb.ss_o, Nb.ss_io, Nb.b_b, Nb.v_toB, Nb.v_mTst, Nb.v_and, Nb.v_or, Nb.v_not, Nb.v_if, Nb.v_andV, Nb.v_orV, Nb.v_notV, Nb.v_m3, Nb.v_inR, Nb.v_part0, Nb.i_i, Nb.v_part1, Nb.v_sl, Nb.v_dc0, Nb.v_dc1, Nb.v_seq, Nb.n_rt, Nb.n_rtt, Nb.n_rto, Nb.n_bk, Nb.n_ct, Nb.n_ex, Nb.n_bad, Nb.v_nop, Nb.v_brk, Nb.v_cnt, Nb.v_expr, Nb.v_ifS, Nb.v_ret, Nb.v_retN, Nb.r_d, Nb.r_f, Nb.r_s, Nb.rs_o, Nb.rs_v, Nb.v_asg, Nb.t_nm, Nb.t_nil, Nb.t_cons, Nb.t_tp, Nb.ps_2, Nb.v_par, Nb.v_for, Nb.v_items, Nb.it_l, Nb.it_t, Nb.v_src, Nb.rg1, Nb.rg2, Nb.v_enum, Nb.eo_1, Nb.v_zip, Nb.v_zipD, Nb.zo_l, Nb.zo_t, Nb.v_mut, Nb.il_o, Nb.il_io, Nb.v_apMut, Nb.mu_o, Nb.mu_io, Nb.v_gPut, Nb.pu_o, Nb.pu_io, Nb.v_augS, Nb.id_i, Nb.cl_o, Nb.cl_io, Nb.v_dict, Nb.ky_i, Nb.ky_s, Nb.v_keys, Nb.ko_f, Nb.v_gPutA, Nb.pd_o, Nb.ic_o, Nb.ic_io, Nb.v_mLc, Nb.wi_nil, Nb.wi_cons, Nb.wp_no, Nb.wp_v, Nb.re_nil, Nb.re_cons, Nb.rt_nn, Nb.rt_vn, Nb.rt_nv, Nb.rt_vv, Nb.f1, Nb.f2, Nb.f3, Nb.f4, Nb.f5, Nb.fs_nx, Nb.fs_rt, Nb.fs_rtt, Nb.fs_rto, Nb.ou_0, Nb.ou_s, Nb.io_no, Nb.io_v, Nb.io_o, Nb.io_io, Nb.g0, Nb.g1, Nb.s0, Nb.s1, Nb.ln_le, Nb.ln_lt, Nb.o_add, Nb.o_sub, Nb.o_mulr, Nb.o_mull, Nb.o_fdiv, Nb.o_mod, Nb.o_neg, Nb.o_cmp, Nb.o_max2, Nb.o_min2, Nb.o_int_b, Nb.o_lenL, Nb.o_lenT, Nb.o_pow, Nb.o_slL, Nb.o_slT, Nb.o_repT, Nb.v_apR, Nb.o_inD, Nb.o_inL, Nb.o_inT, Nb.o_list_l, Nb.o_list_t, Nb.o_tup_l, Nb.o_tup_t, Nb.o_addL, Nb.o_addT, Nb.o_eq, Nb.o_ne, Nb.o_extL, Nb.o_extT, Nb.o_app, Nb.at0, Nb.ix_in, Nb.at1, Nb.at2, Nb.pick_in, Nb.o_ixL, Nb.o_ixT, Nb.o_ixLn, Nb.o_ixTn, Nb.pk0, Nb.pk1, Nb.pk2, Nb.o_eqi, Nb.o_eqb, Nb.o_nei, Nb.o_divmod, Nb.o_all, Nb.o_sum, Nb.v_exc, Nb.ex_x, Nb.fl_house, Nb.fl_nobody, Nb.fl_text, Nb.fl_open, Nb.fl_many, Nb.fl_most, Nb.v_throw, Nb.v_throwF1, Nb.v_throwF2, Nb.sm_log, Nb.v_try, Nb.tr_nx, Nb.tr_rt, Nb.tr_rtt, Nb.tr_rto, Nb.tr_c0, Nb.tr_c1, Nb.tr_c2, Nb.tr_c3, Nb.tr_c4, Nb.tr_c5, Nb.tr_c6, Nb.tr_c7, Nb.tr_c8, Nb.tr_c9, Nb.tr_c10, Nb.tr_c11, Nb.v_putX, Nb.px_no, Nb.px_v, Nb.ox_nx, Nb.ox_rt, Nb.ox_rto, Nb.v_endX, Nb.en_x, Nb.cl_nil, Nb.cl_cons, Nb.cl_no, Nb.cl_v, Nb.cl_oo, Nb.cl_ioo, Nb.cl_x, Nb.io_x, Nb.vs_x, Nb.xs_x, Nb.fs_ex, Nb.lo_ex, Nb.ce_x, Nb.sl_x, Nb.pb_x, Nb.v_m2T, Nb.kd_l, Nb.kd_t, Nb.me_1, Nb.me_2, Nb.me_3, Nb.o_revL, Nb.o_revT, Nb.o_lr1, Nb.o_tr1, Nb.o_eqs, Nb.o_nes, R.elim_ok, R.elim_ex, R.elim_bad, Out.next_nx, Option.bind_some, Option.map_some, Option.bind_none, Option.map_none, List.cons_append, List.nil_append, List.replicate_succ, List.replicate_zero, Nat.reduceSub, Nat.reduceAdd, if_true, if_false, Bool.not_true, Bool.not_false, Bool.false_eq_true, List.length_cons, List.length_nil, List.append_nil, Int.reduceToNat, List.set_cons_zero, List.set_cons_succ, decide_true, decide_false, Int.reduceEq, Int.reduceLT, Int.reduceLE, List.nodup_nil, Nb.rb_n2, Nb.rb_p2, Nb.rb_n1, Nb.rb_p1, and_self, and_true, true_and, and_false, false_and, not_true_eq_false, not_false_eq_true, Nb.nd1, Nb.nd2, Nb.nd3, Nb.k_int, Nb.k_bool, Nb.k_tuple, Nb.k_list, Nb.k_str, Nb.cast_lit, Nb.o_inI, Nb.o_inIT, Nb.o_sortU, Nb.o_sorted, Nb.o_sortT, Nb.o_neL0, Nb.o_neb, Nb.o_eqT0, Nb.o_pop, Nb.hasK_T, Nb.o_sumT, Nb.o_sumL, Nb.pick_ints, Nb.pick_rows, Nb.o_eqT, Nb.o_neT, Nb.o_eqL, Nb.o_neL, Nb.o_eqR, Nb.o_neR, Nb.all_map', Int.reduceNeg, Nb.o_cntT, Nb.o_cntL, Nb.ints_rev, Bool.false_bne, Bool.true_bne, Bool.and_self, Bool.or_self, Bool.true_and, Bool.and_true, Bool.false_and, Bool.and_false, Bool.true_or, Bool.or_true, Bool.false_or, Bool.or_false]
def isNum (d : D) (m : Int) : Bool := match d with
  | .int i => decide (0 ≤ i ∧ i < m)
  | _ => false
theorem num_d {d : D} {m : Int} : d1 [.v d, .v (.int m)] = .ok (.bool (isNum d m)) [.no, .no] := by
  cases d with
  | int i => exact num_ok
  | _ =>
    unfold d1
    simp -implicitDefEqProofs (maxSteps := 4000000) (disch := first | with_unfolding_all rfl | omega | (simp only [List.length_append, List.length_cons, List.length_nil, List.length_map, List.length_replicate, List.length_take, List.length_drop]; omega)) only [whole_p, isW, Nb.v_zipM, Nb.zm_ll, Nb.zm_lt, Nb.zm_tl, Nb.zm_tt, Nb.fp_ok, Nb.fp_okt, Nb.fp_ex, Nb.v_mFP, Nb.v_tupP, Nb.tp_f, Nb.tp_s, Nb.tp_d, Nb.v_pairD, Nb.oa_o, Nb.oa_v, Nb.v_retP, Nb.rp_d, Nb.rp_t, Nb.v_unpP, Nb.up_d, Nb.up_t, Nb.v_putO, Nb.po_n, Nb.po_v, Nb.po_o, Nb.v_parO, Nb.pr_ff, Nb.v_mLcO, Nb.la_o, Nb.la_v, Nb.nn_n, Nb.v_ix1P, Nb.i1_t, Nb.i1_d, Nb.kO_t, Nb.v_inN, Nb.v_ixN, Nb.v_setN, Nb.is_n, Nb.nio_no, Nb.nio_v, Nb.nio_n, Nb.v_putN, Nb.oe_s, Nb.oe_n, Nb.v_c, Nb.v_var, Nb.vs_v, Nb.vs_o, Nb.vs_io, Nb.w_d, Nb.w_f, Nb.w_s, Nb.ws_o, Nb.ws_io, Nb.ws_v, Nb.cl_l, Nb.cl_d, Nb.a_d, Nb.a_f, Nb.a_s, Nb.as_o, Nb.as_v, Nb.as_nil, Nb.as_cons, Nb.v_m2, Nb.v_ap2, Nb.v_m1, Nb.v_ap1, Nb.v_set, Nb.sd_no, Nb.sd_v, Nb.sd_o, Nb.sf_no, Nb.sf_v, Nb.sf_o, Nb.ss_no, Nb.ss_v, Nb.ss_oo, Nb.v_nil, Nb.v_cons, Nb.v_tup, Nb.v_lst, Nb.v_rep, Nb.w_nil, Nb.w_cons, Nb.v_mA, Nb.p_nil, Nb.p_t, Nb.p_f, Nb.x_d, Nb.x_f, Nb.x_s, Nb.xs_v, Nb.xs_o, Nb.xs_io, Nb.ce_nil, Nb.ce_v, Nb.ce_i, Nb.cs_o, Nb.cs_io, Nb.sl_nil, Nb.sl_v, Nb.sl_i, Nb.fo_ok, Nb.fo_okt, Nb.fo_oko, Nb.fo_ex, Nb.v_mF, Nb.pb_nil, Nb.pb_v, Nb.pb_i, Nb.ss_o, Nb.ss_io, Nb.b_b, Nb.v_toB, Nb.v_mTst, Nb.v_and, Nb.v_or, Nb.v_not, Nb.v_if, Nb.v_andV, Nb.v_orV, Nb.v_notV, Nb.v_m3, Nb.v_inR, Nb.v_part0, Nb.i_i, Nb.v_part1, Nb.v_sl, Nb.v_dc0, Nb.v_dc1, Nb.v_seq, Nb.n_rt, Nb.n_rtt, Nb.n_rto, Nb.n_bk, Nb.n_ct, Nb.n_ex, Nb.n_bad, Nb.v_nop, Nb.v_brk, Nb.v_cnt, Nb.v_expr, Nb.v_ifS, Nb.v_ret, Nb.v_retN, Nb.r_d, Nb.r_f, Nb.r_s, Nb.rs_o, Nb.rs_v, Nb.v_asg, Nb.t_nm, Nb.t_nil, Nb.t_cons, Nb.t_tp, Nb.ps_2, Nb.v_par, Nb.v_for, Nb.v_items, Nb.it_l, Nb.it_t, Nb.v_src, Nb.rg1, Nb.rg2, Nb.v_enum, Nb.eo_1, Nb.v_zip, Nb.v_zipD, Nb.zo_l, Nb.zo_t, Nb.v_mut, Nb.il_o, Nb.il_io, Nb.v_apMut, Nb.mu_o, Nb.mu_io, Nb.v_gPut, Nb.pu_o, Nb.pu_io, Nb.v_augS, Nb.id_i, Nb.cl_o, Nb.cl_io, Nb.v_dict, Nb.ky_i, Nb.ky_s, Nb.v_keys, Nb.ko_f, Nb.v_gPutA, Nb.pd_o, Nb.ic_o, Nb.ic_io, Nb.v_mLc, Nb.wi_nil, Nb.wi_cons, Nb.wp_no, Nb.wp_v, Nb.re_nil, Nb.re_cons, Nb.rt_nn, Nb.rt_vn, Nb.rt_nv, Nb.rt_vv, Nb.f1, Nb.f2, Nb.f3, Nb.f4, Nb.f5, Nb.fs_nx, Nb.fs_rt, Nb.fs_rtt, Nb.fs_rto, Nb.ou_0, Nb.ou_s, Nb.io_no, Nb.io_v, Nb.io_o, Nb.io_io, Nb.g0, Nb.g1, Nb.s0, Nb.s1, Nb.ln_le, Nb.ln_lt, Nb.o_add, Nb.o_sub, Nb.o_mulr, Nb.o_mull, Nb.o_fdiv, Nb.o_mod, Nb.o_neg, Nb.o_cmp, Nb.o_max2, Nb.o_min2, Nb.o_int_b, Nb.o_lenL, Nb.o_lenT, Nb.o_pow, Nb.o_slL, Nb.o_slT, Nb.o_repT, Nb.v_apR, Nb.o_inD, Nb.o_inL, Nb.o_inT, Nb.o_list_l, Nb.o_list_t, Nb.o_tup_l, Nb.o_tup_t, Nb.o_addL, Nb.o_addT, Nb.o_eq, Nb.o_ne, Nb.o_extL, Nb.o_extT, Nb.o_app, Nb.at0, Nb.ix_in, Nb.at1, Nb.at2, Nb.pick_in, Nb.o_ixL, Nb.o_ixT, Nb.o_ixLn, Nb.o_ixTn, Nb.pk0, Nb.pk1, Nb.pk2, Nb.o_eqi, Nb.o_eqb, Nb.o_nei, Nb.o_divmod, Nb.o_all, Nb.o_sum, Nb.v_exc, Nb.ex_x, Nb.fl_house, Nb.fl_nobody, Nb.fl_text, Nb.fl_open, Nb.fl_many, Nb.fl_most, Nb.v_throw, Nb.v_throwF1, Nb.v_throwF2, Nb.sm_log, Nb.v_try, Nb.tr_nx, Nb.tr_rt, Nb.tr_rtt, Nb.tr_rto, Nb.tr_c0, Nb.tr_c1, Nb.tr_c2, Nb.tr_c3, Nb.tr_c4, Nb.tr_c5, Nb.tr_c6, Nb.tr_c7, Nb.tr_c8, Nb.tr_c9, Nb.tr_c10, Nb.tr_c11, Nb.v_putX, Nb.px_no, Nb.px_v, Nb.ox_nx, Nb.ox_rt, Nb.ox_rto, Nb.v_endX, Nb.en_x, Nb.cl_nil, Nb.cl_cons, Nb.cl_no, Nb.cl_v, Nb.cl_oo, Nb.cl_ioo, Nb.cl_x, Nb.io_x, Nb.vs_x, Nb.xs_x, Nb.fs_ex, Nb.lo_ex, Nb.ce_x, Nb.sl_x, Nb.pb_x, Nb.v_m2T, Nb.kd_l, Nb.kd_t, Nb.me_1, Nb.me_2, Nb.me_3, Nb.o_revL, Nb.o_revT, Nb.o_lr1, Nb.o_tr1, Nb.o_eqs, Nb.o_nes, R.elim_ok, R.elim_ex, R.elim_bad, Out.next_nx, Option.bind_some, Option.map_some, Option.bind_none, Option.map_none, List.cons_append, List.nil_append, List.replicate_succ, List.replicate_zero, Nat.reduceSub, Nat.reduceAdd, if_true, if_false, Bool.not_true, Bool.not_false, Bool.false_eq_true, List.length_cons, List.length_nil, List.append_nil, Int.reduceToNat, List.set_cons_zero, List.set_cons_succ, decide_true, decide_false, Int.reduceEq, Int.reduceLT, Int.reduceLE, List.nodup_nil, Nb.rb_n2, Nb.rb_p2, Nb.rb_n1, Nb.rb_p1, and_self, and_true, true_and, and_false, false_and, not_true_eq_false, not_false_eq_true, Nb.nd1, Nb.nd2, Nb.nd3, Nb.k_int, Nb.k_bool, Nb.k_tuple, Nb.k_list, Nb.k_str, Nb.cast_lit, Nb.o_inI, Nb.o_inIT, Nb.o_sortU, Nb.o_sorted, Nb.o_sortT, Nb.o_neL0, Nb.o_neb, Nb.o_eqT0, Nb.o_pop, Nb.hasK_T, Nb.o_sumT, Nb.o_sumL, Nb.pick_ints, Nb.pick_rows, Nb.o_eqT, Nb.o_neT, Nb.o_eqL, Nb.o_neL, Nb.o_eqR, Nb.o_neR, Nb.all_map', Int.reduceNeg, Nb.o_cntT, Nb.o_cntL, Nb.ints_rev, Bool.false_bne, Bool.true_bne, Bool.and_self, Bool.or_self, Bool.true_and, Bool.and_true, Bool.false_and, Bool.and_false, Bool.true_or, Bool.or_true, Bool.false_or, Bool.or_false]
    rfl
theorem isNum_iff {d : D} {m : Int} : isNum d m = true ↔ ∃ i : Int, d = .int i ∧ 0 ≤ i ∧ i < m := by
  cases d with
  | int i => simp [isNum]
  | _ => simp [isNum]
theorem checkroom_ok {hs : List (List Int)} {k : Int} (h0 : 0 ≤ k) (h1 : k < hs.length) : d2 [.v (housD hs), .v (.int k)] = .ok .none [.no, .no] := by
  unfold d2
  simp -implicitDefEqProofs (maxSteps := 4000000) (disch := first | with_unfolding_all rfl | omega | (simp only [List.length_append, List.length_cons, List.length_nil, List.length_map, List.length_replicate, List.length_take, List.length_drop]; omega)) only [num_ok, List.length_map, h0, h1, Nb.v_zipM, Nb.zm_ll, Nb.zm_lt, Nb.zm_tl, Nb.zm_tt, Nb.fp_ok, Nb.fp_okt, Nb.fp_ex, Nb.v_mFP, Nb.v_tupP, Nb.tp_f, Nb.tp_s, Nb.tp_d, Nb.v_pairD, Nb.oa_o, Nb.oa_v, Nb.v_retP, Nb.rp_d, Nb.rp_t, Nb.v_unpP, Nb.up_d, Nb.up_t, Nb.v_putO, Nb.po_n, Nb.po_v, Nb.po_o, Nb.v_parO, Nb.pr_ff, Nb.v_mLcO, Nb.la_o, Nb.la_v, Nb.nn_n, Nb.v_ix1P, Nb.i1_t, Nb.i1_d, Nb.kO_t, Nb.v_inN, Nb.v_ixN, Nb.v_setN, Nb.is_n, Nb.nio_no, Nb.nio_v, Nb.nio_n, Nb.v_putN, Nb.oe_s, Nb.oe_n, Nb.v_c, Nb.v_var, Nb.vs_v, Nb.vs_o, Nb.vs_io, Nb.w_d, Nb.w_f, Nb.w_s, Nb.ws_o, Nb.ws_io, Nb.ws_v, Nb.cl_l, Nb.cl_d, Nb.a_d, Nb.a_f, Nb.a_s, Nb.as_o, Nb.as_v, Nb.as_nil, Nb.as_cons, Nb.v_m2, Nb.v_ap2, Nb.v_m1, Nb.v_ap1, Nb.v_set, Nb.sd_no, Nb.sd_v, Nb.sd_o, Nb.sf_no, Nb.sf_v, Nb.sf_o, Nb.ss_no, Nb.ss_v, Nb.ss_oo, Nb.v_nil, Nb.v_cons, Nb.v_tup, Nb.v_lst, Nb.v_rep, Nb.w_nil, Nb.w_cons, Nb.v_mA, Nb.p_nil, Nb.p_t, Nb.p_f, Nb.x_d, Nb.x_f, Nb.x_s, Nb.xs_v, Nb.xs_o, Nb.xs_io, Nb.ce_nil, Nb.ce_v, Nb.ce_i, Nb.cs_o, Nb.cs_io, Nb.sl_nil, Nb.sl_v, Nb.sl_i, Nb.fo_ok, Nb.fo_okt, Nb.fo_oko, Nb.fo_ex, Nb.v_mF, Nb.pb_nil, Nb.pb_v, Nb.pb_i, Nb.ss_o, Nb.ss_io, Nb.b_b, Nb.v_toB, Nb.v_mTst, Nb.v_and, Nb.v_or, Nb.v_not, Nb.v_if, Nb.v_andV, Nb.v_orV, Nb.v_notV, Nb.v_m3, Nb.v_inR, Nb.v_part0, Nb.i_i, Nb.v_part1, Nb.v_sl, Nb.v_dc0, Nb.v_dc1, Nb.v_seq, Nb.n_rt, Nb.n_rtt, Nb.n_rto, Nb.n_bk, Nb.n_ct, Nb.n_ex, Nb.n_bad, Nb.v_nop, Nb.v_brk, Nb.v_cnt, Nb.v_expr, Nb.v_ifS, Nb.v_ret, Nb.v_retN, Nb.r_d, Nb.r_f, Nb.r_s, Nb.rs_o, Nb.rs_v, Nb.v_asg, Nb.t_nm, Nb.t_nil, Nb.t_cons, Nb.t_tp, Nb.ps_2, Nb.v_par, Nb.v_for, Nb.v_items, Nb.it_l, Nb.it_t, Nb.v_src, Nb.rg1, Nb.rg2, Nb.v_enum, Nb.eo_1, Nb.v_zip, Nb.v_zipD, Nb.zo_l, Nb.zo_t, Nb.v_mut, Nb.il_o, Nb.il_io, Nb.v_apMut, Nb.mu_o, Nb.mu_io, Nb.v_gPut, Nb.pu_o, Nb.pu_io, Nb.v_augS, Nb.id_i, Nb.cl_o, Nb.cl_io, Nb.v_dict, Nb.ky_i, Nb.ky_s, Nb.v_keys, Nb.ko_f, Nb.v_gPutA, Nb.pd_o, Nb.ic_o, Nb.ic_io, Nb.v_mLc, Nb.wi_nil, Nb.wi_cons, Nb.wp_no, Nb.wp_v, Nb.re_nil, Nb.re_cons, Nb.rt_nn, Nb.rt_vn, Nb.rt_nv, Nb.rt_vv, Nb.f1, Nb.f2, Nb.f3, Nb.f4, Nb.f5, Nb.fs_nx, Nb.fs_rt, Nb.fs_rtt, Nb.fs_rto, Nb.ou_0, Nb.ou_s, Nb.io_no, Nb.io_v, Nb.io_o, Nb.io_io, Nb.g0, Nb.g1, Nb.s0, Nb.s1, Nb.ln_le, Nb.ln_lt, Nb.o_add, Nb.o_sub, Nb.o_mulr, Nb.o_mull, Nb.o_fdiv, Nb.o_mod, Nb.o_neg, Nb.o_cmp, Nb.o_max2, Nb.o_min2, Nb.o_int_b, Nb.o_lenL, Nb.o_lenT, Nb.o_pow, Nb.o_slL, Nb.o_slT, Nb.o_repT, Nb.v_apR, Nb.o_inD, Nb.o_inL, Nb.o_inT, Nb.o_list_l, Nb.o_list_t, Nb.o_tup_l, Nb.o_tup_t, Nb.o_addL, Nb.o_addT, Nb.o_eq, Nb.o_ne, Nb.o_extL, Nb.o_extT, Nb.o_app, Nb.at0, Nb.ix_in, Nb.at1, Nb.at2, Nb.pick_in, Nb.o_ixL, Nb.o_ixT, Nb.o_ixLn, Nb.o_ixTn, Nb.pk0, Nb.pk1, Nb.pk2, Nb.o_eqi, Nb.o_eqb, Nb.o_nei, Nb.o_divmod, Nb.o_all, Nb.o_sum, Nb.v_exc, Nb.ex_x, Nb.fl_house, Nb.fl_nobody, Nb.fl_text, Nb.fl_open, Nb.fl_many, Nb.fl_most, Nb.v_throw, Nb.v_throwF1, Nb.v_throwF2, Nb.sm_log, Nb.v_try, Nb.tr_nx, Nb.tr_rt, Nb.tr_rtt, Nb.tr_rto, Nb.tr_c0, Nb.tr_c1, Nb.tr_c2, Nb.tr_c3, Nb.tr_c4, Nb.tr_c5, Nb.tr_c6, Nb.tr_c7, Nb.tr_c8, Nb.tr_c9, Nb.tr_c10, Nb.tr_c11, Nb.v_putX, Nb.px_no, Nb.px_v, Nb.ox_nx, Nb.ox_rt, Nb.ox_rto, Nb.v_endX, Nb.en_x, Nb.cl_nil, Nb.cl_cons, Nb.cl_no, Nb.cl_v, Nb.cl_oo, Nb.cl_ioo, Nb.cl_x, Nb.io_x, Nb.vs_x, Nb.xs_x, Nb.fs_ex, Nb.lo_ex, Nb.ce_x, Nb.sl_x, Nb.pb_x, Nb.v_m2T, Nb.kd_l, Nb.kd_t, Nb.me_1, Nb.me_2, Nb.me_3, Nb.o_revL, Nb.o_revT, Nb.o_lr1, Nb.o_tr1, Nb.o_eqs, Nb.o_nes, R.elim_ok, R.elim_ex, R.elim_bad, Out.next_nx, Option.bind_some, Option.map_some, Option.bind_none, Option.map_none, List.cons_append, List.nil_append, List.replicate_succ, List.replicate_zero, Nat.reduceSub, Nat.reduceAdd, if_true, if_false, Bool.not_true, Bool.not_false, Bool.false_eq_true, List.length_cons, List.length_nil, List.append_nil, Int.reduceToNat, List.set_cons_zero, List.set_cons_succ, decide_true, decide_false, Int.reduceEq, Int.reduceLT, Int.reduceLE, List.nodup_nil, Nb.rb_n2, Nb.rb_p2, Nb.rb_n1, Nb.rb_p1, and_self, and_true, true_and, and_false, false_and, not_true_eq_false, not_false_eq_true, Nb.nd1, Nb.nd2, Nb.nd3, Nb.k_int, Nb.k_bool, Nb.k_tuple, Nb.k_list, Nb.k_str, Nb.cast_lit, Nb.o_inI, Nb.o_inIT, Nb.o_sortU, Nb.o_sorted, Nb.o_sortT, Nb.o_neL0, Nb.o_neb, Nb.o_eqT0, Nb.o_pop, Nb.hasK_T, Nb.o_sumT, Nb.o_sumL, Nb.pick_ints, Nb.pick_rows, Nb.o_eqT, Nb.o_neT, Nb.o_eqL, Nb.o_neL, Nb.o_eqR, Nb.o_neR, Nb.all_map', Int.reduceNeg, Nb.o_cntT, Nb.o_cntL, Nb.ints_rev, Bool.false_bne, Bool.true_bne, Bool.and_self, Bool.or_self, Bool.true_and, Bool.and_true, Bool.false_and, Bool.and_false, Bool.true_or, Bool.or_true, Bool.false_or, Bool.or_false]
/-- whether a thing is arrows of a house -/
def numP : D → Bool
  | .tuple [a, .tuple r] => isNum a r.length
  | _ => false
def arrB (hs : List (List Int)) : D → Bool
  | .tuple ds => decide ((ds.length : Int) = hs.length) && (zipD ds (hs.map tupI)).all numP
  | _ => false
theorem zip_at {hs : List (List Int)} {ds : List D} {d : D} (hd : d ∈ zipD ds (hs.map tupI)) : ∃ a r, a ∈ ds ∧ r ∈ hs ∧ d = .tuple [a, tupI r] := by
  obtain ⟨i, hi⟩ := List.mem_iff_getElem?.mp hd
  obtain ⟨d0, e0, e1, e2, rfl⟩ := zipD_get hi
  obtain ⟨r, hr, rfl⟩ := List.mem_map.mp (List.mem_of_getElem? e2)
  exact ⟨d0, r, List.mem_of_getElem? e1, hr, rfl⟩
theorem zip_len {hs : List (List Int)} {ds : List D} (h : (ds.length : Int) = hs.length) : (zipD ds (hs.map tupI)).length = hs.length := by
  unfold zipD
  simp only [List.length_map, List.length_zip]
  omega
theorem isarr_d {hs : List (List Int)} {d : D} (hl : hs.length ≤ 1000) : d4 [.v (housD hs), .v d] = .ok (.bool (arrB hs d)) [.no, .no] := by
  cases d with
  | tuple ds =>
    unfold d4
    by_cases h : (ds.length : Int) = hs.length
    · have hz := zip_len h
      have hc := compD_map (vs := [2, 3]) (g := gTp 2 (gsCons (gNm 2) (gsCons (gNm 3) gsNil))) (me := d4e0) (f := fun p => .bool (numP p)) (env := [.v (housD hs), .v (.tuple ds), .no, .no]) (items := zipD ds (hs.map tupI)) (acc := []) (fun d hd => by
        obtain ⟨a, r, _, _, rfl⟩ := zip_at hd
        unfold turn
        simp -implicitDefEqProofs (maxSteps := 4000000) (disch := first | with_unfolding_all rfl | omega | (simp only [List.length_append, List.length_cons, List.length_nil, List.length_map, List.length_replicate, List.length_take, List.length_drop]; omega)) only [d4e0, num_d, List.length_map, numP, tupI, Nb.v_zipM, Nb.zm_ll, Nb.zm_lt, Nb.zm_tl, Nb.zm_tt, Nb.fp_ok, Nb.fp_okt, Nb.fp_ex, Nb.v_mFP, Nb.v_tupP, Nb.tp_f, Nb.tp_s, Nb.tp_d, Nb.v_pairD, Nb.oa_o, Nb.oa_v, Nb.v_retP, Nb.rp_d, Nb.rp_t, Nb.v_unpP, Nb.up_d, Nb.up_t, Nb.v_putO, Nb.po_n, Nb.po_v, Nb.po_o, Nb.v_parO, Nb.pr_ff, Nb.v_mLcO, Nb.la_o, Nb.la_v, Nb.nn_n, Nb.v_ix1P, Nb.i1_t, Nb.i1_d, Nb.kO_t, Nb.v_inN, Nb.v_ixN, Nb.v_setN, Nb.is_n, Nb.nio_no, Nb.nio_v, Nb.nio_n, Nb.v_putN, Nb.oe_s, Nb.oe_n, Nb.v_c, Nb.v_var, Nb.vs_v, Nb.vs_o, Nb.vs_io, Nb.w_d, Nb.w_f, Nb.w_s, Nb.ws_o, Nb.ws_io, Nb.ws_v, Nb.cl_l, Nb.cl_d, Nb.a_d, Nb.a_f, Nb.a_s, Nb.as_o, Nb.as_v, Nb.as_nil, Nb.as_cons, Nb.v_m2, Nb.v_ap2, Nb.v_m1, Nb.v_ap1, Nb.v_set, Nb.sd_no, Nb.sd_v, Nb.sd_o, Nb.sf_no, Nb.sf_v, Nb.sf_o, Nb.ss_no, Nb.ss_v, Nb.ss_oo, Nb.v_nil, Nb.v_cons, Nb.v_tup, Nb.v_lst, Nb.v_rep, Nb.w_nil, Nb.w_cons, Nb.v_mA, Nb.p_nil, Nb.p_t, Nb.p_f, Nb.x_d, Nb.x_f, Nb.x_s, Nb.xs_v, Nb.xs_o, Nb.xs_io, Nb.ce_nil, Nb.ce_v, Nb.ce_i, Nb.cs_o, Nb.cs_io, Nb.sl_nil, Nb.sl_v, Nb.sl_i, Nb.fo_ok, Nb.fo_okt, Nb.fo_oko, Nb.fo_ex, Nb.v_mF, Nb.pb_nil, Nb.pb_v, Nb.pb_i, Nb.ss_o, Nb.ss_io, Nb.b_b, Nb.v_toB, Nb.v_mTst, Nb.v_and, Nb.v_or, Nb.v_not, Nb.v_if, Nb.v_andV, Nb.v_orV, Nb.v_notV, Nb.v_m3, Nb.v_inR, Nb.v_part0, Nb.i_i, Nb.v_part1, Nb.v_sl, Nb.v_dc0, Nb.v_dc1, Nb.v_seq, Nb.n_rt, Nb.n_rtt, Nb.n_rto, Nb.n_bk, Nb.n_ct, Nb.n_ex, Nb.n_bad, Nb.v_nop, Nb.v_brk, Nb.v_cnt, Nb.v_expr, Nb.v_ifS, Nb.v_ret, Nb.v_retN, Nb.r_d, Nb.r_f, Nb.r_s, Nb.rs_o, Nb.rs_v, Nb.v_asg, Nb.t_nm, Nb.t_nil, Nb.t_cons, Nb.t_tp, Nb.ps_2, Nb.v_par, Nb.v_for, Nb.v_items, Nb.it_l, Nb.it_t, Nb.v_src, Nb.rg1, Nb.rg2, Nb.v_enum, Nb.eo_1, Nb.v_zip, Nb.v_zipD, Nb.zo_l, Nb.zo_t, Nb.v_mut, Nb.il_o, Nb.il_io, Nb.v_apMut, Nb.mu_o, Nb.mu_io, Nb.v_gPut, Nb.pu_o, Nb.pu_io, Nb.v_augS, Nb.id_i, Nb.cl_o, Nb.cl_io, Nb.v_dict, Nb.ky_i, Nb.ky_s, Nb.v_keys, Nb.ko_f, Nb.v_gPutA, Nb.pd_o, Nb.ic_o, Nb.ic_io, Nb.v_mLc, Nb.wi_nil, Nb.wi_cons, Nb.wp_no, Nb.wp_v, Nb.re_nil, Nb.re_cons, Nb.rt_nn, Nb.rt_vn, Nb.rt_nv, Nb.rt_vv, Nb.f1, Nb.f2, Nb.f3, Nb.f4, Nb.f5, Nb.fs_nx, Nb.fs_rt, Nb.fs_rtt, Nb.fs_rto, Nb.ou_0, Nb.ou_s, Nb.io_no, Nb.io_v, Nb.io_o, Nb.io_io, Nb.g0, Nb.g1, Nb.s0, Nb.s1, Nb.ln_le, Nb.ln_lt, Nb.o_add, Nb.o_sub, Nb.o_mulr, Nb.o_mull, Nb.o_fdiv, Nb.o_mod, Nb.o_neg, Nb.o_cmp, Nb.o_max2, Nb.o_min2, Nb.o_int_b, Nb.o_lenL, Nb.o_lenT, Nb.o_pow, Nb.o_slL, Nb.o_slT, Nb.o_repT, Nb.v_apR, Nb.o_inD, Nb.o_inL, Nb.o_inT, Nb.o_list_l, Nb.o_list_t, Nb.o_tup_l, Nb.o_tup_t, Nb.o_addL, Nb.o_addT, Nb.o_eq, Nb.o_ne, Nb.o_extL, Nb.o_extT, Nb.o_app, Nb.at0, Nb.ix_in, Nb.at1, Nb.at2, Nb.pick_in, Nb.o_ixL, Nb.o_ixT, Nb.o_ixLn, Nb.o_ixTn, Nb.pk0, Nb.pk1, Nb.pk2, Nb.o_eqi, Nb.o_eqb, Nb.o_nei, Nb.o_divmod, Nb.o_all, Nb.o_sum, Nb.v_exc, Nb.ex_x, Nb.fl_house, Nb.fl_nobody, Nb.fl_text, Nb.fl_open, Nb.fl_many, Nb.fl_most, Nb.v_throw, Nb.v_throwF1, Nb.v_throwF2, Nb.sm_log, Nb.v_try, Nb.tr_nx, Nb.tr_rt, Nb.tr_rtt, Nb.tr_rto, Nb.tr_c0, Nb.tr_c1, Nb.tr_c2, Nb.tr_c3, Nb.tr_c4, Nb.tr_c5, Nb.tr_c6, Nb.tr_c7, Nb.tr_c8, Nb.tr_c9, Nb.tr_c10, Nb.tr_c11, Nb.v_putX, Nb.px_no, Nb.px_v, Nb.ox_nx, Nb.ox_rt, Nb.ox_rto, Nb.v_endX, Nb.en_x, Nb.cl_nil, Nb.cl_cons, Nb.cl_no, Nb.cl_v, Nb.cl_oo, Nb.cl_ioo, Nb.cl_x, Nb.io_x, Nb.vs_x, Nb.xs_x, Nb.fs_ex, Nb.lo_ex, Nb.ce_x, Nb.sl_x, Nb.pb_x, Nb.v_m2T, Nb.kd_l, Nb.kd_t, Nb.me_1, Nb.me_2, Nb.me_3, Nb.o_revL, Nb.o_revT, Nb.o_lr1, Nb.o_tr1, Nb.o_eqs, Nb.o_nes, R.elim_ok, R.elim_ex, R.elim_bad, Out.next_nx, Option.bind_some, Option.map_some, Option.bind_none, Option.map_none, List.cons_append, List.nil_append, List.replicate_succ, List.replicate_zero, Nat.reduceSub, Nat.reduceAdd, if_true, if_false, Bool.not_true, Bool.not_false, Bool.false_eq_true, List.length_cons, List.length_nil, List.append_nil, Int.reduceToNat, List.set_cons_zero, List.set_cons_succ, decide_true, decide_false, Int.reduceEq, Int.reduceLT, Int.reduceLE, List.nodup_nil, Nb.rb_n2, Nb.rb_p2, Nb.rb_n1, Nb.rb_p1, and_self, and_true, true_and, and_false, false_and, not_true_eq_false, not_false_eq_true, Nb.nd1, Nb.nd2, Nb.nd3, Nb.k_int, Nb.k_bool, Nb.k_tuple, Nb.k_list, Nb.k_str, Nb.cast_lit, Nb.o_inI, Nb.o_inIT, Nb.o_sortU, Nb.o_sorted, Nb.o_sortT, Nb.o_neL0, Nb.o_neb, Nb.o_eqT0, Nb.o_pop, Nb.hasK_T, Nb.o_sumT, Nb.o_sumL, Nb.pick_ints, Nb.pick_rows, Nb.o_eqT, Nb.o_neT, Nb.o_eqL, Nb.o_neL, Nb.o_eqR, Nb.o_neR, Nb.all_map', Int.reduceNeg, Nb.o_cntT, Nb.o_cntL, Nb.ints_rev, Bool.false_bne, Bool.true_bne, Bool.and_self, Bool.or_self, Bool.true_and, Bool.and_true, Bool.false_and, Bool.and_false, Bool.true_or, Bool.or_true, Bool.false_or, Bool.or_false]) (by simp [line]; omega)
      simp -implicitDefEqProofs (maxSteps := 4000000) (disch := first | with_unfolding_all rfl | omega | (simp only [List.length_append, List.length_cons, List.length_nil, List.length_map, List.length_replicate, List.length_take, List.length_drop]; omega)) only [isTu, List.length_map, h, hc, all_map', Nb.v_zipM, Nb.zm_ll, Nb.zm_lt, Nb.zm_tl, Nb.zm_tt, Nb.fp_ok, Nb.fp_okt, Nb.fp_ex, Nb.v_mFP, Nb.v_tupP, Nb.tp_f, Nb.tp_s, Nb.tp_d, Nb.v_pairD, Nb.oa_o, Nb.oa_v, Nb.v_retP, Nb.rp_d, Nb.rp_t, Nb.v_unpP, Nb.up_d, Nb.up_t, Nb.v_putO, Nb.po_n, Nb.po_v, Nb.po_o, Nb.v_parO, Nb.pr_ff, Nb.v_mLcO, Nb.la_o, Nb.la_v, Nb.nn_n, Nb.v_ix1P, Nb.i1_t, Nb.i1_d, Nb.kO_t, Nb.v_inN, Nb.v_ixN, Nb.v_setN, Nb.is_n, Nb.nio_no, Nb.nio_v, Nb.nio_n, Nb.v_putN, Nb.oe_s, Nb.oe_n, Nb.v_c, Nb.v_var, Nb.vs_v, Nb.vs_o, Nb.vs_io, Nb.w_d, Nb.w_f, Nb.w_s, Nb.ws_o, Nb.ws_io, Nb.ws_v, Nb.cl_l, Nb.cl_d, Nb.a_d, Nb.a_f, Nb.a_s, Nb.as_o, Nb.as_v, Nb.as_nil, Nb.as_cons, Nb.v_m2, Nb.v_ap2, Nb.v_m1, Nb.v_ap1, Nb.v_set, Nb.sd_no, Nb.sd_v, Nb.sd_o, Nb.sf_no, Nb.sf_v, Nb.sf_o, Nb.ss_no, Nb.ss_v, Nb.ss_oo, Nb.v_nil, Nb.v_cons, Nb.v_tup, Nb.v_lst, Nb.v_rep, Nb.w_nil, Nb.w_cons, Nb.v_mA, Nb.p_nil, Nb.p_t, Nb.p_f, Nb.x_d, Nb.x_f, Nb.x_s, Nb.xs_v, Nb.xs_o, Nb.xs_io, Nb.ce_nil, Nb.ce_v, Nb.ce_i, Nb.cs_o, Nb.cs_io, Nb.sl_nil, Nb.sl_v, Nb.sl_i, Nb.fo_ok, Nb.fo_okt, Nb.fo_oko, Nb.fo_ex, Nb.v_mF, Nb.pb_nil, Nb.pb_v, Nb.pb_i, Nb.ss_o, Nb.ss_io, Nb.b_b, Nb.v_toB, Nb.v_mTst, Nb.v_and, Nb.v_or, Nb.v_not, Nb.v_if, Nb.v_andV, Nb.v_orV, Nb.v_notV, Nb.v_m3, Nb.v_inR, Nb.v_part0, Nb.i_i, Nb.v_part1, Nb.v_sl, Nb.v_dc0, Nb.v_dc1, Nb.v_seq, Nb.n_rt, Nb.n_rtt, Nb.n_rto, Nb.n_bk, Nb.n_ct, Nb.n_ex, Nb.n_bad, Nb.v_nop, Nb.v_brk, Nb.v_cnt, Nb.v_expr, Nb.v_ifS, Nb.v_ret, Nb.v_retN, Nb.r_d, Nb.r_f, Nb.r_s, Nb.rs_o, Nb.rs_v, Nb.v_asg, Nb.t_nm, Nb.t_nil, Nb.t_cons, Nb.t_tp, Nb.ps_2, Nb.v_par, Nb.v_for, Nb.v_items, Nb.it_l, Nb.it_t, Nb.v_src, Nb.rg1, Nb.rg2, Nb.v_enum, Nb.eo_1, Nb.v_zip, Nb.v_zipD, Nb.zo_l, Nb.zo_t, Nb.v_mut, Nb.il_o, Nb.il_io, Nb.v_apMut, Nb.mu_o, Nb.mu_io, Nb.v_gPut, Nb.pu_o, Nb.pu_io, Nb.v_augS, Nb.id_i, Nb.cl_o, Nb.cl_io, Nb.v_dict, Nb.ky_i, Nb.ky_s, Nb.v_keys, Nb.ko_f, Nb.v_gPutA, Nb.pd_o, Nb.ic_o, Nb.ic_io, Nb.v_mLc, Nb.wi_nil, Nb.wi_cons, Nb.wp_no, Nb.wp_v, Nb.re_nil, Nb.re_cons, Nb.rt_nn, Nb.rt_vn, Nb.rt_nv, Nb.rt_vv, Nb.f1, Nb.f2, Nb.f3, Nb.f4, Nb.f5, Nb.fs_nx, Nb.fs_rt, Nb.fs_rtt, Nb.fs_rto, Nb.ou_0, Nb.ou_s, Nb.io_no, Nb.io_v, Nb.io_o, Nb.io_io, Nb.g0, Nb.g1, Nb.s0, Nb.s1, Nb.ln_le, Nb.ln_lt, Nb.o_add, Nb.o_sub, Nb.o_mulr, Nb.o_mull, Nb.o_fdiv, Nb.o_mod, Nb.o_neg, Nb.o_cmp, Nb.o_max2, Nb.o_min2, Nb.o_int_b, Nb.o_lenL, Nb.o_lenT, Nb.o_pow, Nb.o_slL, Nb.o_slT, Nb.o_repT, Nb.v_apR, Nb.o_inD, Nb.o_inL, Nb.o_inT, Nb.o_list_l, Nb.o_list_t, Nb.o_tup_l, Nb.o_tup_t, Nb.o_addL, Nb.o_addT, Nb.o_eq, Nb.o_ne, Nb.o_extL, Nb.o_extT, Nb.o_app, Nb.at0, Nb.ix_in, Nb.at1, Nb.at2, Nb.pick_in, Nb.o_ixL, Nb.o_ixT, Nb.o_ixLn, Nb.o_ixTn, Nb.pk0, Nb.pk1, Nb.pk2, Nb.o_eqi, Nb.o_eqb, Nb.o_nei, Nb.o_divmod, Nb.o_all, Nb.o_sum, Nb.v_exc, Nb.ex_x, Nb.fl_house, Nb.fl_nobody, Nb.fl_text, Nb.fl_open, Nb.fl_many, Nb.fl_most, Nb.v_throw, Nb.v_throwF1, Nb.v_throwF2, Nb.sm_log, Nb.v_try, Nb.tr_nx, Nb.tr_rt, Nb.tr_rtt, Nb.tr_rto, Nb.tr_c0, Nb.tr_c1, Nb.tr_c2, Nb.tr_c3, Nb.tr_c4, Nb.tr_c5, Nb.tr_c6, Nb.tr_c7, Nb.tr_c8, Nb.tr_c9, Nb.tr_c10, Nb.tr_c11, Nb.v_putX, Nb.px_no, Nb.px_v, Nb.ox_nx, Nb.ox_rt, Nb.ox_rto, Nb.v_endX, Nb.en_x, Nb.cl_nil, Nb.cl_cons, Nb.cl_no, Nb.cl_v, Nb.cl_oo, Nb.cl_ioo, Nb.cl_x, Nb.io_x, Nb.vs_x, Nb.xs_x, Nb.fs_ex, Nb.lo_ex, Nb.ce_x, Nb.sl_x, Nb.pb_x, Nb.v_m2T, Nb.kd_l, Nb.kd_t, Nb.me_1, Nb.me_2, Nb.me_3, Nb.o_revL, Nb.o_revT, Nb.o_lr1, Nb.o_tr1, Nb.o_eqs, Nb.o_nes, R.elim_ok, R.elim_ex, R.elim_bad, Out.next_nx, Option.bind_some, Option.map_some, Option.bind_none, Option.map_none, List.cons_append, List.nil_append, List.replicate_succ, List.replicate_zero, Nat.reduceSub, Nat.reduceAdd, if_true, if_false, Bool.not_true, Bool.not_false, Bool.false_eq_true, List.length_cons, List.length_nil, List.append_nil, Int.reduceToNat, List.set_cons_zero, List.set_cons_succ, decide_true, decide_false, Int.reduceEq, Int.reduceLT, Int.reduceLE, List.nodup_nil, Nb.rb_n2, Nb.rb_p2, Nb.rb_n1, Nb.rb_p1, and_self, and_true, true_and, and_false, false_and, not_true_eq_false, not_false_eq_true, Nb.nd1, Nb.nd2, Nb.nd3, Nb.k_int, Nb.k_bool, Nb.k_tuple, Nb.k_list, Nb.k_str, Nb.cast_lit, Nb.o_inI, Nb.o_inIT, Nb.o_sortU, Nb.o_sorted, Nb.o_sortT, Nb.o_neL0, Nb.o_neb, Nb.o_eqT0, Nb.o_pop, Nb.hasK_T, Nb.o_sumT, Nb.o_sumL, Nb.pick_ints, Nb.pick_rows, Nb.o_eqT, Nb.o_neT, Nb.o_eqL, Nb.o_neL, Nb.o_eqR, Nb.o_neR, Nb.all_map', Int.reduceNeg, Nb.o_cntT, Nb.o_cntL, Nb.ints_rev, Bool.false_bne, Bool.true_bne, Bool.and_self, Bool.or_self, Bool.true_and, Bool.and_true, Bool.false_and, Bool.and_false, Bool.true_or, Bool.or_true, Bool.false_or, Bool.or_false]
      simp [arrB, h]
    · simp -implicitDefEqProofs (maxSteps := 4000000) (disch := first | with_unfolding_all rfl | omega | (simp only [List.length_append, List.length_cons, List.length_nil, List.length_map, List.length_replicate, List.length_take, List.length_drop]; omega)) only [isTu, List.length_map, h, Nb.v_zipM, Nb.zm_ll, Nb.zm_lt, Nb.zm_tl, Nb.zm_tt, Nb.fp_ok, Nb.fp_okt, Nb.fp_ex, Nb.v_mFP, Nb.v_tupP, Nb.tp_f, Nb.tp_s, Nb.tp_d, Nb.v_pairD, Nb.oa_o, Nb.oa_v, Nb.v_retP, Nb.rp_d, Nb.rp_t, Nb.v_unpP, Nb.up_d, Nb.up_t, Nb.v_putO, Nb.po_n, Nb.po_v, Nb.po_o, Nb.v_parO, Nb.pr_ff, Nb.v_mLcO, Nb.la_o, Nb.la_v, Nb.nn_n, Nb.v_ix1P, Nb.i1_t, Nb.i1_d, Nb.kO_t, Nb.v_inN, Nb.v_ixN, Nb.v_setN, Nb.is_n, Nb.nio_no, Nb.nio_v, Nb.nio_n, Nb.v_putN, Nb.oe_s, Nb.oe_n, Nb.v_c, Nb.v_var, Nb.vs_v, Nb.vs_o, Nb.vs_io, Nb.w_d, Nb.w_f, Nb.w_s, Nb.ws_o, Nb.ws_io, Nb.ws_v, Nb.cl_l, Nb.cl_d, Nb.a_d, Nb.a_f, Nb.a_s, Nb.as_o, Nb.as_v, Nb.as_nil, Nb.as_cons, Nb.v_m2, Nb.v_ap2, Nb.v_m1, Nb.v_ap1, Nb.v_set, Nb.sd_no, Nb.sd_v, Nb.sd_o, Nb.sf_no, Nb.sf_v, Nb.sf_o, Nb.ss_no, Nb.ss_v, Nb.ss_oo, Nb.v_nil, Nb.v_cons, Nb.v_tup, Nb.v_lst, Nb.v_rep, Nb.w_nil, Nb.w_cons, Nb.v_mA, Nb.p_nil, Nb.p_t, Nb.p_f, Nb.x_d, Nb.x_f, Nb.x_s, Nb.xs_v, Nb.xs_o, Nb.xs_io, Nb.ce_nil, Nb.ce_v, Nb.ce_i, Nb.cs_o, Nb.cs_io, Nb.sl_nil, Nb.sl_v, Nb.sl_i, Nb.fo_ok, Nb.fo_okt, Nb.fo_oko, Nb.fo_ex, Nb.v_mF, Nb.pb_nil, Nb.pb_v, Nb.pb_i, Nb.ss_o, Nb.ss_io, Nb.b_b, Nb.v_toB, Nb.v_mTst, Nb.v_and, Nb.v_or, Nb.v_not, Nb.v_if, Nb.v_andV, Nb.v_orV, Nb.v_notV, Nb.v_m3, Nb.v_inR, Nb.v_part0, Nb.i_i, Nb.v_part1, Nb.v_sl, Nb.v_dc0, Nb.v_dc1, Nb.v_seq, Nb.n_rt, Nb.n_rtt, Nb.n_rto, Nb.n_bk, Nb.n_ct, Nb.n_ex, Nb.n_bad, Nb.v_nop, Nb.v_brk, Nb.v_cnt, Nb.v_expr, Nb.v_ifS, Nb.v_ret, Nb.v_retN, Nb.r_d, Nb.r_f, Nb.r_s, Nb.rs_o, Nb.rs_v, Nb.v_asg, Nb.t_nm, Nb.t_nil, Nb.t_cons, Nb.t_tp, Nb.ps_2, Nb.v_par, Nb.v_for, Nb.v_items, Nb.it_l, Nb.it_t, Nb.v_src, Nb.rg1, Nb.rg2, Nb.v_enum, Nb.eo_1, Nb.v_zip, Nb.v_zipD, Nb.zo_l, Nb.zo_t, Nb.v_mut, Nb.il_o, Nb.il_io, Nb.v_apMut, Nb.mu_o, Nb.mu_io, Nb.v_gPut, Nb.pu_o, Nb.pu_io, Nb.v_augS, Nb.id_i, Nb.cl_o, Nb.cl_io, Nb.v_dict, Nb.ky_i, Nb.ky_s, Nb.v_keys, Nb.ko_f, Nb.v_gPutA, Nb.pd_o, Nb.ic_o, Nb.ic_io, Nb.v_mLc, Nb.wi_nil, Nb.wi_cons, Nb.wp_no, Nb.wp_v, Nb.re_nil, Nb.re_cons, Nb.rt_nn, Nb.rt_vn, Nb.rt_nv, Nb.rt_vv, Nb.f1, Nb.f2, Nb.f3, Nb.f4, Nb.f5, Nb.fs_nx, Nb.fs_rt, Nb.fs_rtt, Nb.fs_rto, Nb.ou_0, Nb.ou_s, Nb.io_no, Nb.io_v, Nb.io_o, Nb.io_io, Nb.g0, Nb.g1, Nb.s0, Nb.s1, Nb.ln_le, Nb.ln_lt, Nb.o_add, Nb.o_sub, Nb.o_mulr, Nb.o_mull, Nb.o_fdiv, Nb.o_mod, Nb.o_neg, Nb.o_cmp, Nb.o_max2, Nb.o_min2, Nb.o_int_b, Nb.o_lenL, Nb.o_lenT, Nb.o_pow, Nb.o_slL, Nb.o_slT, Nb.o_repT, Nb.v_apR, Nb.o_inD, Nb.o_inL, Nb.o_inT, Nb.o_list_l, Nb.o_list_t, Nb.o_tup_l, Nb.o_tup_t, Nb.o_addL, Nb.o_addT, Nb.o_eq, Nb.o_ne, Nb.o_extL, Nb.o_extT, Nb.o_app, Nb.at0, Nb.ix_in, Nb.at1, Nb.at2, Nb.pick_in, Nb.o_ixL, Nb.o_ixT, Nb.o_ixLn, Nb.o_ixTn, Nb.pk0, Nb.pk1, Nb.pk2, Nb.o_eqi, Nb.o_eqb, Nb.o_nei, Nb.o_divmod, Nb.o_all, Nb.o_sum, Nb.v_exc, Nb.ex_x, Nb.fl_house, Nb.fl_nobody, Nb.fl_text, Nb.fl_open, Nb.fl_many, Nb.fl_most, Nb.v_throw, Nb.v_throwF1, Nb.v_throwF2, Nb.sm_log, Nb.v_try, Nb.tr_nx, Nb.tr_rt, Nb.tr_rtt, Nb.tr_rto, Nb.tr_c0, Nb.tr_c1, Nb.tr_c2, Nb.tr_c3, Nb.tr_c4, Nb.tr_c5, Nb.tr_c6, Nb.tr_c7, Nb.tr_c8, Nb.tr_c9, Nb.tr_c10, Nb.tr_c11, Nb.v_putX, Nb.px_no, Nb.px_v, Nb.ox_nx, Nb.ox_rt, Nb.ox_rto, Nb.v_endX, Nb.en_x, Nb.cl_nil, Nb.cl_cons, Nb.cl_no, Nb.cl_v, Nb.cl_oo, Nb.cl_ioo, Nb.cl_x, Nb.io_x, Nb.vs_x, Nb.xs_x, Nb.fs_ex, Nb.lo_ex, Nb.ce_x, Nb.sl_x, Nb.pb_x, Nb.v_m2T, Nb.kd_l, Nb.kd_t, Nb.me_1, Nb.me_2, Nb.me_3, Nb.o_revL, Nb.o_revT, Nb.o_lr1, Nb.o_tr1, Nb.o_eqs, Nb.o_nes, R.elim_ok, R.elim_ex, R.elim_bad, Out.next_nx, Option.bind_some, Option.map_some, Option.bind_none, Option.map_none, List.cons_append, List.nil_append, List.replicate_succ, List.replicate_zero, Nat.reduceSub, Nat.reduceAdd, if_true, if_false, Bool.not_true, Bool.not_false, Bool.false_eq_true, List.length_cons, List.length_nil, List.append_nil, Int.reduceToNat, List.set_cons_zero, List.set_cons_succ, decide_true, decide_false, Int.reduceEq, Int.reduceLT, Int.reduceLE, List.nodup_nil, Nb.rb_n2, Nb.rb_p2, Nb.rb_n1, Nb.rb_p1, and_self, and_true, true_and, and_false, false_and, not_true_eq_false, not_false_eq_true, Nb.nd1, Nb.nd2, Nb.nd3, Nb.k_int, Nb.k_bool, Nb.k_tuple, Nb.k_list, Nb.k_str, Nb.cast_lit, Nb.o_inI, Nb.o_inIT, Nb.o_sortU, Nb.o_sorted, Nb.o_sortT, Nb.o_neL0, Nb.o_neb, Nb.o_eqT0, Nb.o_pop, Nb.hasK_T, Nb.o_sumT, Nb.o_sumL, Nb.pick_ints, Nb.pick_rows, Nb.o_eqT, Nb.o_neT, Nb.o_eqL, Nb.o_neL, Nb.o_eqR, Nb.o_neR, Nb.all_map', Int.reduceNeg, Nb.o_cntT, Nb.o_cntL, Nb.ints_rev, Bool.false_bne, Bool.true_bne, Bool.and_self, Bool.or_self, Bool.true_and, Bool.and_true, Bool.false_and, Bool.and_false, Bool.true_or, Bool.or_true, Bool.false_or, Bool.or_false]
      simp [arrB, h]
  | _ =>
    unfold d4
    simp -implicitDefEqProofs (maxSteps := 4000000) (disch := first | with_unfolding_all rfl | omega | (simp only [List.length_append, List.length_cons, List.length_nil, List.length_map, List.length_replicate, List.length_take, List.length_drop]; omega)) only [isTu, Nb.v_zipM, Nb.zm_ll, Nb.zm_lt, Nb.zm_tl, Nb.zm_tt, Nb.fp_ok, Nb.fp_okt, Nb.fp_ex, Nb.v_mFP, Nb.v_tupP, Nb.tp_f, Nb.tp_s, Nb.tp_d, Nb.v_pairD, Nb.oa_o, Nb.oa_v, Nb.v_retP, Nb.rp_d, Nb.rp_t, Nb.v_unpP, Nb.up_d, Nb.up_t, Nb.v_putO, Nb.po_n, Nb.po_v, Nb.po_o, Nb.v_parO, Nb.pr_ff, Nb.v_mLcO, Nb.la_o, Nb.la_v, Nb.nn_n, Nb.v_ix1P, Nb.i1_t, Nb.i1_d, Nb.kO_t, Nb.v_inN, Nb.v_ixN, Nb.v_setN, Nb.is_n, Nb.nio_no, Nb.nio_v, Nb.nio_n, Nb.v_putN, Nb.oe_s, Nb.oe_n, Nb.v_c, Nb.v_var, Nb.vs_v, Nb.vs_o, Nb.vs_io, Nb.w_d, Nb.w_f, Nb.w_s, Nb.ws_o, Nb.ws_io, Nb.ws_v, Nb.cl_l, Nb.cl_d, Nb.a_d, Nb.a_f, Nb.a_s, Nb.as_o, Nb.as_v, Nb.as_nil, Nb.as_cons, Nb.v_m2, Nb.v_ap2, Nb.v_m1, Nb.v_ap1, Nb.v_set, Nb.sd_no, Nb.sd_v, Nb.sd_o, Nb.sf_no, Nb.sf_v, Nb.sf_o, Nb.ss_no, Nb.ss_v, Nb.ss_oo, Nb.v_nil, Nb.v_cons, Nb.v_tup, Nb.v_lst, Nb.v_rep, Nb.w_nil, Nb.w_cons, Nb.v_mA, Nb.p_nil, Nb.p_t, Nb.p_f, Nb.x_d, Nb.x_f, Nb.x_s, Nb.xs_v, Nb.xs_o, Nb.xs_io, Nb.ce_nil, Nb.ce_v, Nb.ce_i, Nb.cs_o, Nb.cs_io, Nb.sl_nil, Nb.sl_v, Nb.sl_i, Nb.fo_ok, Nb.fo_okt, Nb.fo_oko, Nb.fo_ex, Nb.v_mF, Nb.pb_nil, Nb.pb_v, Nb.pb_i, Nb.ss_o, Nb.ss_io, Nb.b_b, Nb.v_toB, Nb.v_mTst, Nb.v_and, Nb.v_or, Nb.v_not, Nb.v_if, Nb.v_andV, Nb.v_orV, Nb.v_notV, Nb.v_m3, Nb.v_inR, Nb.v_part0, Nb.i_i, Nb.v_part1, Nb.v_sl, Nb.v_dc0, Nb.v_dc1, Nb.v_seq, Nb.n_rt, Nb.n_rtt, Nb.n_rto, Nb.n_bk, Nb.n_ct, Nb.n_ex, Nb.n_bad, Nb.v_nop, Nb.v_brk, Nb.v_cnt, Nb.v_expr, Nb.v_ifS, Nb.v_ret, Nb.v_retN, Nb.r_d, Nb.r_f, Nb.r_s, Nb.rs_o, Nb.rs_v, Nb.v_asg, Nb.t_nm, Nb.t_nil, Nb.t_cons, Nb.t_tp, Nb.ps_2, Nb.v_par, Nb.v_for, Nb.v_items, Nb.it_l, Nb.it_t, Nb.v_src, Nb.rg1, Nb.rg2, Nb.v_enum, Nb.eo_1, Nb.v_zip, Nb.v_zipD, Nb.zo_l, Nb.zo_t, Nb.v_mut, Nb.il_o, Nb.il_io, Nb.v_apMut, Nb.mu_o, Nb.mu_io, Nb.v_gPut, Nb.pu_o, Nb.pu_io, Nb.v_augS, Nb.id_i, Nb.cl_o, Nb.cl_io, Nb.v_dict, Nb.ky_i, Nb.ky_s, Nb.v_keys, Nb.ko_f, Nb.v_gPutA, Nb.pd_o, Nb.ic_o, Nb.ic_io, Nb.v_mLc, Nb.wi_nil, Nb.wi_cons, Nb.wp_no, Nb.wp_v, Nb.re_nil, Nb.re_cons, Nb.rt_nn, Nb.rt_vn, Nb.rt_nv, Nb.rt_vv, Nb.f1, Nb.f2, Nb.f3, Nb.f4, Nb.f5, Nb.fs_nx, Nb.fs_rt, Nb.fs_rtt, Nb.fs_rto, Nb.ou_0, Nb.ou_s, Nb.io_no, Nb.io_v, Nb.io_o, Nb.io_io, Nb.g0, Nb.g1, Nb.s0, Nb.s1, Nb.ln_le, Nb.ln_lt, Nb.o_add, Nb.o_sub, Nb.o_mulr, Nb.o_mull, Nb.o_fdiv, Nb.o_mod, Nb.o_neg, Nb.o_cmp, Nb.o_max2, Nb.o_min2, Nb.o_int_b, Nb.o_lenL, Nb.o_lenT, Nb.o_pow, Nb.o_slL, Nb.o_slT, Nb.o_repT, Nb.v_apR, Nb.o_inD, Nb.o_inL, Nb.o_inT, Nb.o_list_l, Nb.o_list_t, Nb.o_tup_l, Nb.o_tup_t, Nb.o_addL, Nb.o_addT, Nb.o_eq, Nb.o_ne, Nb.o_extL, Nb.o_extT, Nb.o_app, Nb.at0, Nb.ix_in, Nb.at1, Nb.at2, Nb.pick_in, Nb.o_ixL, Nb.o_ixT, Nb.o_ixLn, Nb.o_ixTn, Nb.pk0, Nb.pk1, Nb.pk2, Nb.o_eqi, Nb.o_eqb, Nb.o_nei, Nb.o_divmod, Nb.o_all, Nb.o_sum, Nb.v_exc, Nb.ex_x, Nb.fl_house, Nb.fl_nobody, Nb.fl_text, Nb.fl_open, Nb.fl_many, Nb.fl_most, Nb.v_throw, Nb.v_throwF1, Nb.v_throwF2, Nb.sm_log, Nb.v_try, Nb.tr_nx, Nb.tr_rt, Nb.tr_rtt, Nb.tr_rto, Nb.tr_c0, Nb.tr_c1, Nb.tr_c2, Nb.tr_c3, Nb.tr_c4, Nb.tr_c5, Nb.tr_c6, Nb.tr_c7, Nb.tr_c8, Nb.tr_c9, Nb.tr_c10, Nb.tr_c11, Nb.v_putX, Nb.px_no, Nb.px_v, Nb.ox_nx, Nb.ox_rt, Nb.ox_rto, Nb.v_endX, Nb.en_x, Nb.cl_nil, Nb.cl_cons, Nb.cl_no, Nb.cl_v, Nb.cl_oo, Nb.cl_ioo, Nb.cl_x, Nb.io_x, Nb.vs_x, Nb.xs_x, Nb.fs_ex, Nb.lo_ex, Nb.ce_x, Nb.sl_x, Nb.pb_x, Nb.v_m2T, Nb.kd_l, Nb.kd_t, Nb.me_1, Nb.me_2, Nb.me_3, Nb.o_revL, Nb.o_revT, Nb.o_lr1, Nb.o_tr1, Nb.o_eqs, Nb.o_nes, R.elim_ok, R.elim_ex, R.elim_bad, Out.next_nx, Option.bind_some, Option.map_some, Option.bind_none, Option.map_none, List.cons_append, List.nil_append, List.replicate_succ, List.replicate_zero, Nat.reduceSub, Nat.reduceAdd, if_true, if_false, Bool.not_true, Bool.not_false, Bool.false_eq_true, List.length_cons, List.length_nil, List.append_nil, Int.reduceToNat, List.set_cons_zero, List.set_cons_succ, decide_true, decide_false, Int.reduceEq, Int.reduceLT, Int.reduceLE, List.nodup_nil, Nb.rb_n2, Nb.rb_p2, Nb.rb_n1, Nb.rb_p1, and_self, and_true, true_and, and_false, false_and, not_true_eq_false, not_false_eq_true, Nb.nd1, Nb.nd2, Nb.nd3, Nb.k_int, Nb.k_bool, Nb.k_tuple, Nb.k_list, Nb.k_str, Nb.cast_lit, Nb.o_inI, Nb.o_inIT, Nb.o_sortU, Nb.o_sorted, Nb.o_sortT, Nb.o_neL0, Nb.o_neb, Nb.o_eqT0, Nb.o_pop, Nb.hasK_T, Nb.o_sumT, Nb.o_sumL, Nb.pick_ints, Nb.pick_rows, Nb.o_eqT, Nb.o_neT, Nb.o_eqL, Nb.o_neL, Nb.o_eqR, Nb.o_neR, Nb.all_map', Int.reduceNeg, Nb.o_cntT, Nb.o_cntL, Nb.ints_rev, Bool.false_bne, Bool.true_bne, Bool.and_self, Bool.or_self, Bool.true_and, Bool.and_true, Bool.false_and, Bool.and_false, Bool.true_or, Bool.or_true, Bool.false_or, Bool.or_false]
    rfl
theorem checkarr_d {hs : List (List Int)} {d : D} (hl : hs.length ≤ 1000) (h : arrB hs d = true) : d5 [.v (housD hs), .v d] = .ok .none [.no, .no] := by
  unfold d5
  simp -implicitDefEqProofs (maxSteps := 4000000) (disch := first | with_unfolding_all rfl | omega | (simp only [List.length_append, List.length_cons, List.length_nil, List.length_map, List.length_replicate, List.length_take, List.length_drop]; omega)) only [isarr_d hl, h, Nb.v_zipM, Nb.zm_ll, Nb.zm_lt, Nb.zm_tl, Nb.zm_tt, Nb.fp_ok, Nb.fp_okt, Nb.fp_ex, Nb.v_mFP, Nb.v_tupP, Nb.tp_f, Nb.tp_s, Nb.tp_d, Nb.v_pairD, Nb.oa_o, Nb.oa_v, Nb.v_retP, Nb.rp_d, Nb.rp_t, Nb.v_unpP, Nb.up_d, Nb.up_t, Nb.v_putO, Nb.po_n, Nb.po_v, Nb.po_o, Nb.v_parO, Nb.pr_ff, Nb.v_mLcO, Nb.la_o, Nb.la_v, Nb.nn_n, Nb.v_ix1P, Nb.i1_t, Nb.i1_d, Nb.kO_t, Nb.v_inN, Nb.v_ixN, Nb.v_setN, Nb.is_n, Nb.nio_no, Nb.nio_v, Nb.nio_n, Nb.v_putN, Nb.oe_s, Nb.oe_n, Nb.v_c, Nb.v_var, Nb.vs_v, Nb.vs_o, Nb.vs_io, Nb.w_d, Nb.w_f, Nb.w_s, Nb.ws_o, Nb.ws_io, Nb.ws_v, Nb.cl_l, Nb.cl_d, Nb.a_d, Nb.a_f, Nb.a_s, Nb.as_o, Nb.as_v, Nb.as_nil, Nb.as_cons, Nb.v_m2, Nb.v_ap2, Nb.v_m1, Nb.v_ap1, Nb.v_set, Nb.sd_no, Nb.sd_v, Nb.sd_o, Nb.sf_no, Nb.sf_v, Nb.sf_o, Nb.ss_no, Nb.ss_v, Nb.ss_oo, Nb.v_nil, Nb.v_cons, Nb.v_tup, Nb.v_lst, Nb.v_rep, Nb.w_nil, Nb.w_cons, Nb.v_mA, Nb.p_nil, Nb.p_t, Nb.p_f, Nb.x_d, Nb.x_f, Nb.x_s, Nb.xs_v, Nb.xs_o, Nb.xs_io, Nb.ce_nil, Nb.ce_v, Nb.ce_i, Nb.cs_o, Nb.cs_io, Nb.sl_nil, Nb.sl_v, Nb.sl_i, Nb.fo_ok, Nb.fo_okt, Nb.fo_oko, Nb.fo_ex, Nb.v_mF, Nb.pb_nil, Nb.pb_v, Nb.pb_i, Nb.ss_o, Nb.ss_io, Nb.b_b, Nb.v_toB, Nb.v_mTst, Nb.v_and, Nb.v_or, Nb.v_not, Nb.v_if, Nb.v_andV, Nb.v_orV, Nb.v_notV, Nb.v_m3, Nb.v_inR, Nb.v_part0, Nb.i_i, Nb.v_part1, Nb.v_sl, Nb.v_dc0, Nb.v_dc1, Nb.v_seq, Nb.n_rt, Nb.n_rtt, Nb.n_rto, Nb.n_bk, Nb.n_ct, Nb.n_ex, Nb.n_bad, Nb.v_nop, Nb.v_brk, Nb.v_cnt, Nb.v_expr, Nb.v_ifS, Nb.v_ret, Nb.v_retN, Nb.r_d, Nb.r_f, Nb.r_s, Nb.rs_o, Nb.rs_v, Nb.v_asg, Nb.t_nm, Nb.t_nil, Nb.t_cons, Nb.t_tp, Nb.ps_2, Nb.v_par, Nb.v_for, Nb.v_items, Nb.it_l, Nb.it_t, Nb.v_src, Nb.rg1, Nb.rg2, Nb.v_enum, Nb.eo_1, Nb.v_zip, Nb.v_zipD, Nb.zo_l, Nb.zo_t, Nb.v_mut, Nb.il_o, Nb.il_io, Nb.v_apMut, Nb.mu_o, Nb.mu_io, Nb.v_gPut, Nb.pu_o, Nb.pu_io, Nb.v_augS, Nb.id_i, Nb.cl_o, Nb.cl_io, Nb.v_dict, Nb.ky_i, Nb.ky_s, Nb.v_keys, Nb.ko_f, Nb.v_gPutA, Nb.pd_o, Nb.ic_o, Nb.ic_io, Nb.v_mLc, Nb.wi_nil, Nb.wi_cons, Nb.wp_no, Nb.wp_v, Nb.re_nil, Nb.re_cons, Nb.rt_nn, Nb.rt_vn, Nb.rt_nv, Nb.rt_vv, Nb.f1, Nb.f2, Nb.f3, Nb.f4, Nb.f5, Nb.fs_nx, Nb.fs_rt, Nb.fs_rtt, Nb.fs_rto, Nb.ou_0, Nb.ou_s, Nb.io_no, Nb.io_v, Nb.io_o, Nb.io_io, Nb.g0, Nb.g1, Nb.s0, Nb.s1, Nb.ln_le, Nb.ln_lt, Nb.o_add, Nb.o_sub, Nb.o_mulr, Nb.o_mull, Nb.o_fdiv, Nb.o_mod, Nb.o_neg, Nb.o_cmp, Nb.o_max2, Nb.o_min2, Nb.o_int_b, Nb.o_lenL, Nb.o_lenT, Nb.o_pow, Nb.o_slL, Nb.o_slT, Nb.o_repT, Nb.v_apR, Nb.o_inD, Nb.o_inL, Nb.o_inT, Nb.o_list_l, Nb.o_list_t, Nb.o_tup_l, Nb.o_tup_t, Nb.o_addL, Nb.o_addT, Nb.o_eq, Nb.o_ne, Nb.o_extL, Nb.o_extT, Nb.o_app, Nb.at0, Nb.ix_in, Nb.at1, Nb.at2, Nb.pick_in, Nb.o_ixL, Nb.o_ixT, Nb.o_ixLn, Nb.o_ixTn, Nb.pk0, Nb.pk1, Nb.pk2, Nb.o_eqi, Nb.o_eqb, Nb.o_nei, Nb.o_divmod, Nb.o_all, Nb.o_sum, Nb.v_exc, Nb.ex_x, Nb.fl_house, Nb.fl_nobody, Nb.fl_text, Nb.fl_open, Nb.fl_many, Nb.fl_most, Nb.v_throw, Nb.v_throwF1, Nb.v_throwF2, Nb.sm_log, Nb.v_try, Nb.tr_nx, Nb.tr_rt, Nb.tr_rtt, Nb.tr_rto, Nb.tr_c0, Nb.tr_c1, Nb.tr_c2, Nb.tr_c3, Nb.tr_c4, Nb.tr_c5, Nb.tr_c6, Nb.tr_c7, Nb.tr_c8, Nb.tr_c9, Nb.tr_c10, Nb.tr_c11, Nb.v_putX, Nb.px_no, Nb.px_v, Nb.ox_nx, Nb.ox_rt, Nb.ox_rto, Nb.v_endX, Nb.en_x, Nb.cl_nil, Nb.cl_cons, Nb.cl_no, Nb.cl_v, Nb.cl_oo, Nb.cl_ioo, Nb.cl_x, Nb.io_x, Nb.vs_x, Nb.xs_x, Nb.fs_ex, Nb.lo_ex, Nb.ce_x, Nb.sl_x, Nb.pb_x, Nb.v_m2T, Nb.kd_l, Nb.kd_t, Nb.me_1, Nb.me_2, Nb.me_3, Nb.o_revL, Nb.o_revT, Nb.o_lr1, Nb.o_tr1, Nb.o_eqs, Nb.o_nes, R.elim_ok, R.elim_ex, R.elim_bad, Out.next_nx, Option.bind_some, Option.map_some, Option.bind_none, Option.map_none, List.cons_append, List.nil_append, List.replicate_succ, List.replicate_zero, Nat.reduceSub, Nat.reduceAdd, if_true, if_false, Bool.not_true, Bool.not_false, Bool.false_eq_true, List.length_cons, List.length_nil, List.append_nil, Int.reduceToNat, List.set_cons_zero, List.set_cons_succ, decide_true, decide_false, Int.reduceEq, Int.reduceLT, Int.reduceLE, List.nodup_nil, Nb.rb_n2, Nb.rb_p2, Nb.rb_n1, Nb.rb_p1, and_self, and_true, true_and, and_false, false_and, not_true_eq_false, not_false_eq_true, Nb.nd1, Nb.nd2, Nb.nd3, Nb.k_int, Nb.k_bool, Nb.k_tuple, Nb.k_list, Nb.k_str, Nb.cast_lit, Nb.o_inI, Nb.o_inIT, Nb.o_sortU, Nb.o_sorted, Nb.o_sortT, Nb.o_neL0, Nb.o_neb, Nb.o_eqT0, Nb.o_pop, Nb.hasK_T, Nb.o_sumT, Nb.o_sumL, Nb.pick_ints, Nb.pick_rows, Nb.o_eqT, Nb.o_neT, Nb.o_eqL, Nb.o_neL, Nb.o_eqR, Nb.o_neR, Nb.all_map', Int.reduceNeg, Nb.o_cntT, Nb.o_cntL, Nb.ints_rev, Bool.false_bne, Bool.true_bne, Bool.and_self, Bool.or_self, Bool.true_and, Bool.and_true, Bool.false_and, Bool.and_false, Bool.true_or, Bool.or_true, Bool.false_or, Bool.or_false]
theorem arrB_iff {hs : List (List Int)} {d : D} : arrB hs d = true ↔ ∃ as, d = tupI as ∧ ArrOk hs as := by
  constructor
  · intro h
    cases d with
    | tuple ds =>
      simp only [arrB, Bool.and_eq_true, decide_eq_true_eq, List.all_eq_true] at h
      obtain ⟨h1, h2⟩ := h
      have hp : ∀ k, k < hs.length → ∃ n : Int, ds[k]? = some (.int n) ∧ 0 ≤ n ∧ n < (hs.getD k []).length := fun k hk => by
        have e1 : ds[k]? = some (ds[k]'(by omega)) := List.getElem?_eq_getElem (by omega)
        have hm : PyData.tuple [ds[k]'(by omega), tupI (hs[k]'hk)] ∈ zipD ds (hs.map tupI) := by
          unfold zipD
          refine List.mem_map.mpr ⟨(ds[k]'(by omega), tupI (hs[k]'hk)), List.mem_iff_getElem?.mpr ⟨k, ?_⟩, rfl⟩
          rw [List.zip_eq_zipWith, List.getElem?_zipWith, e1, List.getElem?_map, List.getElem?_eq_getElem hk]
          rfl
        have := h2 _ hm
        simp only [numP, tupI, List.length_map] at this
        obtain ⟨n, e, a1, a2⟩ := isNum_iff.mp this
        refine ⟨n, by rw [e1, e], a1, ?_⟩
        rw [List.getD_eq_getElem?_getD, List.getElem?_eq_getElem hk]
        exact a2
      obtain ⟨as, rfl⟩ := to_ints (ys := ds) fun y hy => by
        obtain ⟨k, hk⟩ := List.mem_iff_getElem?.mp hy
        have hkl := (List.getElem?_eq_some_iff.mp hk).1
        obtain ⟨n, e, _⟩ := hp k (by omega)
        rw [e] at hk
        injection hk with hk
        exact ⟨n, hk.symm⟩
      rw [List.length_map] at h1
      refine ⟨as, rfl, by omega, fun k hk => ?_⟩
      obtain ⟨n, e, a1, a2⟩ := hp k hk
      rw [List.getElem?_map, List.getElem?_eq_getElem (by omega)] at e
      simp only [Option.map_some, Option.some.injEq, PyData.int.injEq] at e
      rw [List.getD_eq_getElem?_getD, List.getElem?_eq_getElem (by omega), Option.getD_some, e]
      exact ⟨a1, a2⟩
    | _ => simp [arrB] at h
  · rintro ⟨as, rfl, h⟩
    simp only [arrB, tupI, Bool.and_eq_true, decide_eq_true_eq, List.all_eq_true, List.length_map]
    refine ⟨by rw [h.len], fun p hp => ?_⟩
    obtain ⟨i, hi⟩ := List.mem_iff_getElem?.mp hp
    obtain ⟨d0, e0, e1, e2, rfl⟩ := zipD_get hi
    rw [List.getElem?_map] at e1 e2
    have l1 : i < as.length := by
      cases q : as[i]? with
      | none => rw [q] at e1; cases e1
      | some a => exact (List.getElem?_eq_some_iff.mp q).1
    have l2 : i < hs.length := by rw [← h.len]; exact l1
    obtain ⟨a1, a2⟩ := h.arr i l2
    rw [List.getD_eq_getElem?_getD, List.getElem?_eq_getElem l1] at a1 a2
    rw [List.getD_eq_getElem?_getD, List.getElem?_eq_getElem l2] at a2
    rw [List.getElem?_eq_getElem l1] at e1
    rw [List.getElem?_eq_getElem l2] at e2
    cases e1
    cases e2
    simp only [Option.getD_some] at a1 a2
    simp [numP, tupI, isNum, a1, a2]
/-- one leaving -/
def lead (hs : List (List Int)) (as : List Int) (k : Nat) : List Int := as.set k ((as.getD k 0 + 1) % (hs.getD k []).length)
def shows (hs : List (List Int)) (as : List Int) (k : Nat) : Int := (hs.getD k []).getD (as.getD k 0).toNat 0
theorem lead_ok {hs : List (List Int)} {as : List Int} (h : ArrOk hs as) {k : Nat} (hk : k < hs.length) : ArrOk hs (lead hs as k) := by
  refine ⟨by unfold lead; rw [List.length_set]; exact h.len, fun j hj => ?_⟩
  obtain ⟨a1, a2⟩ := h.arr j hj
  unfold lead
  rw [List.getD_eq_getElem?_getD]
  by_cases e : k = j
  · subst e
    rw [List.getElem?_set_self (by rw [h.len]; exact hk)]
    simp only [Option.getD_some]
    exact ⟨Int.emod_nonneg _ (by omega), Int.emod_lt_of_pos _ (by omega)⟩
  · rw [List.getElem?_set_ne e, ← List.getD_eq_getElem?_getD]
    exact ⟨a1, a2⟩
def bump (xs : List Int) (p : Nat) : List Int := xs.set p (xs.getD p 0 + 1)
theorem bump_len {xs : List Int} {p : Nat} : (bump xs p).length = xs.length := List.length_set ..
/-! a walk of so many steps at most: the arrows left and the places come to -/
def run (hs : List (List Int)) : Nat → List Int → Int → List Int × List Int
  | 0, as, _ => (as, [])
  | n + 1, as, h => if h < 0 then (as, []) else ((run hs n (lead hs as h.toNat) (shows hs as h.toNat)).1, shows hs as h.toNat :: (run hs n (lead hs as h.toNat) (shows hs as h.toNat)).2)
theorem shows_in {hs : List (List Int)} {as : List Int} {most doors k : Nat} (hh : HouseOk hs most doors) (ha : ArrOk hs as) (hk : k < hs.length) : -3 ≤ shows hs as k ∧ shows hs as k < hs.length := by
  obtain ⟨a1, a2⟩ := ha.arr k hk
  exact (hh.at hk).2.2 _ (getD_mem (by omega))
theorem run_arr {hs : List (List Int)} {most doors : Nat} (hh : HouseOk hs most doors) : ∀ (n : Nat) (as : List Int) (h : Int), ArrOk hs as → h < hs.length → ArrOk hs (run hs n as h).1
  | 0, as, h, ha, _ => ha
  | n + 1, as, h, ha, hl => by
    unfold run
    split
    · exact ha
    · exact run_arr hh n _ _ (lead_ok ha (by omega)) (shows_in hh ha (by omega)).2
theorem run_len {hs : List (List Int)} : ∀ (n : Nat) (as : List Int) (h : Int), (run hs n as h).2.length ≤ n
  | 0, as, h => by simp [run]
  | n + 1, as, h => by
    unfold run
    split
    · simp
    · simp only [List.length_cons]
      have := run_len (hs := hs) n (lead hs as h.toNat) (shows hs as h.toNat)
      omega
/-- the last of some -/
def lastI (l : List Int) : Int := l.getLast?.getD 0
theorem lastI_cons2 {a b : Int} {l : List Int} : lastI (a :: b :: l) = lastI (b :: l) := by
  unfold lastI
  rw [List.getLast?_cons_cons]
theorem run_last {hs : List (List Int)} {n : Nat} {as : List Int} {h : Int} (h0 : ¬ h < 0) : lastI (h :: (run hs (n + 1) as h).2) = lastI (shows hs as h.toNat :: (run hs n (lead hs as h.toNat) (shows hs as h.toNat)).2) := by
  rw [run, if_neg h0]
  exact lastI_cons2
/-- so often each room was left -/
def tally (cs : List Int) (l : List Int) : List Int := l.foldl (fun c p => bump c p.toNat) cs
theorem tally_len : ∀ {l cs : List Int}, (tally cs l).length = cs.length
  | [], _ => rfl
  | p :: l, cs => by
    show (tally (bump cs p.toNat) l).length = _
    rw [tally_len, bump_len]
/-! a walk, state by state -/
def wS (hs : List (List Int)) (as : List Int) (r : Int) : Nat → List Int × Int
  | 0 => (as, r)
  | t + 1 => if (wS hs as r t).2 < 0 then wS hs as r t else (lead hs (wS hs as r t).1 (wS hs as r t).2.toNat, shows hs (wS hs as r t).1 (wS hs as r t).2.toNat)
section
variable {hs : List (List Int)} {as : List Int} {most doors k : Nat} {r : Int}
theorem wS_go {t : Nat} (h : 0 ≤ (wS hs as r t).2) : wS hs as r (t + 1) = (lead hs (wS hs as r t).1 (wS hs as r t).2.toNat, shows hs (wS hs as r t).1 (wS hs as r t).2.toNat) := if_neg (by omega)
theorem wS_stay {t : Nat} (h : (wS hs as r t).2 < 0) : wS hs as r (t + 1) = wS hs as r t := if_pos h
theorem wS_in (hh : HouseOk hs most doors) (ha : ArrOk hs as) (r0 : -3 ≤ r) (r1 : r < hs.length) : ∀ t, ArrOk hs (wS hs as r t).1 ∧ -3 ≤ (wS hs as r t).2 ∧ (wS hs as r t).2 < hs.length
  | 0 => ⟨ha, r0, r1⟩
  | t + 1 => by
    obtain ⟨a, b, c⟩ := wS_in hh ha r0 r1 t
    by_cases h : (wS hs as r t).2 < 0
    · rw [wS_stay h]; exact ⟨a, b, c⟩
    · rw [wS_go (by omega)]
      exact ⟨lead_ok a (by omega), shows_in hh a (by omega)⟩
theorem wS_next (h0 : 0 ≤ r) : ∀ t, wS hs as r (t + 1) = wS hs (lead hs as r.toNat) (shows hs as r.toNat) t
  | 0 => by
    rw [wS_go (show 0 ≤ (wS hs as r 0).2 from h0)]
    rfl
  | t + 1 => by
    have ih := wS_next h0 t
    by_cases h : (wS hs as r (t + 1)).2 < 0
    · rw [wS_stay (t := t + 1) h, ih, wS_stay (as := lead hs as r.toNat) (r := shows hs as r.toNat) (t := t) (by rw [← ih]; exact h)]
    · rw [wS_go (t := t + 1) (by omega), wS_go (as := lead hs as r.toNat) (r := shows hs as r.toNat) (t := t) (by rw [← ih]; omega), ih]
/-- the walk ends for the first time -/
def Ends (hs : List (List Int)) (as : List Int) (r : Int) (T : Nat) : Prop := (∀ t, t < T → 0 ≤ (wS hs as r t).2) ∧ (wS hs as r T).2 < 0
/-- the places come to -/
def wP (hs : List (List Int)) (as : List Int) (r : Int) (T : Nat) : List Int := (List.range T).map fun t => (wS hs as r (t + 1)).2
theorem wP_len {T : Nat} : (wP hs as r T).length = T := by simp [wP]
theorem run_is : ∀ {n T : Nat} {as : List Int} {r : Int}, Ends hs as r T → T ≤ n → run hs n as r = ((wS hs as r T).1, wP hs as r T)
  | 0, T, as, r, _, hT => by
    have : T = 0 := by omega
    subst this
    rfl
  | n + 1, 0, as, r, h, _ => by
    unfold run
    rw [if_pos (show r < 0 from h.2)]
    rfl
  | n + 1, T + 1, as, r, h, hT => by
    have h0 : 0 ≤ r := h.1 0 (by omega)
    have hE : Ends hs (lead hs as r.toNat) (shows hs as r.toNat) T := ⟨fun t ht => by rw [← wS_next h0]; exact h.1 (t + 1) (by omega), by rw [← wS_next h0]; exact h.2⟩
    unfold run
    rw [if_neg (by omega), run_is hE (by omega)]
    rw [wS_next h0]
    unfold wP
    rw [List.range_succ_eq_map, List.map_cons, List.map_map]
    refine Prod.ext rfl ?_
    show shows hs as r.toNat :: _ = (wS hs as r (0 + 1)).2 :: _
    rw [wS_next h0]
    show shows hs as r.toNat :: _ = shows hs as r.toNat :: _
    congr 1
    refine List.map_congr_left fun t _ => ?_
    show _ = (wS hs as r (t + 1 + 1)).2
    rw [wS_next h0]
end
/-- the least of a list -/
def mn (ns : List Int) : Int := ns.min?.getD 0
theorem mn_some {ns : List Int} (h : 1 ≤ ns.length) : ns.min? = some (mn ns) := by
  cases ns with
  | nil => simp at h
  | cons x xs => simp [mn, List.min?_cons]
theorem o_minT {ns : List Int} (h : 1 ≤ ns.length) : gMinA [.tuple (ns.map PyData.int)] = some (.d (.int (mn ns))) := by
  simp only [gMinA, intsOf_map, Option.bind_some, mn_some h, Option.map_some]
theorem o_minL {ns : List Int} (h : 1 ≤ ns.length) : gMinA [.list (ns.map PyData.int)] = some (.d (.int (mn ns))) := by
  simp only [gMinA, gMinL, intsOf_map, Option.bind_some, mn_some h, Option.map_some]
theorem mn_nonneg {ns : List Int} (h : 1 ≤ ns.length) : 0 ≤ mn ns ↔ ∀ x ∈ ns, 0 ≤ x := List.le_min?_iff (mn_some h)
theorem mn_in {ns : List Int} (h : 1 ≤ ns.length) : mn ns ∈ ns := List.min?_mem (mn_some h)
/-- the least door of a room, as data -/
def mnD : D → Int
  | .tuple ds => mn ((intsOf ds).getD [])
  | _ => 0
theorem mnD_row {ns : List Int} : mnD (tupI ns) = mn ns := by simp [mnD]
theorem isshut_ok {hs : List (List Int)} {most doors : Nat} (hh : HouseOk hs most doors) (hm : most ≤ 900) : d3 [.v (housD hs)] = .ok (.bool (hs.all fun r => decide (0 ≤ mn r))) [.no] := by
  have hmost := hh.most
  have hc := compD_map (vs := [1]) (g := gNm 1) (me := d3e0) (f := fun d => .bool (decide (0 ≤ mnD d))) (env := [.v (housD hs), .no]) (items := hs.map tupI) (acc := []) (fun d hd => by
    obtain ⟨ns, hr, rfl⟩ := List.mem_map.mp hd
    have hl := (hh.room ns hr).1
    unfold turn
    simp -implicitDefEqProofs (maxSteps := 4000000) (disch := first | with_unfolding_all rfl | omega | (simp only [List.length_append, List.length_cons, List.length_nil, List.length_map, List.length_replicate, List.length_take, List.length_drop]; omega)) only [d3e0, o_minT hl, mnD_row, Nb.v_zipM, Nb.zm_ll, Nb.zm_lt, Nb.zm_tl, Nb.zm_tt, Nb.fp_ok, Nb.fp_okt, Nb.fp_ex, Nb.v_mFP, Nb.v_tupP, Nb.tp_f, Nb.tp_s, Nb.tp_d, Nb.v_pairD, Nb.oa_o, Nb.oa_v, Nb.v_retP, Nb.rp_d, Nb.rp_t, Nb.v_unpP, Nb.up_d, Nb.up_t, Nb.v_putO, Nb.po_n, Nb.po_v, Nb.po_o, Nb.v_parO, Nb.pr_ff, Nb.v_mLcO, Nb.la_o, Nb.la_v, Nb.nn_n, Nb.v_ix1P, Nb.i1_t, Nb.i1_d, Nb.kO_t, Nb.v_inN, Nb.v_ixN, Nb.v_setN, Nb.is_n, Nb.nio_no, Nb.nio_v, Nb.nio_n, Nb.v_putN, Nb.oe_s, Nb.oe_n, Nb.v_c, Nb.v_var, Nb.vs_v, Nb.vs_o, Nb.vs_io, Nb.w_d, Nb.w_f, Nb.w_s, Nb.ws_o, Nb.ws_io, Nb.ws_v, Nb.cl_l, Nb.cl_d, Nb.a_d, Nb.a_f, Nb.a_s, Nb.as_o, Nb.as_v, Nb.as_nil, Nb.as_cons, Nb.v_m2, Nb.v_ap2, Nb.v_m1, Nb.v_ap1, Nb.v_set, Nb.sd_no, Nb.sd_v, Nb.sd_o, Nb.sf_no, Nb.sf_v, Nb.sf_o, Nb.ss_no, Nb.ss_v, Nb.ss_oo, Nb.v_nil, Nb.v_cons, Nb.v_tup, Nb.v_lst, Nb.v_rep, Nb.w_nil, Nb.w_cons, Nb.v_mA, Nb.p_nil, Nb.p_t, Nb.p_f, Nb.x_d, Nb.x_f, Nb.x_s, Nb.xs_v, Nb.xs_o, Nb.xs_io, Nb.ce_nil, Nb.ce_v, Nb.ce_i, Nb.cs_o, Nb.cs_io, Nb.sl_nil, Nb.sl_v, Nb.sl_i, Nb.fo_ok, Nb.fo_okt, Nb.fo_oko, Nb.fo_ex, Nb.v_mF, Nb.pb_nil, Nb.pb_v, Nb.pb_i, Nb.ss_o, Nb.ss_io, Nb.b_b, Nb.v_toB, Nb.v_mTst, Nb.v_and, Nb.v_or, Nb.v_not, Nb.v_if, Nb.v_andV, Nb.v_orV, Nb.v_notV, Nb.v_m3, Nb.v_inR, Nb.v_part0, Nb.i_i, Nb.v_part1, Nb.v_sl, Nb.v_dc0, Nb.v_dc1, Nb.v_seq, Nb.n_rt, Nb.n_rtt, Nb.n_rto, Nb.n_bk, Nb.n_ct, Nb.n_ex, Nb.n_bad, Nb.v_nop, Nb.v_brk, Nb.v_cnt, Nb.v_expr, Nb.v_ifS, Nb.v_ret, Nb.v_retN, Nb.r_d, Nb.r_f, Nb.r_s, Nb.rs_o, Nb.rs_v, Nb.v_asg, Nb.t_nm, Nb.t_nil, Nb.t_cons, Nb.t_tp, Nb.ps_2, Nb.v_par, Nb.v_for, Nb.v_items, Nb.it_l, Nb.it_t, Nb.v_src, Nb.rg1, Nb.rg2, Nb.v_enum, Nb.eo_1, Nb.v_zip, Nb.v_zipD, Nb.zo_l, Nb.zo_t, Nb.v_mut, Nb.il_o, Nb.il_io, Nb.v_apMut, Nb.mu_o, Nb.mu_io, Nb.v_gPut, Nb.pu_o, Nb.pu_io, Nb.v_augS, Nb.id_i, Nb.cl_o, Nb.cl_io, Nb.v_dict, Nb.ky_i, Nb.ky_s, Nb.v_keys, Nb.ko_f, Nb.v_gPutA, Nb.pd_o, Nb.ic_o, Nb.ic_io, Nb.v_mLc, Nb.wi_nil, Nb.wi_cons, Nb.wp_no, Nb.wp_v, Nb.re_nil, Nb.re_cons, Nb.rt_nn, Nb.rt_vn, Nb.rt_nv, Nb.rt_vv, Nb.f1, Nb.f2, Nb.f3, Nb.f4, Nb.f5, Nb.fs_nx, Nb.fs_rt, Nb.fs_rtt, Nb.fs_rto, Nb.ou_0, Nb.ou_s, Nb.io_no, Nb.io_v, Nb.io_o, Nb.io_io, Nb.g0, Nb.g1, Nb.s0, Nb.s1, Nb.ln_le, Nb.ln_lt, Nb.o_add, Nb.o_sub, Nb.o_mulr, Nb.o_mull, Nb.o_fdiv, Nb.o_mod, Nb.o_neg, Nb.o_cmp, Nb.o_max2, Nb.o_min2, Nb.o_int_b, Nb.o_lenL, Nb.o_lenT, Nb.o_pow, Nb.o_slL, Nb.o_slT, Nb.o_repT, Nb.v_apR, Nb.o_inD, Nb.o_inL, Nb.o_inT, Nb.o_list_l, Nb.o_list_t, Nb.o_tup_l, Nb.o_tup_t, Nb.o_addL, Nb.o_addT, Nb.o_eq, Nb.o_ne, Nb.o_extL, Nb.o_extT, Nb.o_app, Nb.at0, Nb.ix_in, Nb.at1, Nb.at2, Nb.pick_in, Nb.o_ixL, Nb.o_ixT, Nb.o_ixLn, Nb.o_ixTn, Nb.pk0, Nb.pk1, Nb.pk2, Nb.o_eqi, Nb.o_eqb, Nb.o_nei, Nb.o_divmod, Nb.o_all, Nb.o_sum, Nb.v_exc, Nb.ex_x, Nb.fl_house, Nb.fl_nobody, Nb.fl_text, Nb.fl_open, Nb.fl_many, Nb.fl_most, Nb.v_throw, Nb.v_throwF1, Nb.v_throwF2, Nb.sm_log, Nb.v_try, Nb.tr_nx, Nb.tr_rt, Nb.tr_rtt, Nb.tr_rto, Nb.tr_c0, Nb.tr_c1, Nb.tr_c2, Nb.tr_c3, Nb.tr_c4, Nb.tr_c5, Nb.tr_c6, Nb.tr_c7, Nb.tr_c8, Nb.tr_c9, Nb.tr_c10, Nb.tr_c11, Nb.v_putX, Nb.px_no, Nb.px_v, Nb.ox_nx, Nb.ox_rt, Nb.ox_rto, Nb.v_endX, Nb.en_x, Nb.cl_nil, Nb.cl_cons, Nb.cl_no, Nb.cl_v, Nb.cl_oo, Nb.cl_ioo, Nb.cl_x, Nb.io_x, Nb.vs_x, Nb.xs_x, Nb.fs_ex, Nb.lo_ex, Nb.ce_x, Nb.sl_x, Nb.pb_x, Nb.v_m2T, Nb.kd_l, Nb.kd_t, Nb.me_1, Nb.me_2, Nb.me_3, Nb.o_revL, Nb.o_revT, Nb.o_lr1, Nb.o_tr1, Nb.o_eqs, Nb.o_nes, R.elim_ok, R.elim_ex, R.elim_bad, Out.next_nx, Option.bind_some, Option.map_some, Option.bind_none, Option.map_none, List.cons_append, List.nil_append, List.replicate_succ, List.replicate_zero, Nat.reduceSub, Nat.reduceAdd, if_true, if_false, Bool.not_true, Bool.not_false, Bool.false_eq_true, List.length_cons, List.length_nil, List.append_nil, Int.reduceToNat, List.set_cons_zero, List.set_cons_succ, decide_true, decide_false, Int.reduceEq, Int.reduceLT, Int.reduceLE, List.nodup_nil, Nb.rb_n2, Nb.rb_p2, Nb.rb_n1, Nb.rb_p1, and_self, and_true, true_and, and_false, false_and, not_true_eq_false, not_false_eq_true, Nb.nd1, Nb.nd2, Nb.nd3, Nb.k_int, Nb.k_bool, Nb.k_tuple, Nb.k_list, Nb.k_str, Nb.cast_lit, Nb.o_inI, Nb.o_inIT, Nb.o_sortU, Nb.o_sorted, Nb.o_sortT, Nb.o_neL0, Nb.o_neb, Nb.o_eqT0, Nb.o_pop, Nb.hasK_T, Nb.o_sumT, Nb.o_sumL, Nb.pick_ints, Nb.pick_rows, Nb.o_eqT, Nb.o_neT, Nb.o_eqL, Nb.o_neL, Nb.o_eqR, Nb.o_neR, Nb.all_map', Int.reduceNeg, Nb.o_cntT, Nb.o_cntL, Nb.ints_rev, Bool.false_bne, Bool.true_bne, Bool.and_self, Bool.or_self, Bool.true_and, Bool.and_true, Bool.false_and, Bool.and_false, Bool.true_or, Bool.or_true, Bool.false_or, Bool.or_false]) (by simp only [List.length_nil, List.length_map, line]; omega)
  have ha := all_map' (ds := hs.map tupI) (p := fun d => decide (0 ≤ mnD d))
  rw [show (hs.map tupI).all (fun d => decide (0 ≤ mnD d)) = hs.all fun r => decide (0 ≤ mn r) by
    rw [List.all_map]; congr 1; funext r; simp only [Function.comp, mnD_row]] at ha
  rw [List.nil_append] at hc
  unfold d3
  simp -implicitDefEqProofs (maxSteps := 4000000) (disch := first | with_unfolding_all rfl | omega | (simp only [List.length_append, List.length_cons, List.length_nil, List.length_map, List.length_replicate, List.length_take, List.length_drop]; omega)) only [hc, ha, Nb.v_zipM, Nb.zm_ll, Nb.zm_lt, Nb.zm_tl, Nb.zm_tt, Nb.fp_ok, Nb.fp_okt, Nb.fp_ex, Nb.v_mFP, Nb.v_tupP, Nb.tp_f, Nb.tp_s, Nb.tp_d, Nb.v_pairD, Nb.oa_o, Nb.oa_v, Nb.v_retP, Nb.rp_d, Nb.rp_t, Nb.v_unpP, Nb.up_d, Nb.up_t, Nb.v_putO, Nb.po_n, Nb.po_v, Nb.po_o, Nb.v_parO, Nb.pr_ff, Nb.v_mLcO, Nb.la_o, Nb.la_v, Nb.nn_n, Nb.v_ix1P, Nb.i1_t, Nb.i1_d, Nb.kO_t, Nb.v_inN, Nb.v_ixN, Nb.v_setN, Nb.is_n, Nb.nio_no, Nb.nio_v, Nb.nio_n, Nb.v_putN, Nb.oe_s, Nb.oe_n, Nb.v_c, Nb.v_var, Nb.vs_v, Nb.vs_o, Nb.vs_io, Nb.w_d, Nb.w_f, Nb.w_s, Nb.ws_o, Nb.ws_io, Nb.ws_v, Nb.cl_l, Nb.cl_d, Nb.a_d, Nb.a_f, Nb.a_s, Nb.as_o, Nb.as_v, Nb.as_nil, Nb.as_cons, Nb.v_m2, Nb.v_ap2, Nb.v_m1, Nb.v_ap1, Nb.v_set, Nb.sd_no, Nb.sd_v, Nb.sd_o, Nb.sf_no, Nb.sf_v, Nb.sf_o, Nb.ss_no, Nb.ss_v, Nb.ss_oo, Nb.v_nil, Nb.v_cons, Nb.v_tup, Nb.v_lst, Nb.v_rep, Nb.w_nil, Nb.w_cons, Nb.v_mA, Nb.p_nil, Nb.p_t, Nb.p_f, Nb.x_d, Nb.x_f, Nb.x_s, Nb.xs_v, Nb.xs_o, Nb.xs_io, Nb.ce_nil, Nb.ce_v, Nb.ce_i, Nb.cs_o, Nb.cs_io, Nb.sl_nil, Nb.sl_v, Nb.sl_i, Nb.fo_ok, Nb.fo_okt, Nb.fo_oko, Nb.fo_ex, Nb.v_mF, Nb.pb_nil, Nb.pb_v, Nb.pb_i, Nb.ss_o, Nb.ss_io, Nb.b_b, Nb.v_toB, Nb.v_mTst, Nb.v_and, Nb.v_or, Nb.v_not, Nb.v_if, Nb.v_andV, Nb.v_orV, Nb.v_notV, Nb.v_m3, Nb.v_inR, Nb.v_part0, Nb.i_i, Nb.v_part1, Nb.v_sl, Nb.v_dc0, Nb.v_dc1, Nb.v_seq, Nb.n_rt, Nb.n_rtt, Nb.n_rto, Nb.n_bk, Nb.n_ct, Nb.n_ex, Nb.n_bad, Nb.v_nop, Nb.v_brk, Nb.v_cnt, Nb.v_expr, Nb.v_ifS, Nb.v_ret, Nb.v_retN, Nb.r_d, Nb.r_f, Nb.r_s, Nb.rs_o, Nb.rs_v, Nb.v_asg, Nb.t_nm, Nb.t_nil, Nb.t_cons, Nb.t_tp, Nb.ps_2, Nb.v_par, Nb.v_for, Nb.v_items, Nb.it_l, Nb.it_t, Nb.v_src, Nb.rg1, Nb.rg2, Nb.v_enum, Nb.eo_1, Nb.v_zip, Nb.v_zipD, Nb.zo_l, Nb.zo_t, Nb.v_mut, Nb.il_o, Nb.il_io, Nb.v_apMut, Nb.mu_o, Nb.mu_io, Nb.v_gPut, Nb.pu_o, Nb.pu_io, Nb.v_augS, Nb.id_i, Nb.cl_o, Nb.cl_io, Nb.v_dict, Nb.ky_i, Nb.ky_s, Nb.v_keys, Nb.ko_f, Nb.v_gPutA, Nb.pd_o, Nb.ic_o, Nb.ic_io, Nb.v_mLc, Nb.wi_nil, Nb.wi_cons, Nb.wp_no, Nb.wp_v, Nb.re_nil, Nb.re_cons, Nb.rt_nn, Nb.rt_vn, Nb.rt_nv, Nb.rt_vv, Nb.f1, Nb.f2, Nb.f3, Nb.f4, Nb.f5, Nb.fs_nx, Nb.fs_rt, Nb.fs_rtt, Nb.fs_rto, Nb.ou_0, Nb.ou_s, Nb.io_no, Nb.io_v, Nb.io_o, Nb.io_io, Nb.g0, Nb.g1, Nb.s0, Nb.s1, Nb.ln_le, Nb.ln_lt, Nb.o_add, Nb.o_sub, Nb.o_mulr, Nb.o_mull, Nb.o_fdiv, Nb.o_mod, Nb.o_neg, Nb.o_cmp, Nb.o_max2, Nb.o_min2, Nb.o_int_b, Nb.o_lenL, Nb.o_lenT, Nb.o_pow, Nb.o_slL, Nb.o_slT, Nb.o_repT, Nb.v_apR, Nb.o_inD, Nb.o_inL, Nb.o_inT, Nb.o_list_l, Nb.o_list_t, Nb.o_tup_l, Nb.o_tup_t, Nb.o_addL, Nb.o_addT, Nb.o_eq, Nb.o_ne, Nb.o_extL, Nb.o_extT, Nb.o_app, Nb.at0, Nb.ix_in, Nb.at1, Nb.at2, Nb.pick_in, Nb.o_ixL, Nb.o_ixT, Nb.o_ixLn, Nb.o_ixTn, Nb.pk0, Nb.pk1, Nb.pk2, Nb.o_eqi, Nb.o_eqb, Nb.o_nei, Nb.o_divmod, Nb.o_all, Nb.o_sum, Nb.v_exc, Nb.ex_x, Nb.fl_house, Nb.fl_nobody, Nb.fl_text, Nb.fl_open, Nb.fl_many, Nb.fl_most, Nb.v_throw, Nb.v_throwF1, Nb.v_throwF2, Nb.sm_log, Nb.v_try, Nb.tr_nx, Nb.tr_rt, Nb.tr_rtt, Nb.tr_rto, Nb.tr_c0, Nb.tr_c1, Nb.tr_c2, Nb.tr_c3, Nb.tr_c4, Nb.tr_c5, Nb.tr_c6, Nb.tr_c7, Nb.tr_c8, Nb.tr_c9, Nb.tr_c10, Nb.tr_c11, Nb.v_putX, Nb.px_no, Nb.px_v, Nb.ox_nx, Nb.ox_rt, Nb.ox_rto, Nb.v_endX, Nb.en_x, Nb.cl_nil, Nb.cl_cons, Nb.cl_no, Nb.cl_v, Nb.cl_oo, Nb.cl_ioo, Nb.cl_x, Nb.io_x, Nb.vs_x, Nb.xs_x, Nb.fs_ex, Nb.lo_ex, Nb.ce_x, Nb.sl_x, Nb.pb_x, Nb.v_m2T, Nb.kd_l, Nb.kd_t, Nb.me_1, Nb.me_2, Nb.me_3, Nb.o_revL, Nb.o_revT, Nb.o_lr1, Nb.o_tr1, Nb.o_eqs, Nb.o_nes, R.elim_ok, R.elim_ex, R.elim_bad, Out.next_nx, Option.bind_some, Option.map_some, Option.bind_none, Option.map_none, List.cons_append, List.nil_append, List.replicate_succ, List.replicate_zero, Nat.reduceSub, Nat.reduceAdd, if_true, if_false, Bool.not_true, Bool.not_false, Bool.false_eq_true, List.length_cons, List.length_nil, List.append_nil, Int.reduceToNat, List.set_cons_zero, List.set_cons_succ, decide_true, decide_false, Int.reduceEq, Int.reduceLT, Int.reduceLE, List.nodup_nil, Nb.rb_n2, Nb.rb_p2, Nb.rb_n1, Nb.rb_p1, and_self, and_true, true_and, and_false, false_and, not_true_eq_false, not_false_eq_true, Nb.nd1, Nb.nd2, Nb.nd3, Nb.k_int, Nb.k_bool, Nb.k_tuple, Nb.k_list, Nb.k_str, Nb.cast_lit, Nb.o_inI, Nb.o_inIT, Nb.o_sortU, Nb.o_sorted, Nb.o_sortT, Nb.o_neL0, Nb.o_neb, Nb.o_eqT0, Nb.o_pop, Nb.hasK_T, Nb.o_sumT, Nb.o_sumL, Nb.pick_ints, Nb.pick_rows, Nb.o_eqT, Nb.o_neT, Nb.o_eqL, Nb.o_neL, Nb.o_eqR, Nb.o_neR, Nb.all_map', Int.reduceNeg, Nb.o_cntT, Nb.o_cntL, Nb.ints_rev, Bool.false_bne, Bool.true_bne, Bool.and_self, Bool.or_self, Bool.true_and, Bool.and_true, Bool.false_and, Bool.and_false, Bool.true_or, Bool.or_true, Bool.false_or, Bool.or_false]
theorem stepped_ok {hs : List (List Int)} {as : List Int} {most doors : Nat} (hh : HouseOk hs most doors) (h1000 : most ≤ 1000) (h : ArrOk hs as) {k : Nat} (hk : k < hs.length) : d6 [.v (housD hs), .v (tupI as), .v (.int k)] = .ok (.tuple [tupI (lead hs as k), .int (shows hs as k)]) [.no, .no, .no] := by
  unfold d6
  have e := h.len
  have hm := hh.most
  obtain ⟨a1, a2⟩ := h.arr k hk
  obtain ⟨r1, r2, _⟩ := hh.at hk
  have hc1 := cutD_len (as.map PyData.int) none (some (k : Int))
  have hc2 := cutD_len (as.map PyData.int) (some ((k : Int) + 1)) none
  rw [List.length_map] at hc1 hc2
  have ht : ((k : Int)).toNat = k := by omega
  simp -implicitDefEqProofs (maxSteps := 4000000) (disch := first | with_unfolding_all rfl | omega | (simp only [List.length_append, List.length_cons, List.length_nil, List.length_map, List.length_replicate, List.length_take, List.length_drop]; omega)) only [List.length_map, e, ht, a1, a2, Nb.v_zipM, Nb.zm_ll, Nb.zm_lt, Nb.zm_tl, Nb.zm_tt, Nb.fp_ok, Nb.fp_okt, Nb.fp_ex, Nb.v_mFP, Nb.v_tupP, Nb.tp_f, Nb.tp_s, Nb.tp_d, Nb.v_pairD, Nb.oa_o, Nb.oa_v, Nb.v_retP, Nb.rp_d, Nb.rp_t, Nb.v_unpP, Nb.up_d, Nb.up_t, Nb.v_putO, Nb.po_n, Nb.po_v, Nb.po_o, Nb.v_parO, Nb.pr_ff, Nb.v_mLcO, Nb.la_o, Nb.la_v, Nb.nn_n, Nb.v_ix1P, Nb.i1_t, Nb.i1_d, Nb.kO_t, Nb.v_inN, Nb.v_ixN, Nb.v_setN, Nb.is_n, Nb.nio_no, Nb.nio_v, Nb.nio_n, Nb.v_putN, Nb.oe_s, Nb.oe_n, Nb.v_c, Nb.v_var, Nb.vs_v, Nb.vs_o, Nb.vs_io, Nb.w_d, Nb.w_f, Nb.w_s, Nb.ws_o, Nb.ws_io, Nb.ws_v, Nb.cl_l, Nb.cl_d, Nb.a_d, Nb.a_f, Nb.a_s, Nb.as_o, Nb.as_v, Nb.as_nil, Nb.as_cons, Nb.v_m2, Nb.v_ap2, Nb.v_m1, Nb.v_ap1, Nb.v_set, Nb.sd_no, Nb.sd_v, Nb.sd_o, Nb.sf_no, Nb.sf_v, Nb.sf_o, Nb.ss_no, Nb.ss_v, Nb.ss_oo, Nb.v_nil, Nb.v_cons, Nb.v_tup, Nb.v_lst, Nb.v_rep, Nb.w_nil, Nb.w_cons, Nb.v_mA, Nb.p_nil, Nb.p_t, Nb.p_f, Nb.x_d, Nb.x_f, Nb.x_s, Nb.xs_v, Nb.xs_o, Nb.xs_io, Nb.ce_nil, Nb.ce_v, Nb.ce_i, Nb.cs_o, Nb.cs_io, Nb.sl_nil, Nb.sl_v, Nb.sl_i, Nb.fo_ok, Nb.fo_okt, Nb.fo_oko, Nb.fo_ex, Nb.v_mF, Nb.pb_nil, Nb.pb_v, Nb.pb_i, Nb.ss_o, Nb.ss_io, Nb.b_b, Nb.v_toB, Nb.v_mTst, Nb.v_and, Nb.v_or, Nb.v_not, Nb.v_if, Nb.v_andV, Nb.v_orV, Nb.v_notV, Nb.v_m3, Nb.v_inR, Nb.v_part0, Nb.i_i, Nb.v_part1, Nb.v_sl, Nb.v_dc0, Nb.v_dc1, Nb.v_seq, Nb.n_rt, Nb.n_rtt, Nb.n_rto, Nb.n_bk, Nb.n_ct, Nb.n_ex, Nb.n_bad, Nb.v_nop, Nb.v_brk, Nb.v_cnt, Nb.v_expr, Nb.v_ifS, Nb.v_ret, Nb.v_retN, Nb.r_d, Nb.r_f, Nb.r_s, Nb.rs_o, Nb.rs_v, Nb.v_asg, Nb.t_nm, Nb.t_nil, Nb.t_cons, Nb.t_tp, Nb.ps_2, Nb.v_par, Nb.v_for, Nb.v_items, Nb.it_l, Nb.it_t, Nb.v_src, Nb.rg1, Nb.rg2, Nb.v_enum, Nb.eo_1, Nb.v_zip, Nb.v_zipD, Nb.zo_l, Nb.zo_t, Nb.v_mut, Nb.il_o, Nb.il_io, Nb.v_apMut, Nb.mu_o, Nb.mu_io, Nb.v_gPut, Nb.pu_o, Nb.pu_io, Nb.v_augS, Nb.id_i, Nb.cl_o, Nb.cl_io, Nb.v_dict, Nb.ky_i, Nb.ky_s, Nb.v_keys, Nb.ko_f, Nb.v_gPutA, Nb.pd_o, Nb.ic_o, Nb.ic_io, Nb.v_mLc, Nb.wi_nil, Nb.wi_cons, Nb.wp_no, Nb.wp_v, Nb.re_nil, Nb.re_cons, Nb.rt_nn, Nb.rt_vn, Nb.rt_nv, Nb.rt_vv, Nb.f1, Nb.f2, Nb.f3, Nb.f4, Nb.f5, Nb.fs_nx, Nb.fs_rt, Nb.fs_rtt, Nb.fs_rto, Nb.ou_0, Nb.ou_s, Nb.io_no, Nb.io_v, Nb.io_o, Nb.io_io, Nb.g0, Nb.g1, Nb.s0, Nb.s1, Nb.ln_le, Nb.ln_lt, Nb.o_add, Nb.o_sub, Nb.o_mulr, Nb.o_mull, Nb.o_fdiv, Nb.o_mod, Nb.o_neg, Nb.o_cmp, Nb.o_max2, Nb.o_min2, Nb.o_int_b, Nb.o_lenL, Nb.o_lenT, Nb.o_pow, Nb.o_slL, Nb.o_slT, Nb.o_repT, Nb.v_apR, Nb.o_inD, Nb.o_inL, Nb.o_inT, Nb.o_list_l, Nb.o_list_t, Nb.o_tup_l, Nb.o_tup_t, Nb.o_addL, Nb.o_addT, Nb.o_eq, Nb.o_ne, Nb.o_extL, Nb.o_extT, Nb.o_app, Nb.at0, Nb.ix_in, Nb.at1, Nb.at2, Nb.pick_in, Nb.o_ixL, Nb.o_ixT, Nb.o_ixLn, Nb.o_ixTn, Nb.pk0, Nb.pk1, Nb.pk2, Nb.o_eqi, Nb.o_eqb, Nb.o_nei, Nb.o_divmod, Nb.o_all, Nb.o_sum, Nb.v_exc, Nb.ex_x, Nb.fl_house, Nb.fl_nobody, Nb.fl_text, Nb.fl_open, Nb.fl_many, Nb.fl_most, Nb.v_throw, Nb.v_throwF1, Nb.v_throwF2, Nb.sm_log, Nb.v_try, Nb.tr_nx, Nb.tr_rt, Nb.tr_rtt, Nb.tr_rto, Nb.tr_c0, Nb.tr_c1, Nb.tr_c2, Nb.tr_c3, Nb.tr_c4, Nb.tr_c5, Nb.tr_c6, Nb.tr_c7, Nb.tr_c8, Nb.tr_c9, Nb.tr_c10, Nb.tr_c11, Nb.v_putX, Nb.px_no, Nb.px_v, Nb.ox_nx, Nb.ox_rt, Nb.ox_rto, Nb.v_endX, Nb.en_x, Nb.cl_nil, Nb.cl_cons, Nb.cl_no, Nb.cl_v, Nb.cl_oo, Nb.cl_ioo, Nb.cl_x, Nb.io_x, Nb.vs_x, Nb.xs_x, Nb.fs_ex, Nb.lo_ex, Nb.ce_x, Nb.sl_x, Nb.pb_x, Nb.v_m2T, Nb.kd_l, Nb.kd_t, Nb.me_1, Nb.me_2, Nb.me_3, Nb.o_revL, Nb.o_revT, Nb.o_lr1, Nb.o_tr1, Nb.o_eqs, Nb.o_nes, R.elim_ok, R.elim_ex, R.elim_bad, Out.next_nx, Option.bind_some, Option.map_some, Option.bind_none, Option.map_none, List.cons_append, List.nil_append, List.replicate_succ, List.replicate_zero, Nat.reduceSub, Nat.reduceAdd, if_true, if_false, Bool.not_true, Bool.not_false, Bool.false_eq_true, List.length_cons, List.length_nil, List.append_nil, Int.reduceToNat, List.set_cons_zero, List.set_cons_succ, decide_true, decide_false, Int.reduceEq, Int.reduceLT, Int.reduceLE, List.nodup_nil, Nb.rb_n2, Nb.rb_p2, Nb.rb_n1, Nb.rb_p1, and_self, and_true, true_and, and_false, false_and, not_true_eq_false, not_false_eq_true, Nb.nd1, Nb.nd2, Nb.nd3, Nb.k_int, Nb.k_bool, Nb.k_tuple, Nb.k_list, Nb.k_str, Nb.cast_lit, Nb.o_inI, Nb.o_inIT, Nb.o_sortU, Nb.o_sorted, Nb.o_sortT, Nb.o_neL0, Nb.o_neb, Nb.o_eqT0, Nb.o_pop, Nb.hasK_T, Nb.o_sumT, Nb.o_sumL, Nb.pick_ints, Nb.pick_rows, Nb.o_eqT, Nb.o_neT, Nb.o_eqL, Nb.o_neL, Nb.o_eqR, Nb.o_neR, Nb.all_map', Int.reduceNeg, Nb.o_cntT, Nb.o_cntL, Nb.ints_rev, Bool.false_bne, Bool.true_bne, Bool.and_self, Bool.or_self, Bool.true_and, Bool.and_true, Bool.false_and, Bool.and_false, Bool.true_or, Bool.or_true, Bool.false_or, Bool.or_false]
  rw [cut_to (ds := as.map PyData.int) (k := (k : Int)) (by omega) (by rw [List.length_map]; omega), cut_from (ds := as.map PyData.int) (k := (k : Int) + 1) (by omega) (by rw [List.length_map]; omega)]
  rw [ht, show ((k : Int) + 1).toNat = k + 1 by omega, take_set_drop (by rw [List.length_map]; omega), ints_set]
  rfl
theorem needstate_ok {hs : List (List Int)} {as : List Int} (h : ArrOk hs as) (hl : hs.length ≤ 1000) {k : Int} (h0 : 0 ≤ k) (h1 : k < hs.length) : d7 [.v (housD hs), .v (tupI as), .v (.int k)] = .ok .none [.no, .no, .no] := by
  unfold d7
  simp -implicitDefEqProofs (maxSteps := 4000000) (disch := first | with_unfolding_all rfl | omega | (simp only [List.length_append, List.length_cons, List.length_nil, List.length_map, List.length_replicate, List.length_take, List.length_drop]; omega)) only [checkarr_d (hs := hs) (d := tupI as) hl (arrB_iff.mpr ⟨as, rfl, h⟩), checkroom_ok h0 h1, Nb.v_zipM, Nb.zm_ll, Nb.zm_lt, Nb.zm_tl, Nb.zm_tt, Nb.fp_ok, Nb.fp_okt, Nb.fp_ex, Nb.v_mFP, Nb.v_tupP, Nb.tp_f, Nb.tp_s, Nb.tp_d, Nb.v_pairD, Nb.oa_o, Nb.oa_v, Nb.v_retP, Nb.rp_d, Nb.rp_t, Nb.v_unpP, Nb.up_d, Nb.up_t, Nb.v_putO, Nb.po_n, Nb.po_v, Nb.po_o, Nb.v_parO, Nb.pr_ff, Nb.v_mLcO, Nb.la_o, Nb.la_v, Nb.nn_n, Nb.v_ix1P, Nb.i1_t, Nb.i1_d, Nb.kO_t, Nb.v_inN, Nb.v_ixN, Nb.v_setN, Nb.is_n, Nb.nio_no, Nb.nio_v, Nb.nio_n, Nb.v_putN, Nb.oe_s, Nb.oe_n, Nb.v_c, Nb.v_var, Nb.vs_v, Nb.vs_o, Nb.vs_io, Nb.w_d, Nb.w_f, Nb.w_s, Nb.ws_o, Nb.ws_io, Nb.ws_v, Nb.cl_l, Nb.cl_d, Nb.a_d, Nb.a_f, Nb.a_s, Nb.as_o, Nb.as_v, Nb.as_nil, Nb.as_cons, Nb.v_m2, Nb.v_ap2, Nb.v_m1, Nb.v_ap1, Nb.v_set, Nb.sd_no, Nb.sd_v, Nb.sd_o, Nb.sf_no, Nb.sf_v, Nb.sf_o, Nb.ss_no, Nb.ss_v, Nb.ss_oo, Nb.v_nil, Nb.v_cons, Nb.v_tup, Nb.v_lst, Nb.v_rep, Nb.w_nil, Nb.w_cons, Nb.v_mA, Nb.p_nil, Nb.p_t, Nb.p_f, Nb.x_d, Nb.x_f, Nb.x_s, Nb.xs_v, Nb.xs_o, Nb.xs_io, Nb.ce_nil, Nb.ce_v, Nb.ce_i, Nb.cs_o, Nb.cs_io, Nb.sl_nil, Nb.sl_v, Nb.sl_i, Nb.fo_ok, Nb.fo_okt, Nb.fo_oko, Nb.fo_ex, Nb.v_mF, Nb.pb_nil, Nb.pb_v, Nb.pb_i, Nb.ss_o, Nb.ss_io, Nb.b_b, Nb.v_toB, Nb.v_mTst, Nb.v_and, Nb.v_or, Nb.v_not, Nb.v_if, Nb.v_andV, Nb.v_orV, Nb.v_notV, Nb.v_m3, Nb.v_inR, Nb.v_part0, Nb.i_i, Nb.v_part1, Nb.v_sl, Nb.v_dc0, Nb.v_dc1, Nb.v_seq, Nb.n_rt, Nb.n_rtt, Nb.n_rto, Nb.n_bk, Nb.n_ct, Nb.n_ex, Nb.n_bad, Nb.v_nop, Nb.v_brk, Nb.v_cnt, Nb.v_expr, Nb.v_ifS, Nb.v_ret, Nb.v_retN, Nb.r_d, Nb.r_f, Nb.r_s, Nb.rs_o, Nb.rs_v, Nb.v_asg, Nb.t_nm, Nb.t_nil, Nb.t_cons, Nb.t_tp, Nb.ps_2, Nb.v_par, Nb.v_for, Nb.v_items, Nb.it_l, Nb.it_t, Nb.v_src, Nb.rg1, Nb.rg2, Nb.v_enum, Nb.eo_1, Nb.v_zip, Nb.v_zipD, Nb.zo_l, Nb.zo_t, Nb.v_mut, Nb.il_o, Nb.il_io, Nb.v_apMut, Nb.mu_o, Nb.mu_io, Nb.v_gPut, Nb.pu_o, Nb.pu_io, Nb.v_augS, Nb.id_i, Nb.cl_o, Nb.cl_io, Nb.v_dict, Nb.ky_i, Nb.ky_s, Nb.v_keys, Nb.ko_f, Nb.v_gPutA, Nb.pd_o, Nb.ic_o, Nb.ic_io, Nb.v_mLc, Nb.wi_nil, Nb.wi_cons, Nb.wp_no, Nb.wp_v, Nb.re_nil, Nb.re_cons, Nb.rt_nn, Nb.rt_vn, Nb.rt_nv, Nb.rt_vv, Nb.f1, Nb.f2, Nb.f3, Nb.f4, Nb.f5, Nb.fs_nx, Nb.fs_rt, Nb.fs_rtt, Nb.fs_rto, Nb.ou_0, Nb.ou_s, Nb.io_no, Nb.io_v, Nb.io_o, Nb.io_io, Nb.g0, Nb.g1, Nb.s0, Nb.s1, Nb.ln_le, Nb.ln_lt, Nb.o_add, Nb.o_sub, Nb.o_mulr, Nb.o_mull, Nb.o_fdiv, Nb.o_mod, Nb.o_neg, Nb.o_cmp, Nb.o_max2, Nb.o_min2, Nb.o_int_b, Nb.o_lenL, Nb.o_lenT, Nb.o_pow, Nb.o_slL, Nb.o_slT, Nb.o_repT, Nb.v_apR, Nb.o_inD, Nb.o_inL, Nb.o_inT, Nb.o_list_l, Nb.o_list_t, Nb.o_tup_l, Nb.o_tup_t, Nb.o_addL, Nb.o_addT, Nb.o_eq, Nb.o_ne, Nb.o_extL, Nb.o_extT, Nb.o_app, Nb.at0, Nb.ix_in, Nb.at1, Nb.at2, Nb.pick_in, Nb.o_ixL, Nb.o_ixT, Nb.o_ixLn, Nb.o_ixTn, Nb.pk0, Nb.pk1, Nb.pk2, Nb.o_eqi, Nb.o_eqb, Nb.o_nei, Nb.o_divmod, Nb.o_all, Nb.o_sum, Nb.v_exc, Nb.ex_x, Nb.fl_house, Nb.fl_nobody, Nb.fl_text, Nb.fl_open, Nb.fl_many, Nb.fl_most, Nb.v_throw, Nb.v_throwF1, Nb.v_throwF2, Nb.sm_log, Nb.v_try, Nb.tr_nx, Nb.tr_rt, Nb.tr_rtt, Nb.tr_rto, Nb.tr_c0, Nb.tr_c1, Nb.tr_c2, Nb.tr_c3, Nb.tr_c4, Nb.tr_c5, Nb.tr_c6, Nb.tr_c7, Nb.tr_c8, Nb.tr_c9, Nb.tr_c10, Nb.tr_c11, Nb.v_putX, Nb.px_no, Nb.px_v, Nb.ox_nx, Nb.ox_rt, Nb.ox_rto, Nb.v_endX, Nb.en_x, Nb.cl_nil, Nb.cl_cons, Nb.cl_no, Nb.cl_v, Nb.cl_oo, Nb.cl_ioo, Nb.cl_x, Nb.io_x, Nb.vs_x, Nb.xs_x, Nb.fs_ex, Nb.lo_ex, Nb.ce_x, Nb.sl_x, Nb.pb_x, Nb.v_m2T, Nb.kd_l, Nb.kd_t, Nb.me_1, Nb.me_2, Nb.me_3, Nb.o_revL, Nb.o_revT, Nb.o_lr1, Nb.o_tr1, Nb.o_eqs, Nb.o_nes, R.elim_ok, R.elim_ex, R.elim_bad, Out.next_nx, Option.bind_some, Option.map_some, Option.bind_none, Option.map_none, List.cons_append, List.nil_append, List.replicate_succ, List.replicate_zero, Nat.reduceSub, Nat.reduceAdd, if_true, if_false, Bool.not_true, Bool.not_false, Bool.false_eq_true, List.length_cons, List.length_nil, List.append_nil, Int.reduceToNat, List.set_cons_zero, List.set_cons_succ, decide_true, decide_false, Int.reduceEq, Int.reduceLT, Int.reduceLE, List.nodup_nil, Nb.rb_n2, Nb.rb_p2, Nb.rb_n1, Nb.rb_p1, and_self, and_true, true_and, and_false, false_and, not_true_eq_false, not_false_eq_true, Nb.nd1, Nb.nd2, Nb.nd3, Nb.k_int, Nb.k_bool, Nb.k_tuple, Nb.k_list, Nb.k_str, Nb.cast_lit, Nb.o_inI, Nb.o_inIT, Nb.o_sortU, Nb.o_sorted, Nb.o_sortT, Nb.o_neL0, Nb.o_neb, Nb.o_eqT0, Nb.o_pop, Nb.hasK_T, Nb.o_sumT, Nb.o_sumL, Nb.pick_ints, Nb.pick_rows, Nb.o_eqT, Nb.o_neT, Nb.o_eqL, Nb.o_neL, Nb.o_eqR, Nb.o_neR, Nb.all_map', Int.reduceNeg, Nb.o_cntT, Nb.o_cntL, Nb.ints_rev, Bool.false_bne, Bool.true_bne, Bool.and_self, Bool.or_self, Bool.true_and, Bool.and_true, Bool.false_and, Bool.and_false, Bool.true_or, Bool.or_true, Bool.false_or, Bool.or_false]
/-! rounds of a shut house -/
def Shut (hs : List (List Int)) : Prop := ∀ k, k < hs.length → ∀ x ∈ hs.getD k [], 0 ≤ x
theorem wS_shut {hs : List (List Int)} {as : List Int} {most doors : Nat} {r : Int} (hh : HouseOk hs most doors) (hS : Shut hs) (ha : ArrOk hs as) (r0 : 0 ≤ r) (r1 : r < hs.length) : ∀ t, ArrOk hs (wS hs as r t).1 ∧ 0 ≤ (wS hs as r t).2 ∧ (wS hs as r t).2 < hs.length ∧ wS hs as r (t + 1) = (lead hs (wS hs as r t).1 (wS hs as r t).2.toNat, shows hs (wS hs as r t).1 (wS hs as r t).2.toNat)
  | 0 => ⟨ha, r0, r1, wS_go (t := 0) r0⟩
  | t + 1 => by
    obtain ⟨a, b, c, e⟩ := wS_shut hh hS ha r0 r1 t
    have hk : (wS hs as r t).2.toNat < hs.length := by omega
    have hA : ArrOk hs (wS hs as r (t + 1)).1 := by rw [e]; exact lead_ok a hk
    have hB : 0 ≤ (wS hs as r (t + 1)).2 ∧ (wS hs as r (t + 1)).2 < hs.length := by
      rw [e]
      obtain ⟨a1, a2⟩ := a.arr _ hk
      refine ⟨hS _ hk _ (getD_mem (by omega)), (shows_in hh a hk).2⟩
    exact ⟨hA, hB.1, hB.2, wS_go hB.1⟩
/-- ahead of T no state comes twice, T is as m -/
def Rnd (f : Nat → List Int × Int) (T m : Nat) : Prop := m < T ∧ f T = f m ∧ ∀ i j, i < j → j < T → f i ≠ f j
theorem rnd_least {f : Nat → List Int × Int} : ∀ N, (∃ i j, i < j ∧ j ≤ N ∧ f i = f j) → ∃ T m, Rnd f T m ∧ T ≤ N := fun N => by
  induction N using Nat.strongRecOn with
  | ind N ih =>
    rintro ⟨i, j, hij, hj, e⟩
    cases Classical.em (∃ i' j', i' < j' ∧ j' < j ∧ f i' = f j') with
    | inl z =>
      obtain ⟨i', j', a, b, c⟩ := z
      obtain ⟨T, m, h, hT⟩ := ih j' (by omega) ⟨i', j', a, Nat.le_refl _, c⟩
      exact ⟨T, m, h, by omega⟩
    | inr z => exact ⟨j, i, ⟨hij, e.symm, fun i' j' a b c => z ⟨i', j', a, b, c⟩⟩, hj⟩
theorem Rnd.uniq {f : Nat → List Int × Int} {T m T' m' : Nat} (h : Rnd f T m) (h' : Rnd f T' m') : T = T' ∧ m = m' := by
  obtain ⟨a, b, c⟩ := h
  obtain ⟨a', b', c'⟩ := h'
  have hT : T = T' := by
    rcases Nat.lt_trichotomy T T' with q | q | q
    · exact absurd b.symm (c' m T a q)
    · exact q
    · exact absurd b'.symm (c m' T' a' q)
  subst hT
  refine ⟨rfl, ?_⟩
  have e : f m = f m' := b.symm.trans b'
  rcases Nat.lt_trichotomy m m' with q | q | q
  · exact absurd e (c m m' q a')
  · exact q
  · exact absurd e.symm (c m' m q a)
def codeB (b : Int) : List Int → Int
  | [] => 0
  | a :: as => a + b * codeB b as
theorem codeB_in {b : Int} : ∀ {as : List Int}, (∀ x ∈ as, 0 ≤ x ∧ x < b) → 0 ≤ codeB b as ∧ codeB b as < b ^ as.length
  | [], _ => ⟨Int.le_refl _, by simp [codeB]⟩
  | a :: as, h => by
    obtain ⟨h1, h2⟩ := codeB_in (as := as) fun x hx => h x (List.mem_cons_of_mem _ hx)
    have ha := h a (List.mem_cons_self ..)
    show 0 ≤ a + b * codeB b as ∧ a + b * codeB b as < b ^ (as.length + 1)
    have h3 : 0 ≤ b * codeB b as := Int.mul_nonneg (by omega) h1
    have h4 : b * codeB b as + b ≤ b ^ as.length * b := by
      have : b * (codeB b as + 1) ≤ b * b ^ as.length := Int.mul_le_mul_of_nonneg_left (by omega) (by omega)
      rw [Int.mul_add, Int.mul_one] at this
      rw [Int.mul_comm (b ^ as.length)]
      exact this
    rw [Int.pow_succ]
    omega
theorem codeB_inj {b : Int} : ∀ {as bs : List Int}, as.length = bs.length → (∀ x ∈ as, 0 ≤ x ∧ x < b) → (∀ x ∈ bs, 0 ≤ x ∧ x < b) → codeB b as = codeB b bs → as = bs
  | [], [], _, _, _, _ => rfl
  | [], _ :: _, h, _, _, _ => by cases h
  | _ :: _, [], h, _, _, _ => by cases h
  | a :: as, c :: bs, h, ha, hb, e => by
    have h1 := ha a (List.mem_cons_self ..)
    have h2 := hb c (List.mem_cons_self ..)
    have e' : a + b * codeB b as = c + b * codeB b bs := e
    have h3 : a = c := by
      have x := congrArg (· % b) e'
      simp only [Int.add_mul_emod_self_left] at x
      rw [Int.emod_eq_of_lt h1.1 h1.2, Int.emod_eq_of_lt h2.1 h2.2] at x
      exact x
    have h4 : codeB b as = codeB b bs := by
      have : b * codeB b as = b * codeB b bs := by omega
      exact Int.eq_of_mul_eq_mul_left (by omega) this
    rw [h3, codeB_inj (by simpa using h) (fun x hx => ha x (List.mem_cons_of_mem _ hx)) (fun x hx => hb x (List.mem_cons_of_mem _ hx)) h4]
theorem arr_lt {hs : List (List Int)} {as : List Int} {most doors : Nat} (hh : HouseOk hs most doors) (ha : ArrOk hs as) : ∀ x ∈ as, 0 ≤ x ∧ x < (doors : Int) := fun x hx => by
  obtain ⟨i, hi⟩ := List.mem_iff_getElem?.mp hx
  have hil := (List.getElem?_eq_some_iff.mp hi).1
  obtain ⟨a, b⟩ := ha.arr i (by rw [← ha.len]; exact hil)
  obtain ⟨_, r2, _⟩ := hh.at (k := i) (by rw [← ha.len]; exact hil)
  rw [List.getD_eq_getElem?_getD, hi] at a b
  simp only [Option.getD_some] at a b
  omega
theorem rnd_ex {hs : List (List Int)} {as : List Int} {most doors : Nat} {r : Int} (hh : HouseOk hs most doors) (hS : Shut hs) (ha : ArrOk hs as) (r0 : 0 ≤ r) (r1 : r < hs.length) : ∃ T m, Rnd (wS hs as r) T m ∧ T ≤ hs.length * doors ^ hs.length := by
  refine rnd_least _ ?_
  cases Classical.em (∃ i j, i < j ∧ j ≤ hs.length * doors ^ hs.length ∧ wS hs as r i = wS hs as r j) with
  | inl z => exact z
  | inr z =>
    exfalso
    have hc : ∀ t, 0 ≤ codeB doors (wS hs as r t).1 ∧ codeB doors (wS hs as r t).1 < (doors : Int) ^ hs.length := fun t => by
      obtain ⟨a, _, _, _⟩ := wS_shut hh hS ha r0 r1 t
      have := codeB_in (b := (doors : Int)) (arr_lt hh a)
      rw [a.len] at this
      exact this
    have hn : ((List.range (hs.length * doors ^ hs.length + 1)).map fun t => (wS hs as r t).2 + hs.length * codeB doors (wS hs as r t).1).Nodup := by
      have hp : (List.range (hs.length * doors ^ hs.length + 1)).Pairwise fun a b => a < b ∧ b < hs.length * doors ^ hs.length + 1 := by
        refine List.Pairwise.imp_of_mem (R := fun a b => a < b) ?_ List.pairwise_lt_range
        intro a b _ hb h
        exact ⟨h, List.mem_range.mp hb⟩
      refine List.pairwise_map.mpr (hp.imp fun {a b} hab e => ?_)
      obtain ⟨x1, x2, x3, _⟩ := wS_shut hh hS ha r0 r1 a
      obtain ⟨y1, y2, y3, _⟩ := wS_shut hh hS ha r0 r1 b
      have h2 : (wS hs as r a).2 = (wS hs as r b).2 := by
        have x := congrArg (· % (hs.length : Int)) e
        simp only [Int.add_mul_emod_self_left] at x
        rw [Int.emod_eq_of_lt x2 x3, Int.emod_eq_of_lt y2 y3] at x
        exact x
      have h1 : codeB doors (wS hs as r a).1 = codeB doors (wS hs as r b).1 := by
        have : (hs.length : Int) * codeB doors (wS hs as r a).1 = hs.length * codeB doors (wS hs as r b).1 := by omega
        exact Int.eq_of_mul_eq_mul_left (by omega) this
      have h3 := codeB_inj (by rw [x1.len, y1.len]) (arr_lt hh x1) (arr_lt hh y1) h1
      exact z ⟨a, b, hab.1, by omega, Prod.ext h3 h2⟩
    have := nodup_int (lo := 0) (N := hs.length * doors ^ hs.length) hn fun x hx => by
      obtain ⟨t, _, rfl⟩ := List.mem_map.mp hx
      obtain ⟨x1, x2, x3, _⟩ := wS_shut hh hS ha r0 r1 t
      obtain ⟨c1, c2⟩ := hc t
      have m1 : 0 ≤ (hs.length : Int) * codeB doors (wS hs as r t).1 := Int.mul_nonneg (by omega) c1
      have m2 : (hs.length : Int) * codeB doors (wS hs as r t).1 + hs.length ≤ hs.length * (doors : Int) ^ hs.length := by
        have : (hs.length : Int) * (codeB doors (wS hs as r t).1 + 1) ≤ hs.length * (doors : Int) ^ hs.length := Int.mul_le_mul_of_nonneg_left (by omega) (by omega)
        rw [Int.mul_add, Int.mul_one] at this
        exact this
      have e : ((hs.length * doors ^ hs.length : Nat) : Int) = hs.length * (doors : Int) ^ hs.length := by simp
      omega
    rw [List.length_map, List.length_range] at this
    omega
/-- what has been seen -/
def seenL (f : Nat → List Int × Int) (m : Nat) : List ((List Int × Int) × Int) := (List.range m).map fun t => (f t, (t : Int))
theorem seenL_succ {f : Nat → List Int × Int} {m : Nat} : seenL f (m + 1) = seenL f m ++ [(f m, (m : Int))] := by
  unfold seenL
  rw [List.range_succ, List.map_append]
  rfl
theorem seenL_len {f : Nat → List Int × Int} {m : Nat} : (seenL f m).length = m := by simp [seenL]
theorem valN_app {a b : List ((List Int × Int) × Int)} {k : List Int × Int} : valN (a ++ b) k = (valN a k).or (valN b k) := by
  induction a with
  | nil => rfl
  | cons p a ih =>
    rw [List.cons_append, valN_cons, valN_cons]
    split
    · rfl
    · exact ih
theorem seen_no {f : Nat → List Int × Int} {T m : Nat} (h : Rnd f T m) : ∀ j, j < T → valN (seenL f j) (f j) = none := fun j hj => by
  have key : ∀ i, i ≤ j → valN (seenL f i) (f j) = none := fun i => by
    induction i with
    | zero => intro _; rfl
    | succ i ih =>
      intro hi
      rw [seenL_succ, valN_app, ih (by omega), valN_cons, if_neg (h.2.2 i j (by omega) hj)]
      rfl
  exact key j (Nat.le_refl _)
theorem seen_yes {f : Nat → List Int × Int} {T m : Nat} (h : Rnd f T m) : valN (seenL f T) (f T) = some (m : Int) := by
  obtain ⟨a, b, c⟩ := h
  have key : ∀ i, i ≤ T → valN (seenL f i) (f T) = if m < i then some (m : Int) else none := fun i => by
    induction i with
    | zero => intro _; rfl
    | succ i ih =>
      intro hi
      rw [seenL_succ, valN_app, ih (by omega), valN_cons]
      by_cases q : m < i
      · rw [if_pos q, if_pos (show m < i + 1 by omega)]; rfl
      · rw [if_neg q]
        by_cases q2 : i = m
        · subst q2
          rw [if_pos (show (f i, (i : Int)).1 = f T from b.symm), if_pos (show i < i + 1 by omega)]; rfl
        · rw [if_neg (show ¬ m < i + 1 by omega), if_neg (show ¬ (f i, (i : Int)).1 = f T from fun z => by
            rw [b] at z
            exact c i m (by omega) a z)]
          rfl
  rw [key T (Nat.le_refl _), if_pos a]
theorem putN_ok {k : Nat} {env : Ev} {as : List Int} {r n : Int} {kns : List ((List Int × Int) × Int)} (h : isN env[k]? = some kns) (hv : valN kns (as, r) = none) (hl : kns.length < line) : putN k (.tuple [.tuple (as.map PyData.int), .int r]) (.int n) env = some (env.set k (.n (kns ++ [((as, r), n)]))) := by
  unfold putN
  rw [kO_t, h]
  exact if_pos ⟨hv, hl⟩
end Nb
namespace Nb
open L2 PySem PySem.Spec PyProof.Rows
theorem shut_all {hs : List (List Int)} {most doors : Nat} (hh : HouseOk hs most doors) (hS : Shut hs) : (hs.all fun r => decide (0 ≤ mn r)) = true := by
  rw [List.all_eq_true]
  intro r hr
  obtain ⟨i, hi⟩ := List.mem_iff_getElem?.mp hr
  have hil := (List.getElem?_eq_some_iff.mp hi).1
  have hl := (hh.room r hr).1
  have hx : ∀ x ∈ r, 0 ≤ x := fun x hx => hS i hil x (by rw [List.getD_eq_getElem?_getD, hi]; exact hx)
  exact decide_eq_true (hx _ (List.min?_mem (mn_some hl)))
theorem needround_ok {hs : List (List Int)} {as : List Int} {most doors : Nat} (hh : HouseOk hs most doors) (hm : most ≤ 900) (hS : Shut hs) (ha : ArrOk hs as) {k : Int} (h0 : 0 ≤ k) (h1 : k < hs.length) : d8 [.v (housD hs), .v (tupI as), .v (.int k)] = .ok .none [.no, .no, .no] := by
  have hmost := hh.most
  have e := isshut_ok hh hm
  rw [shut_all hh hS] at e
  unfold d8
  simp -implicitDefEqProofs (maxSteps := 4000000) (disch := first | with_unfolding_all rfl | omega | (simp only [List.length_append, List.length_cons, List.length_nil, List.length_map, List.length_replicate, List.length_take, List.length_drop]; omega)) only [needstate_ok ha (by omega) h0 h1, e, Nb.v_zipM, Nb.zm_ll, Nb.zm_lt, Nb.zm_tl, Nb.zm_tt, Nb.fp_ok, Nb.fp_okt, Nb.fp_ex, Nb.v_mFP, Nb.v_tupP, Nb.tp_f, Nb.tp_s, Nb.tp_d, Nb.v_pairD, Nb.oa_o, Nb.oa_v, Nb.v_retP, Nb.rp_d, Nb.rp_t, Nb.v_unpP, Nb.up_d, Nb.up_t, Nb.v_putO, Nb.po_n, Nb.po_v, Nb.po_o, Nb.v_parO, Nb.pr_ff, Nb.v_mLcO, Nb.la_o, Nb.la_v, Nb.nn_n, Nb.v_ix1P, Nb.i1_t, Nb.i1_d, Nb.kO_t, Nb.v_inN, Nb.v_ixN, Nb.v_setN, Nb.is_n, Nb.nio_no, Nb.nio_v, Nb.nio_n, Nb.v_putN, Nb.oe_s, Nb.oe_n, Nb.v_c, Nb.v_var, Nb.vs_v, Nb.vs_o, Nb.vs_io, Nb.w_d, Nb.w_f, Nb.w_s, Nb.ws_o, Nb.ws_io, Nb.ws_v, Nb.cl_l, Nb.cl_d, Nb.a_d, Nb.a_f, Nb.a_s, Nb.as_o, Nb.as_v, Nb.as_nil, Nb.as_cons, Nb.v_m2, Nb.v_ap2, Nb.v_m1, Nb.v_ap1, Nb.v_set, Nb.sd_no, Nb.sd_v, Nb.sd_o, Nb.sf_no, Nb.sf_v, Nb.sf_o, Nb.ss_no, Nb.ss_v, Nb.ss_oo, Nb.v_nil, Nb.v_cons, Nb.v_tup, Nb.v_lst, Nb.v_rep, Nb.w_nil, Nb.w_cons, Nb.v_mA, Nb.p_nil, Nb.p_t, Nb.p_f, Nb.x_d, Nb.x_f, Nb.x_s, Nb.xs_v, Nb.xs_o, Nb.xs_io, Nb.ce_nil, Nb.ce_v, Nb.ce_i, Nb.cs_o, Nb.cs_io, Nb.sl_nil, Nb.sl_v, Nb.sl_i, Nb.fo_ok, Nb.fo_okt, Nb.fo_oko, Nb.fo_ex, Nb.v_mF, Nb.pb_nil, Nb.pb_v, Nb.pb_i, Nb.ss_o, Nb.ss_io, Nb.b_b, Nb.v_toB, Nb.v_mTst, Nb.v_and, Nb.v_or, Nb.v_not, Nb.v_if, Nb.v_andV, Nb.v_orV, Nb.v_notV, Nb.v_m3, Nb.v_inR, Nb.v_part0, Nb.i_i, Nb.v_part1, Nb.v_sl, Nb.v_dc0, Nb.v_dc1, Nb.v_seq, Nb.n_rt, Nb.n_rtt, Nb.n_rto, Nb.n_bk, Nb.n_ct, Nb.n_ex, Nb.n_bad, Nb.v_nop, Nb.v_brk, Nb.v_cnt, Nb.v_expr, Nb.v_ifS, Nb.v_ret, Nb.v_retN, Nb.r_d, Nb.r_f, Nb.r_s, Nb.rs_o, Nb.rs_v, Nb.v_asg, Nb.t_nm, Nb.t_nil, Nb.t_cons, Nb.t_tp, Nb.ps_2, Nb.v_par, Nb.v_for, Nb.v_items, Nb.it_l, Nb.it_t, Nb.v_src, Nb.rg1, Nb.rg2, Nb.v_enum, Nb.eo_1, Nb.v_zip, Nb.v_zipD, Nb.zo_l, Nb.zo_t, Nb.v_mut, Nb.il_o, Nb.il_io, Nb.v_apMut, Nb.mu_o, Nb.mu_io, Nb.v_gPut, Nb.pu_o, Nb.pu_io, Nb.v_augS, Nb.id_i, Nb.cl_o, Nb.cl_io, Nb.v_dict, Nb.ky_i, Nb.ky_s, Nb.v_keys, Nb.ko_f, Nb.v_gPutA, Nb.pd_o, Nb.ic_o, Nb.ic_io, Nb.v_mLc, Nb.wi_nil, Nb.wi_cons, Nb.wp_no, Nb.wp_v, Nb.re_nil, Nb.re_cons, Nb.rt_nn, Nb.rt_vn, Nb.rt_nv, Nb.rt_vv, Nb.f1, Nb.f2, Nb.f3, Nb.f4, Nb.f5, Nb.fs_nx, Nb.fs_rt, Nb.fs_rtt, Nb.fs_rto, Nb.ou_0, Nb.ou_s, Nb.io_no, Nb.io_v, Nb.io_o, Nb.io_io, Nb.g0, Nb.g1, Nb.s0, Nb.s1, Nb.ln_le, Nb.ln_lt, Nb.o_add, Nb.o_sub, Nb.o_mulr, Nb.o_mull, Nb.o_fdiv, Nb.o_mod, Nb.o_neg, Nb.o_cmp, Nb.o_max2, Nb.o_min2, Nb.o_int_b, Nb.o_lenL, Nb.o_lenT, Nb.o_pow, Nb.o_slL, Nb.o_slT, Nb.o_repT, Nb.v_apR, Nb.o_inD, Nb.o_inL, Nb.o_inT, Nb.o_list_l, Nb.o_list_t, Nb.o_tup_l, Nb.o_tup_t, Nb.o_addL, Nb.o_addT, Nb.o_eq, Nb.o_ne, Nb.o_extL, Nb.o_extT, Nb.o_app, Nb.at0, Nb.ix_in, Nb.at1, Nb.at2, Nb.pick_in, Nb.o_ixL, Nb.o_ixT, Nb.o_ixLn, Nb.o_ixTn, Nb.pk0, Nb.pk1, Nb.pk2, Nb.o_eqi, Nb.o_eqb, Nb.o_nei, Nb.o_divmod, Nb.o_all, Nb.o_sum, Nb.v_exc, Nb.ex_x, Nb.fl_house, Nb.fl_nobody, Nb.fl_text, Nb.fl_open, Nb.fl_many, Nb.fl_most, Nb.v_throw, Nb.v_throwF1, Nb.v_throwF2, Nb.sm_log, Nb.v_try, Nb.tr_nx, Nb.tr_rt, Nb.tr_rtt, Nb.tr_rto, Nb.tr_c0, Nb.tr_c1, Nb.tr_c2, Nb.tr_c3, Nb.tr_c4, Nb.tr_c5, Nb.tr_c6, Nb.tr_c7, Nb.tr_c8, Nb.tr_c9, Nb.tr_c10, Nb.tr_c11, Nb.v_putX, Nb.px_no, Nb.px_v, Nb.ox_nx, Nb.ox_rt, Nb.ox_rto, Nb.v_endX, Nb.en_x, Nb.cl_nil, Nb.cl_cons, Nb.cl_no, Nb.cl_v, Nb.cl_oo, Nb.cl_ioo, Nb.cl_x, Nb.io_x, Nb.vs_x, Nb.xs_x, Nb.fs_ex, Nb.lo_ex, Nb.ce_x, Nb.sl_x, Nb.pb_x, Nb.v_m2T, Nb.kd_l, Nb.kd_t, Nb.me_1, Nb.me_2, Nb.me_3, Nb.o_revL, Nb.o_revT, Nb.o_lr1, Nb.o_tr1, Nb.o_eqs, Nb.o_nes, R.elim_ok, R.elim_ex, R.elim_bad, Out.next_nx, Option.bind_some, Option.map_some, Option.bind_none, Option.map_none, List.cons_append, List.nil_append, List.replicate_succ, List.replicate_zero, Nat.reduceSub, Nat.reduceAdd, if_true, if_false, Bool.not_true, Bool.not_false, Bool.false_eq_true, List.length_cons, List.length_nil, List.append_nil, Int.reduceToNat, List.set_cons_zero, List.set_cons_succ, decide_true, decide_false, Int.reduceEq, Int.reduceLT, Int.reduceLE, List.nodup_nil, Nb.rb_n2, Nb.rb_p2, Nb.rb_n1, Nb.rb_p1, and_self, and_true, true_and, and_false, false_and, not_true_eq_false, not_false_eq_true, Nb.nd1, Nb.nd2, Nb.nd3, Nb.k_int, Nb.k_bool, Nb.k_tuple, Nb.k_list, Nb.k_str, Nb.cast_lit, Nb.o_inI, Nb.o_inIT, Nb.o_sortU, Nb.o_sorted, Nb.o_sortT, Nb.o_neL0, Nb.o_neb, Nb.o_eqT0, Nb.o_pop, Nb.hasK_T, Nb.o_sumT, Nb.o_sumL, Nb.pick_ints, Nb.pick_rows, Nb.o_eqT, Nb.o_neT, Nb.o_eqL, Nb.o_neL, Nb.o_eqR, Nb.o_neR, Nb.all_map', Int.reduceNeg, Nb.o_cntT, Nb.o_cntL, Nb.ints_rev, Bool.false_bne, Bool.true_bne, Bool.and_self, Bool.or_self, Bool.true_and, Bool.and_true, Bool.false_and, Bool.and_false, Bool.true_or, Bool.or_true, Bool.false_or, Bool.or_false]
theorem roundof_ok {hs : List (List Int)} {as : List Int} {most doors T m : Nat} (hh : HouseOk hs most doors) (hm : most ≤ 900) (hS : Shut hs) (ha : ArrOk hs as) {k : Int} (h0 : 0 ≤ k) (h1 : k < hs.length) (hR : Rnd (wS hs as k) T m) (hT : T ≤ 1000000) : d9 [.v (housD hs), .v (tupI as), .v (.int k)] = .ok (.tuple [.int m, .int ((T : Int) - m)]) [.no, .no, .no] := by
  have hmost := hh.most
  have e0 := needround_ok hh hm hS ha h0 h1
  obtain ⟨e', hw, rfl⟩ := while_inv (c := d9t0) (b := d9b0) (I := fun j env => ∃ t, t + j = T ∧ env = [.v (housD hs), .v (tupI (wS hs as k t).1), .v (.int (wS hs as k t).2), .n (seenL (wS hs as k) t), .v (.int t), .no]) (Z := fun env => env = [.v (housD hs), .v (tupI (wS hs as k T).1), .v (.int (wS hs as k T).2), .n (seenL (wS hs as k) T), .v (.int T), .no]) (fun j env ⟨t, ht, he⟩ => by
    subst he
    by_cases q : t = T
    · left
      subst q
      have hv := seen_yes hR
      refine ⟨_, ?_, rfl⟩
      generalize seenL (wS hs as k) t = sn at hv
      cases hw : wS hs as k t with
      | mk A p =>
        rw [hw] at hv
        simp -implicitDefEqProofs (maxSteps := 4000000) (disch := first | with_unfolding_all rfl | omega | (simp only [List.length_append, List.length_cons, List.length_nil, List.length_map, List.length_replicate, List.length_take, List.length_drop]; omega)) only [d9t0, hv, Option.isSome_some, Nb.v_zipM, Nb.zm_ll, Nb.zm_lt, Nb.zm_tl, Nb.zm_tt, Nb.fp_ok, Nb.fp_okt, Nb.fp_ex, Nb.v_mFP, Nb.v_tupP, Nb.tp_f, Nb.tp_s, Nb.tp_d, Nb.v_pairD, Nb.oa_o, Nb.oa_v, Nb.v_retP, Nb.rp_d, Nb.rp_t, Nb.v_unpP, Nb.up_d, Nb.up_t, Nb.v_putO, Nb.po_n, Nb.po_v, Nb.po_o, Nb.v_parO, Nb.pr_ff, Nb.v_mLcO, Nb.la_o, Nb.la_v, Nb.nn_n, Nb.v_ix1P, Nb.i1_t, Nb.i1_d, Nb.kO_t, Nb.v_inN, Nb.v_ixN, Nb.v_setN, Nb.is_n, Nb.nio_no, Nb.nio_v, Nb.nio_n, Nb.v_putN, Nb.oe_s, Nb.oe_n, Nb.v_c, Nb.v_var, Nb.vs_v, Nb.vs_o, Nb.vs_io, Nb.w_d, Nb.w_f, Nb.w_s, Nb.ws_o, Nb.ws_io, Nb.ws_v, Nb.cl_l, Nb.cl_d, Nb.a_d, Nb.a_f, Nb.a_s, Nb.as_o, Nb.as_v, Nb.as_nil, Nb.as_cons, Nb.v_m2, Nb.v_ap2, Nb.v_m1, Nb.v_ap1, Nb.v_set, Nb.sd_no, Nb.sd_v, Nb.sd_o, Nb.sf_no, Nb.sf_v, Nb.sf_o, Nb.ss_no, Nb.ss_v, Nb.ss_oo, Nb.v_nil, Nb.v_cons, Nb.v_tup, Nb.v_lst, Nb.v_rep, Nb.w_nil, Nb.w_cons, Nb.v_mA, Nb.p_nil, Nb.p_t, Nb.p_f, Nb.x_d, Nb.x_f, Nb.x_s, Nb.xs_v, Nb.xs_o, Nb.xs_io, Nb.ce_nil, Nb.ce_v, Nb.ce_i, Nb.cs_o, Nb.cs_io, Nb.sl_nil, Nb.sl_v, Nb.sl_i, Nb.fo_ok, Nb.fo_okt, Nb.fo_oko, Nb.fo_ex, Nb.v_mF, Nb.pb_nil, Nb.pb_v, Nb.pb_i, Nb.ss_o, Nb.ss_io, Nb.b_b, Nb.v_toB, Nb.v_mTst, Nb.v_and, Nb.v_or, Nb.v_not, Nb.v_if, Nb.v_andV, Nb.v_orV, Nb.v_notV, Nb.v_m3, Nb.v_inR, Nb.v_part0, Nb.i_i, Nb.v_part1, Nb.v_sl, Nb.v_dc0, Nb.v_dc1, Nb.v_seq, Nb.n_rt, Nb.n_rtt, Nb.n_rto, Nb.n_bk, Nb.n_ct, Nb.n_ex, Nb.n_bad, Nb.v_nop, Nb.v_brk, Nb.v_cnt, Nb.v_expr, Nb.v_ifS, Nb.v_ret, Nb.v_retN, Nb.r_d, Nb.r_f, Nb.r_s, Nb.rs_o, Nb.rs_v, Nb.v_asg, Nb.t_nm, Nb.t_nil, Nb.t_cons, Nb.t_tp, Nb.ps_2, Nb.v_par, Nb.v_for, Nb.v_items, Nb.it_l, Nb.it_t, Nb.v_src, Nb.rg1, Nb.rg2, Nb.v_enum, Nb.eo_1, Nb.v_zip, Nb.v_zipD, Nb.zo_l, Nb.zo_t, Nb.v_mut, Nb.il_o, Nb.il_io, Nb.v_apMut, Nb.mu_o, Nb.mu_io, Nb.v_gPut, Nb.pu_o, Nb.pu_io, Nb.v_augS, Nb.id_i, Nb.cl_o, Nb.cl_io, Nb.v_dict, Nb.ky_i, Nb.ky_s, Nb.v_keys, Nb.ko_f, Nb.v_gPutA, Nb.pd_o, Nb.ic_o, Nb.ic_io, Nb.v_mLc, Nb.wi_nil, Nb.wi_cons, Nb.wp_no, Nb.wp_v, Nb.re_nil, Nb.re_cons, Nb.rt_nn, Nb.rt_vn, Nb.rt_nv, Nb.rt_vv, Nb.f1, Nb.f2, Nb.f3, Nb.f4, Nb.f5, Nb.fs_nx, Nb.fs_rt, Nb.fs_rtt, Nb.fs_rto, Nb.ou_0, Nb.ou_s, Nb.io_no, Nb.io_v, Nb.io_o, Nb.io_io, Nb.g0, Nb.g1, Nb.s0, Nb.s1, Nb.ln_le, Nb.ln_lt, Nb.o_add, Nb.o_sub, Nb.o_mulr, Nb.o_mull, Nb.o_fdiv, Nb.o_mod, Nb.o_neg, Nb.o_cmp, Nb.o_max2, Nb.o_min2, Nb.o_int_b, Nb.o_lenL, Nb.o_lenT, Nb.o_pow, Nb.o_slL, Nb.o_slT, Nb.o_repT, Nb.v_apR, Nb.o_inD, Nb.o_inL, Nb.o_inT, Nb.o_list_l, Nb.o_list_t, Nb.o_tup_l, Nb.o_tup_t, Nb.o_addL, Nb.o_addT, Nb.o_eq, Nb.o_ne, Nb.o_extL, Nb.o_extT, Nb.o_app, Nb.at0, Nb.ix_in, Nb.at1, Nb.at2, Nb.pick_in, Nb.o_ixL, Nb.o_ixT, Nb.o_ixLn, Nb.o_ixTn, Nb.pk0, Nb.pk1, Nb.pk2, Nb.o_eqi, Nb.o_eqb, Nb.o_nei, Nb.o_divmod, Nb.o_all, Nb.o_sum, Nb.v_exc, Nb.ex_x, Nb.fl_house, Nb.fl_nobody, Nb.fl_text, Nb.fl_open, Nb.fl_many, Nb.fl_most, Nb.v_throw, Nb.v_throwF1, Nb.v_throwF2, Nb.sm_log, Nb.v_try, Nb.tr_nx, Nb.tr_rt, Nb.tr_rtt, Nb.tr_rto, Nb.tr_c0, Nb.tr_c1, Nb.tr_c2, Nb.tr_c3, Nb.tr_c4, Nb.tr_c5, Nb.tr_c6, Nb.tr_c7, Nb.tr_c8, Nb.tr_c9, Nb.tr_c10, Nb.tr_c11, Nb.v_putX, Nb.px_no, Nb.px_v, Nb.ox_nx, Nb.ox_rt, Nb.ox_rto, Nb.v_endX, Nb.en_x, Nb.cl_nil, Nb.cl_cons, Nb.cl_no, Nb.cl_v, Nb.cl_oo, Nb.cl_ioo, Nb.cl_x, Nb.io_x, Nb.vs_x, Nb.xs_x, Nb.fs_ex, Nb.lo_ex, Nb.ce_x, Nb.sl_x, Nb.pb_x, Nb.v_m2T, Nb.kd_l, Nb.kd_t, Nb.me_1, Nb.me_2, Nb.me_3, Nb.o_revL, Nb.o_revT, Nb.o_lr1, Nb.o_tr1, Nb.o_eqs, Nb.o_nes, R.elim_ok, R.elim_ex, R.elim_bad, Out.next_nx, Option.bind_some, Option.map_some, Option.bind_none, Option.map_none, List.cons_append, List.nil_append, List.replicate_succ, List.replicate_zero, Nat.reduceSub, Nat.reduceAdd, if_true, if_false, Bool.not_true, Bool.not_false, Bool.false_eq_true, List.length_cons, List.length_nil, List.append_nil, Int.reduceToNat, List.set_cons_zero, List.set_cons_succ, decide_true, decide_false, Int.reduceEq, Int.reduceLT, Int.reduceLE, List.nodup_nil, Nb.rb_n2, Nb.rb_p2, Nb.rb_n1, Nb.rb_p1, and_self, and_true, true_and, and_false, false_and, not_true_eq_false, not_false_eq_true, Nb.nd1, Nb.nd2, Nb.nd3, Nb.k_int, Nb.k_bool, Nb.k_tuple, Nb.k_list, Nb.k_str, Nb.cast_lit, Nb.o_inI, Nb.o_inIT, Nb.o_sortU, Nb.o_sorted, Nb.o_sortT, Nb.o_neL0, Nb.o_neb, Nb.o_eqT0, Nb.o_pop, Nb.hasK_T, Nb.o_sumT, Nb.o_sumL, Nb.pick_ints, Nb.pick_rows, Nb.o_eqT, Nb.o_neT, Nb.o_eqL, Nb.o_neL, Nb.o_eqR, Nb.o_neR, Nb.all_map', Int.reduceNeg, Nb.o_cntT, Nb.o_cntL, Nb.ints_rev, Bool.false_bne, Bool.true_bne, Bool.and_self, Bool.or_self, Bool.true_and, Bool.and_true, Bool.false_and, Bool.and_false, Bool.true_or, Bool.or_true, Bool.false_or, Bool.or_false]
    · right
      have hv := seen_no hR t (by omega)
      obtain ⟨a1, a2, a3, a4⟩ := wS_shut hh hS ha h0 h1 t
      have hsl := seenL_succ (f := wS hs as k) (m := t)
      have hln := seenL_len (f := wS hs as k) (m := t)
      obtain ⟨r, hr⟩ : ∃ r : Nat, (wS hs as k t).2 = (r : Int) := ⟨(wS hs as k t).2.toNat, by omega⟩
      have e1 := stepped_ok hh (by omega) a1 (k := r) (by omega)
      rw [hr, Int.toNat_natCast] at a4
      have hst : wS hs as k t = ((wS hs as k t).1, (r : Int)) := Prod.ext rfl hr
      have hk4 : (wS hs as k (t + 1)).1 = lead hs (wS hs as k t).1 r := by rw [a4]
      have hk5 : (wS hs as k (t + 1)).2 = shows hs (wS hs as k t).1 r := by rw [a4]
      rw [hst] at hv hsl
      refine ⟨[.v (housD hs), .v (tupI (wS hs as k t).1), .v (.int r), .n (seenL (wS hs as k) t), .v (.int t), .no], [.v (housD hs), .v (tupI (lead hs (wS hs as k t).1 r)), .v (.int (shows hs (wS hs as k t).1 r)), .n (seenL (wS hs as k) t ++ [(((wS hs as k t).1, (r : Int)), (t : Int))]), .v (.int ((t : Int) + 1)), .no], j - 1, ?_, .inl ?_, by omega, t + 1, by omega, ?_⟩
      rotate_left 2
      · rw [hk4, hk5, hsl]
        rfl
      · rw [hr]
        generalize (wS hs as k t).1 = A at hv
        generalize seenL (wS hs as k) t = sn at hv
        simp -implicitDefEqProofs (maxSteps := 4000000) (disch := first | with_unfolding_all rfl | omega | (simp only [List.length_append, List.length_cons, List.length_nil, List.length_map, List.length_replicate, List.length_take, List.length_drop]; omega)) only [d9t0, hv, Option.isSome_none, Nb.v_zipM, Nb.zm_ll, Nb.zm_lt, Nb.zm_tl, Nb.zm_tt, Nb.fp_ok, Nb.fp_okt, Nb.fp_ex, Nb.v_mFP, Nb.v_tupP, Nb.tp_f, Nb.tp_s, Nb.tp_d, Nb.v_pairD, Nb.oa_o, Nb.oa_v, Nb.v_retP, Nb.rp_d, Nb.rp_t, Nb.v_unpP, Nb.up_d, Nb.up_t, Nb.v_putO, Nb.po_n, Nb.po_v, Nb.po_o, Nb.v_parO, Nb.pr_ff, Nb.v_mLcO, Nb.la_o, Nb.la_v, Nb.nn_n, Nb.v_ix1P, Nb.i1_t, Nb.i1_d, Nb.kO_t, Nb.v_inN, Nb.v_ixN, Nb.v_setN, Nb.is_n, Nb.nio_no, Nb.nio_v, Nb.nio_n, Nb.v_putN, Nb.oe_s, Nb.oe_n, Nb.v_c, Nb.v_var, Nb.vs_v, Nb.vs_o, Nb.vs_io, Nb.w_d, Nb.w_f, Nb.w_s, Nb.ws_o, Nb.ws_io, Nb.ws_v, Nb.cl_l, Nb.cl_d, Nb.a_d, Nb.a_f, Nb.a_s, Nb.as_o, Nb.as_v, Nb.as_nil, Nb.as_cons, Nb.v_m2, Nb.v_ap2, Nb.v_m1, Nb.v_ap1, Nb.v_set, Nb.sd_no, Nb.sd_v, Nb.sd_o, Nb.sf_no, Nb.sf_v, Nb.sf_o, Nb.ss_no, Nb.ss_v, Nb.ss_oo, Nb.v_nil, Nb.v_cons, Nb.v_tup, Nb.v_lst, Nb.v_rep, Nb.w_nil, Nb.w_cons, Nb.v_mA, Nb.p_nil, Nb.p_t, Nb.p_f, Nb.x_d, Nb.x_f, Nb.x_s, Nb.xs_v, Nb.xs_o, Nb.xs_io, Nb.ce_nil, Nb.ce_v, Nb.ce_i, Nb.cs_o, Nb.cs_io, Nb.sl_nil, Nb.sl_v, Nb.sl_i, Nb.fo_ok, Nb.fo_okt, Nb.fo_oko, Nb.fo_ex, Nb.v_mF, Nb.pb_nil, Nb.pb_v, Nb.pb_i, Nb.ss_o, Nb.ss_io, Nb.b_b, Nb.v_toB, Nb.v_mTst, Nb.v_and, Nb.v_or, Nb.v_not, Nb.v_if, Nb.v_andV, Nb.v_orV, Nb.v_notV, Nb.v_m3, Nb.v_inR, Nb.v_part0, Nb.i_i, Nb.v_part1, Nb.v_sl, Nb.v_dc0, Nb.v_dc1, Nb.v_seq, Nb.n_rt, Nb.n_rtt, Nb.n_rto, Nb.n_bk, Nb.n_ct, Nb.n_ex, Nb.n_bad, Nb.v_nop, Nb.v_brk, Nb.v_cnt, Nb.v_expr, Nb.v_ifS, Nb.v_ret, Nb.v_retN, Nb.r_d, Nb.r_f, Nb.r_s, Nb.rs_o, Nb.rs_v, Nb.v_asg, Nb.t_nm, Nb.t_nil, Nb.t_cons, Nb.t_tp, Nb.ps_2, Nb.v_par, Nb.v_for, Nb.v_items, Nb.it_l, Nb.it_t, Nb.v_src, Nb.rg1, Nb.rg2, Nb.v_enum, Nb.eo_1, Nb.v_zip, Nb.v_zipD, Nb.zo_l, Nb.zo_t, Nb.v_mut, Nb.il_o, Nb.il_io, Nb.v_apMut, Nb.mu_o, Nb.mu_io, Nb.v_gPut, Nb.pu_o, Nb.pu_io, Nb.v_augS, Nb.id_i, Nb.cl_o, Nb.cl_io, Nb.v_dict, Nb.ky_i, Nb.ky_s, Nb.v_keys, Nb.ko_f, Nb.v_gPutA, Nb.pd_o, Nb.ic_o, Nb.ic_io, Nb.v_mLc, Nb.wi_nil, Nb.wi_cons, Nb.wp_no, Nb.wp_v, Nb.re_nil, Nb.re_cons, Nb.rt_nn, Nb.rt_vn, Nb.rt_nv, Nb.rt_vv, Nb.f1, Nb.f2, Nb.f3, Nb.f4, Nb.f5, Nb.fs_nx, Nb.fs_rt, Nb.fs_rtt, Nb.fs_rto, Nb.ou_0, Nb.ou_s, Nb.io_no, Nb.io_v, Nb.io_o, Nb.io_io, Nb.g0, Nb.g1, Nb.s0, Nb.s1, Nb.ln_le, Nb.ln_lt, Nb.o_add, Nb.o_sub, Nb.o_mulr, Nb.o_mull, Nb.o_fdiv, Nb.o_mod, Nb.o_neg, Nb.o_cmp, Nb.o_max2, Nb.o_min2, Nb.o_int_b, Nb.o_lenL, Nb.o_lenT, Nb.o_pow, Nb.o_slL, Nb.o_slT, Nb.o_repT, Nb.v_apR, Nb.o_inD, Nb.o_inL, Nb.o_inT, Nb.o_list_l, Nb.o_list_t, Nb.o_tup_l, Nb.o_tup_t, Nb.o_addL, Nb.o_addT, Nb.o_eq, Nb.o_ne, Nb.o_extL, Nb.o_extT, Nb.o_app, Nb.at0, Nb.ix_in, Nb.at1, Nb.at2, Nb.pick_in, Nb.o_ixL, Nb.o_ixT, Nb.o_ixLn, Nb.o_ixTn, Nb.pk0, Nb.pk1, Nb.pk2, Nb.o_eqi, Nb.o_eqb, Nb.o_nei, Nb.o_divmod, Nb.o_all, Nb.o_sum, Nb.v_exc, Nb.ex_x, Nb.fl_house, Nb.fl_nobody, Nb.fl_text, Nb.fl_open, Nb.fl_many, Nb.fl_most, Nb.v_throw, Nb.v_throwF1, Nb.v_throwF2, Nb.sm_log, Nb.v_try, Nb.tr_nx, Nb.tr_rt, Nb.tr_rtt, Nb.tr_rto, Nb.tr_c0, Nb.tr_c1, Nb.tr_c2, Nb.tr_c3, Nb.tr_c4, Nb.tr_c5, Nb.tr_c6, Nb.tr_c7, Nb.tr_c8, Nb.tr_c9, Nb.tr_c10, Nb.tr_c11, Nb.v_putX, Nb.px_no, Nb.px_v, Nb.ox_nx, Nb.ox_rt, Nb.ox_rto, Nb.v_endX, Nb.en_x, Nb.cl_nil, Nb.cl_cons, Nb.cl_no, Nb.cl_v, Nb.cl_oo, Nb.cl_ioo, Nb.cl_x, Nb.io_x, Nb.vs_x, Nb.xs_x, Nb.fs_ex, Nb.lo_ex, Nb.ce_x, Nb.sl_x, Nb.pb_x, Nb.v_m2T, Nb.kd_l, Nb.kd_t, Nb.me_1, Nb.me_2, Nb.me_3, Nb.o_revL, Nb.o_revT, Nb.o_lr1, Nb.o_tr1, Nb.o_eqs, Nb.o_nes, R.elim_ok, R.elim_ex, R.elim_bad, Out.next_nx, Option.bind_some, Option.map_some, Option.bind_none, Option.map_none, List.cons_append, List.nil_append, List.replicate_succ, List.replicate_zero, Nat.reduceSub, Nat.reduceAdd, if_true, if_false, Bool.not_true, Bool.not_false, Bool.false_eq_true, List.length_cons, List.length_nil, List.append_nil, Int.reduceToNat, List.set_cons_zero, List.set_cons_succ, decide_true, decide_false, Int.reduceEq, Int.reduceLT, Int.reduceLE, List.nodup_nil, Nb.rb_n2, Nb.rb_p2, Nb.rb_n1, Nb.rb_p1, and_self, and_true, true_and, and_false, false_and, not_true_eq_false, not_false_eq_true, Nb.nd1, Nb.nd2, Nb.nd3, Nb.k_int, Nb.k_bool, Nb.k_tuple, Nb.k_list, Nb.k_str, Nb.cast_lit, Nb.o_inI, Nb.o_inIT, Nb.o_sortU, Nb.o_sorted, Nb.o_sortT, Nb.o_neL0, Nb.o_neb, Nb.o_eqT0, Nb.o_pop, Nb.hasK_T, Nb.o_sumT, Nb.o_sumL, Nb.pick_ints, Nb.pick_rows, Nb.o_eqT, Nb.o_neT, Nb.o_eqL, Nb.o_neL, Nb.o_eqR, Nb.o_neR, Nb.all_map', Int.reduceNeg, Nb.o_cntT, Nb.o_cntL, Nb.ints_rev, Bool.false_bne, Bool.true_bne, Bool.and_self, Bool.or_self, Bool.true_and, Bool.and_true, Bool.false_and, Bool.and_false, Bool.true_or, Bool.or_true, Bool.false_or, Bool.or_false]
      · have hlin : (seenL (wS hs as k) t).length < line := by rw [hln]; simp [line]; omega
        generalize (wS hs as k t).1 = A at hv e1
        generalize seenL (wS hs as k) t = sn at hv hlin
        have hpt : putN 3 (.tuple [tupI A, .int (r : Int)]) (.int (t : Int)) [.v (housD hs), .v (tupI A), .v (.int r), .n sn, .v (.int t), .no] = some [.v (housD hs), .v (tupI A), .v (.int r), .n (sn ++ [((A, (r : Int)), (t : Int))]), .v (.int t), .no] := putN_ok (kns := sn) rfl hv hlin
        simp -implicitDefEqProofs (maxSteps := 4000000) (disch := first | with_unfolding_all rfl | omega | (simp only [List.length_append, List.length_cons, List.length_nil, List.length_map, List.length_replicate, List.length_take, List.length_drop]; omega)) only [d9b0, hpt, e1, Nb.v_zipM, Nb.zm_ll, Nb.zm_lt, Nb.zm_tl, Nb.zm_tt, Nb.fp_ok, Nb.fp_okt, Nb.fp_ex, Nb.v_mFP, Nb.v_tupP, Nb.tp_f, Nb.tp_s, Nb.tp_d, Nb.v_pairD, Nb.oa_o, Nb.oa_v, Nb.v_retP, Nb.rp_d, Nb.rp_t, Nb.v_unpP, Nb.up_d, Nb.up_t, Nb.v_putO, Nb.po_n, Nb.po_v, Nb.po_o, Nb.v_parO, Nb.pr_ff, Nb.v_mLcO, Nb.la_o, Nb.la_v, Nb.nn_n, Nb.v_ix1P, Nb.i1_t, Nb.i1_d, Nb.kO_t, Nb.v_inN, Nb.v_ixN, Nb.v_setN, Nb.is_n, Nb.nio_no, Nb.nio_v, Nb.nio_n, Nb.v_putN, Nb.oe_s, Nb.oe_n, Nb.v_c, Nb.v_var, Nb.vs_v, Nb.vs_o, Nb.vs_io, Nb.w_d, Nb.w_f, Nb.w_s, Nb.ws_o, Nb.ws_io, Nb.ws_v, Nb.cl_l, Nb.cl_d, Nb.a_d, Nb.a_f, Nb.a_s, Nb.as_o, Nb.as_v, Nb.as_nil, Nb.as_cons, Nb.v_m2, Nb.v_ap2, Nb.v_m1, Nb.v_ap1, Nb.v_set, Nb.sd_no, Nb.sd_v, Nb.sd_o, Nb.sf_no, Nb.sf_v, Nb.sf_o, Nb.ss_no, Nb.ss_v, Nb.ss_oo, Nb.v_nil, Nb.v_cons, Nb.v_tup, Nb.v_lst, Nb.v_rep, Nb.w_nil, Nb.w_cons, Nb.v_mA, Nb.p_nil, Nb.p_t, Nb.p_f, Nb.x_d, Nb.x_f, Nb.x_s, Nb.xs_v, Nb.xs_o, Nb.xs_io, Nb.ce_nil, Nb.ce_v, Nb.ce_i, Nb.cs_o, Nb.cs_io, Nb.sl_nil, Nb.sl_v, Nb.sl_i, Nb.fo_ok, Nb.fo_okt, Nb.fo_oko, Nb.fo_ex, Nb.v_mF, Nb.pb_nil, Nb.pb_v, Nb.pb_i, Nb.ss_o, Nb.ss_io, Nb.b_b, Nb.v_toB, Nb.v_mTst, Nb.v_and, Nb.v_or, Nb.v_not, Nb.v_if, Nb.v_andV, Nb.v_orV, Nb.v_notV, Nb.v_m3, Nb.v_inR, Nb.v_part0, Nb.i_i, Nb.v_part1, Nb.v_sl, Nb.v_dc0, Nb.v_dc1, Nb.v_seq, Nb.n_rt, Nb.n_rtt, Nb.n_rto, Nb.n_bk, Nb.n_ct, Nb.n_ex, Nb.n_bad, Nb.v_nop, Nb.v_brk, Nb.v_cnt, Nb.v_expr, Nb.v_ifS, Nb.v_ret, Nb.v_retN, Nb.r_d, Nb.r_f, Nb.r_s, Nb.rs_o, Nb.rs_v, Nb.v_asg, Nb.t_nm, Nb.t_nil, Nb.t_cons, Nb.t_tp, Nb.ps_2, Nb.v_par, Nb.v_for, Nb.v_items, Nb.it_l, Nb.it_t, Nb.v_src, Nb.rg1, Nb.rg2, Nb.v_enum, Nb.eo_1, Nb.v_zip, Nb.v_zipD, Nb.zo_l, Nb.zo_t, Nb.v_mut, Nb.il_o, Nb.il_io, Nb.v_apMut, Nb.mu_o, Nb.mu_io, Nb.v_gPut, Nb.pu_o, Nb.pu_io, Nb.v_augS, Nb.id_i, Nb.cl_o, Nb.cl_io, Nb.v_dict, Nb.ky_i, Nb.ky_s, Nb.v_keys, Nb.ko_f, Nb.v_gPutA, Nb.pd_o, Nb.ic_o, Nb.ic_io, Nb.v_mLc, Nb.wi_nil, Nb.wi_cons, Nb.wp_no, Nb.wp_v, Nb.re_nil, Nb.re_cons, Nb.rt_nn, Nb.rt_vn, Nb.rt_nv, Nb.rt_vv, Nb.f1, Nb.f2, Nb.f3, Nb.f4, Nb.f5, Nb.fs_nx, Nb.fs_rt, Nb.fs_rtt, Nb.fs_rto, Nb.ou_0, Nb.ou_s, Nb.io_no, Nb.io_v, Nb.io_o, Nb.io_io, Nb.g0, Nb.g1, Nb.s0, Nb.s1, Nb.ln_le, Nb.ln_lt, Nb.o_add, Nb.o_sub, Nb.o_mulr, Nb.o_mull, Nb.o_fdiv, Nb.o_mod, Nb.o_neg, Nb.o_cmp, Nb.o_max2, Nb.o_min2, Nb.o_int_b, Nb.o_lenL, Nb.o_lenT, Nb.o_pow, Nb.o_slL, Nb.o_slT, Nb.o_repT, Nb.v_apR, Nb.o_inD, Nb.o_inL, Nb.o_inT, Nb.o_list_l, Nb.o_list_t, Nb.o_tup_l, Nb.o_tup_t, Nb.o_addL, Nb.o_addT, Nb.o_eq, Nb.o_ne, Nb.o_extL, Nb.o_extT, Nb.o_app, Nb.at0, Nb.ix_in, Nb.at1, Nb.at2, Nb.pick_in, Nb.o_ixL, Nb.o_ixT, Nb.o_ixLn, Nb.o_ixTn, Nb.pk0, Nb.pk1, Nb.pk2, Nb.o_eqi, Nb.o_eqb, Nb.o_nei, Nb.o_divmod, Nb.o_all, Nb.o_sum, Nb.v_exc, Nb.ex_x, Nb.fl_house, Nb.fl_nobody, Nb.fl_text, Nb.fl_open, Nb.fl_many, Nb.fl_most, Nb.v_throw, Nb.v_throwF1, Nb.v_throwF2, Nb.sm_log, Nb.v_try, Nb.tr_nx, Nb.tr_rt, Nb.tr_rtt, Nb.tr_rto, Nb.tr_c0, Nb.tr_c1, Nb.tr_c2, Nb.tr_c3, Nb.tr_c4, Nb.tr_c5, Nb.tr_c6, Nb.tr_c7, Nb.tr_c8, Nb.tr_c9, Nb.tr_c10, Nb.tr_c11, Nb.v_putX, Nb.px_no, Nb.px_v, Nb.ox_nx, Nb.ox_rt, Nb.ox_rto, Nb.v_endX, Nb.en_x, Nb.cl_nil, Nb.cl_cons, Nb.cl_no, Nb.cl_v, Nb.cl_oo, Nb.cl_ioo, Nb.cl_x, Nb.io_x, Nb.vs_x, Nb.xs_x, Nb.fs_ex, Nb.lo_ex, Nb.ce_x, Nb.sl_x, Nb.pb_x, Nb.v_m2T, Nb.kd_l, Nb.kd_t, Nb.me_1, Nb.me_2, Nb.me_3, Nb.o_revL, Nb.o_revT, Nb.o_lr1, Nb.o_tr1, Nb.o_eqs, Nb.o_nes, R.elim_ok, R.elim_ex, R.elim_bad, Out.next_nx, Option.bind_some, Option.map_some, Option.bind_none, Option.map_none, List.cons_append, List.nil_append, List.replicate_succ, List.replicate_zero, Nat.reduceSub, Nat.reduceAdd, if_true, if_false, Bool.not_true, Bool.not_false, Bool.false_eq_true, List.length_cons, List.length_nil, List.append_nil, Int.reduceToNat, List.set_cons_zero, List.set_cons_succ, decide_true, decide_false, Int.reduceEq, Int.reduceLT, Int.reduceLE, List.nodup_nil, Nb.rb_n2, Nb.rb_p2, Nb.rb_n1, Nb.rb_p1, and_self, and_true, true_and, and_false, false_and, not_true_eq_false, not_false_eq_true, Nb.nd1, Nb.nd2, Nb.nd3, Nb.k_int, Nb.k_bool, Nb.k_tuple, Nb.k_list, Nb.k_str, Nb.cast_lit, Nb.o_inI, Nb.o_inIT, Nb.o_sortU, Nb.o_sorted, Nb.o_sortT, Nb.o_neL0, Nb.o_neb, Nb.o_eqT0, Nb.o_pop, Nb.hasK_T, Nb.o_sumT, Nb.o_sumL, Nb.pick_ints, Nb.pick_rows, Nb.o_eqT, Nb.o_neT, Nb.o_eqL, Nb.o_neL, Nb.o_eqR, Nb.o_neR, Nb.all_map', Int.reduceNeg, Nb.o_cntT, Nb.o_cntL, Nb.ints_rev, Bool.false_bne, Bool.true_bne, Bool.and_self, Bool.or_self, Bool.true_and, Bool.and_true, Bool.false_and, Bool.and_false, Bool.true_or, Bool.or_true, Bool.false_or, Bool.or_false]) T [.v (housD hs), .v (tupI as), .v (.int k), .n [], .v (.int 0), .no] ⟨0, by omega, rfl⟩
  have hv := seen_yes hR
  unfold d9
  cases hw2 : wS hs as k T with
  | mk A p =>
    rw [hw2] at hv hw
    generalize seenL (wS hs as k) T = sn at hv hw
    simp -implicitDefEqProofs (maxSteps := 4000000) (disch := first | with_unfolding_all rfl | omega | (simp only [List.length_append, List.length_cons, List.length_nil, List.length_map, List.length_replicate, List.length_take, List.length_drop]; omega)) only [e0, hw, hv, Nb.v_zipM, Nb.zm_ll, Nb.zm_lt, Nb.zm_tl, Nb.zm_tt, Nb.fp_ok, Nb.fp_okt, Nb.fp_ex, Nb.v_mFP, Nb.v_tupP, Nb.tp_f, Nb.tp_s, Nb.tp_d, Nb.v_pairD, Nb.oa_o, Nb.oa_v, Nb.v_retP, Nb.rp_d, Nb.rp_t, Nb.v_unpP, Nb.up_d, Nb.up_t, Nb.v_putO, Nb.po_n, Nb.po_v, Nb.po_o, Nb.v_parO, Nb.pr_ff, Nb.v_mLcO, Nb.la_o, Nb.la_v, Nb.nn_n, Nb.v_ix1P, Nb.i1_t, Nb.i1_d, Nb.kO_t, Nb.v_inN, Nb.v_ixN, Nb.v_setN, Nb.is_n, Nb.nio_no, Nb.nio_v, Nb.nio_n, Nb.v_putN, Nb.oe_s, Nb.oe_n, Nb.v_c, Nb.v_var, Nb.vs_v, Nb.vs_o, Nb.vs_io, Nb.w_d, Nb.w_f, Nb.w_s, Nb.ws_o, Nb.ws_io, Nb.ws_v, Nb.cl_l, Nb.cl_d, Nb.a_d, Nb.a_f, Nb.a_s, Nb.as_o, Nb.as_v, Nb.as_nil, Nb.as_cons, Nb.v_m2, Nb.v_ap2, Nb.v_m1, Nb.v_ap1, Nb.v_set, Nb.sd_no, Nb.sd_v, Nb.sd_o, Nb.sf_no, Nb.sf_v, Nb.sf_o, Nb.ss_no, Nb.ss_v, Nb.ss_oo, Nb.v_nil, Nb.v_cons, Nb.v_tup, Nb.v_lst, Nb.v_rep, Nb.w_nil, Nb.w_cons, Nb.v_mA, Nb.p_nil, Nb.p_t, Nb.p_f, Nb.x_d, Nb.x_f, Nb.x_s, Nb.xs_v, Nb.xs_o, Nb.xs_io, Nb.ce_nil, Nb.ce_v, Nb.ce_i, Nb.cs_o, Nb.cs_io, Nb.sl_nil, Nb.sl_v, Nb.sl_i, Nb.fo_ok, Nb.fo_okt, Nb.fo_oko, Nb.fo_ex, Nb.v_mF, Nb.pb_nil, Nb.pb_v, Nb.pb_i, Nb.ss_o, Nb.ss_io, Nb.b_b, Nb.v_toB, Nb.v_mTst, Nb.v_and, Nb.v_or, Nb.v_not, Nb.v_if, Nb.v_andV, Nb.v_orV, Nb.v_notV, Nb.v_m3, Nb.v_inR, Nb.v_part0, Nb.i_i, Nb.v_part1, Nb.v_sl, Nb.v_dc0, Nb.v_dc1, Nb.v_seq, Nb.n_rt, Nb.n_rtt, Nb.n_rto, Nb.n_bk, Nb.n_ct, Nb.n_ex, Nb.n_bad, Nb.v_nop, Nb.v_brk, Nb.v_cnt, Nb.v_expr, Nb.v_ifS, Nb.v_ret, Nb.v_retN, Nb.r_d, Nb.r_f, Nb.r_s, Nb.rs_o, Nb.rs_v, Nb.v_asg, Nb.t_nm, Nb.t_nil, Nb.t_cons, Nb.t_tp, Nb.ps_2, Nb.v_par, Nb.v_for, Nb.v_items, Nb.it_l, Nb.it_t, Nb.v_src, Nb.rg1, Nb.rg2, Nb.v_enum, Nb.eo_1, Nb.v_zip, Nb.v_zipD, Nb.zo_l, Nb.zo_t, Nb.v_mut, Nb.il_o, Nb.il_io, Nb.v_apMut, Nb.mu_o, Nb.mu_io, Nb.v_gPut, Nb.pu_o, Nb.pu_io, Nb.v_augS, Nb.id_i, Nb.cl_o, Nb.cl_io, Nb.v_dict, Nb.ky_i, Nb.ky_s, Nb.v_keys, Nb.ko_f, Nb.v_gPutA, Nb.pd_o, Nb.ic_o, Nb.ic_io, Nb.v_mLc, Nb.wi_nil, Nb.wi_cons, Nb.wp_no, Nb.wp_v, Nb.re_nil, Nb.re_cons, Nb.rt_nn, Nb.rt_vn, Nb.rt_nv, Nb.rt_vv, Nb.f1, Nb.f2, Nb.f3, Nb.f4, Nb.f5, Nb.fs_nx, Nb.fs_rt, Nb.fs_rtt, Nb.fs_rto, Nb.ou_0, Nb.ou_s, Nb.io_no, Nb.io_v, Nb.io_o, Nb.io_io, Nb.g0, Nb.g1, Nb.s0, Nb.s1, Nb.ln_le, Nb.ln_lt, Nb.o_add, Nb.o_sub, Nb.o_mulr, Nb.o_mull, Nb.o_fdiv, Nb.o_mod, Nb.o_neg, Nb.o_cmp, Nb.o_max2, Nb.o_min2, Nb.o_int_b, Nb.o_lenL, Nb.o_lenT, Nb.o_pow, Nb.o_slL, Nb.o_slT, Nb.o_repT, Nb.v_apR, Nb.o_inD, Nb.o_inL, Nb.o_inT, Nb.o_list_l, Nb.o_list_t, Nb.o_tup_l, Nb.o_tup_t, Nb.o_addL, Nb.o_addT, Nb.o_eq, Nb.o_ne, Nb.o_extL, Nb.o_extT, Nb.o_app, Nb.at0, Nb.ix_in, Nb.at1, Nb.at2, Nb.pick_in, Nb.o_ixL, Nb.o_ixT, Nb.o_ixLn, Nb.o_ixTn, Nb.pk0, Nb.pk1, Nb.pk2, Nb.o_eqi, Nb.o_eqb, Nb.o_nei, Nb.o_divmod, Nb.o_all, Nb.o_sum, Nb.v_exc, Nb.ex_x, Nb.fl_house, Nb.fl_nobody, Nb.fl_text, Nb.fl_open, Nb.fl_many, Nb.fl_most, Nb.v_throw, Nb.v_throwF1, Nb.v_throwF2, Nb.sm_log, Nb.v_try, Nb.tr_nx, Nb.tr_rt, Nb.tr_rtt, Nb.tr_rto, Nb.tr_c0, Nb.tr_c1, Nb.tr_c2, Nb.tr_c3, Nb.tr_c4, Nb.tr_c5, Nb.tr_c6, Nb.tr_c7, Nb.tr_c8, Nb.tr_c9, Nb.tr_c10, Nb.tr_c11, Nb.v_putX, Nb.px_no, Nb.px_v, Nb.ox_nx, Nb.ox_rt, Nb.ox_rto, Nb.v_endX, Nb.en_x, Nb.cl_nil, Nb.cl_cons, Nb.cl_no, Nb.cl_v, Nb.cl_oo, Nb.cl_ioo, Nb.cl_x, Nb.io_x, Nb.vs_x, Nb.xs_x, Nb.fs_ex, Nb.lo_ex, Nb.ce_x, Nb.sl_x, Nb.pb_x, Nb.v_m2T, Nb.kd_l, Nb.kd_t, Nb.me_1, Nb.me_2, Nb.me_3, Nb.o_revL, Nb.o_revT, Nb.o_lr1, Nb.o_tr1, Nb.o_eqs, Nb.o_nes, R.elim_ok, R.elim_ex, R.elim_bad, Out.next_nx, Option.bind_some, Option.map_some, Option.bind_none, Option.map_none, List.cons_append, List.nil_append, List.replicate_succ, List.replicate_zero, Nat.reduceSub, Nat.reduceAdd, if_true, if_false, Bool.not_true, Bool.not_false, Bool.false_eq_true, List.length_cons, List.length_nil, List.append_nil, Int.reduceToNat, List.set_cons_zero, List.set_cons_succ, decide_true, decide_false, Int.reduceEq, Int.reduceLT, Int.reduceLE, List.nodup_nil, Nb.rb_n2, Nb.rb_p2, Nb.rb_n1, Nb.rb_p1, and_self, and_true, true_and, and_false, false_and, not_true_eq_false, not_false_eq_true, Nb.nd1, Nb.nd2, Nb.nd3, Nb.k_int, Nb.k_bool, Nb.k_tuple, Nb.k_list, Nb.k_str, Nb.cast_lit, Nb.o_inI, Nb.o_inIT, Nb.o_sortU, Nb.o_sorted, Nb.o_sortT, Nb.o_neL0, Nb.o_neb, Nb.o_eqT0, Nb.o_pop, Nb.hasK_T, Nb.o_sumT, Nb.o_sumL, Nb.pick_ints, Nb.pick_rows, Nb.o_eqT, Nb.o_neT, Nb.o_eqL, Nb.o_neL, Nb.o_eqR, Nb.o_neR, Nb.all_map', Int.reduceNeg, Nb.o_cntT, Nb.o_cntL, Nb.ints_rev, Bool.false_bne, Bool.true_bne, Bool.and_self, Bool.or_self, Bool.true_and, Bool.and_true, Bool.false_and, Bool.and_false, Bool.true_or, Bool.or_true, Bool.false_or, Bool.or_false]
end Nb
namespace Nb
open L2 PySem PySem.Spec PyProof.Rows
theorem lawleft_ok {hs : List (List Int)} {as : List Int} {most doors : Nat} (hh : HouseOk hs most doors) (hm : most ≤ 900) (h : ArrOk hs as) {k : Nat} (hk : k < hs.length) : d16 [.v (housD hs), .v (tupI as), .v (.int k)] = .ok (.tuple [tupI (lead hs as k), .int (shows hs as k)]) [.no, .no, .no] := by
  have hmost := hh.most
  have e := h.len
  obtain ⟨a1, a2⟩ := h.arr k hk
  obtain ⟨r1, r2, _⟩ := hh.at hk
  have ht : ((k : Int)).toNat = k := by omega
  have hix : ixN as.length (k : Int) = some k := by rw [ix_in (by omega) (by omega), ht]
  have hb : (as.map PyData.int).set k (.int ((as.getD k 0 + 1) % (hs.getD k []).length)) = (lead hs as k).map PyData.int := by
    unfold lead
    rw [List.map_set]
  have hk0 : (0 : Int) ≤ (k : Int) := by omega
  have hka : (k : Int) < (as.length : Int) := by omega
  unfold d16
  simp -implicitDefEqProofs (maxSteps := 4000000) (disch := first | with_unfolding_all rfl | omega | (simp only [List.length_append, List.length_cons, List.length_nil, List.length_map, List.length_replicate, List.length_take, List.length_drop]; omega)) only [List.length_map, hk0, hka, ht, a1, a2, hix, hb, Nb.v_zipM, Nb.zm_ll, Nb.zm_lt, Nb.zm_tl, Nb.zm_tt, Nb.fp_ok, Nb.fp_okt, Nb.fp_ex, Nb.v_mFP, Nb.v_tupP, Nb.tp_f, Nb.tp_s, Nb.tp_d, Nb.v_pairD, Nb.oa_o, Nb.oa_v, Nb.v_retP, Nb.rp_d, Nb.rp_t, Nb.v_unpP, Nb.up_d, Nb.up_t, Nb.v_putO, Nb.po_n, Nb.po_v, Nb.po_o, Nb.v_parO, Nb.pr_ff, Nb.v_mLcO, Nb.la_o, Nb.la_v, Nb.nn_n, Nb.v_ix1P, Nb.i1_t, Nb.i1_d, Nb.kO_t, Nb.v_inN, Nb.v_ixN, Nb.v_setN, Nb.is_n, Nb.nio_no, Nb.nio_v, Nb.nio_n, Nb.v_putN, Nb.oe_s, Nb.oe_n, Nb.v_c, Nb.v_var, Nb.vs_v, Nb.vs_o, Nb.vs_io, Nb.w_d, Nb.w_f, Nb.w_s, Nb.ws_o, Nb.ws_io, Nb.ws_v, Nb.cl_l, Nb.cl_d, Nb.a_d, Nb.a_f, Nb.a_s, Nb.as_o, Nb.as_v, Nb.as_nil, Nb.as_cons, Nb.v_m2, Nb.v_ap2, Nb.v_m1, Nb.v_ap1, Nb.v_set, Nb.sd_no, Nb.sd_v, Nb.sd_o, Nb.sf_no, Nb.sf_v, Nb.sf_o, Nb.ss_no, Nb.ss_v, Nb.ss_oo, Nb.v_nil, Nb.v_cons, Nb.v_tup, Nb.v_lst, Nb.v_rep, Nb.w_nil, Nb.w_cons, Nb.v_mA, Nb.p_nil, Nb.p_t, Nb.p_f, Nb.x_d, Nb.x_f, Nb.x_s, Nb.xs_v, Nb.xs_o, Nb.xs_io, Nb.ce_nil, Nb.ce_v, Nb.ce_i, Nb.cs_o, Nb.cs_io, Nb.sl_nil, Nb.sl_v, Nb.sl_i, Nb.fo_ok, Nb.fo_okt, Nb.fo_oko, Nb.fo_ex, Nb.v_mF, Nb.pb_nil, Nb.pb_v, Nb.pb_i, Nb.ss_o, Nb.ss_io, Nb.b_b, Nb.v_toB, Nb.v_mTst, Nb.v_and, Nb.v_or, Nb.v_not, Nb.v_if, Nb.v_andV, Nb.v_orV, Nb.v_notV, Nb.v_m3, Nb.v_inR, Nb.v_part0, Nb.i_i, Nb.v_part1, Nb.v_sl, Nb.v_dc0, Nb.v_dc1, Nb.v_seq, Nb.n_rt, Nb.n_rtt, Nb.n_rto, Nb.n_bk, Nb.n_ct, Nb.n_ex, Nb.n_bad, Nb.v_nop, Nb.v_brk, Nb.v_cnt, Nb.v_expr, Nb.v_ifS, Nb.v_ret, Nb.v_retN, Nb.r_d, Nb.r_f, Nb.r_s, Nb.rs_o, Nb.rs_v, Nb.v_asg, Nb.t_nm, Nb.t_nil, Nb.t_cons, Nb.t_tp, Nb.ps_2, Nb.v_par, Nb.v_for, Nb.v_items, Nb.it_l, Nb.it_t, Nb.v_src, Nb.rg1, Nb.rg2, Nb.v_enum, Nb.eo_1, Nb.v_zip, Nb.v_zipD, Nb.zo_l, Nb.zo_t, Nb.v_mut, Nb.il_o, Nb.il_io, Nb.v_apMut, Nb.mu_o, Nb.mu_io, Nb.v_gPut, Nb.pu_o, Nb.pu_io, Nb.v_augS, Nb.id_i, Nb.cl_o, Nb.cl_io, Nb.v_dict, Nb.ky_i, Nb.ky_s, Nb.v_keys, Nb.ko_f, Nb.v_gPutA, Nb.pd_o, Nb.ic_o, Nb.ic_io, Nb.v_mLc, Nb.wi_nil, Nb.wi_cons, Nb.wp_no, Nb.wp_v, Nb.re_nil, Nb.re_cons, Nb.rt_nn, Nb.rt_vn, Nb.rt_nv, Nb.rt_vv, Nb.f1, Nb.f2, Nb.f3, Nb.f4, Nb.f5, Nb.fs_nx, Nb.fs_rt, Nb.fs_rtt, Nb.fs_rto, Nb.ou_0, Nb.ou_s, Nb.io_no, Nb.io_v, Nb.io_o, Nb.io_io, Nb.g0, Nb.g1, Nb.s0, Nb.s1, Nb.ln_le, Nb.ln_lt, Nb.o_add, Nb.o_sub, Nb.o_mulr, Nb.o_mull, Nb.o_fdiv, Nb.o_mod, Nb.o_neg, Nb.o_cmp, Nb.o_max2, Nb.o_min2, Nb.o_int_b, Nb.o_lenL, Nb.o_lenT, Nb.o_pow, Nb.o_slL, Nb.o_slT, Nb.o_repT, Nb.v_apR, Nb.o_inD, Nb.o_inL, Nb.o_inT, Nb.o_list_l, Nb.o_list_t, Nb.o_tup_l, Nb.o_tup_t, Nb.o_addL, Nb.o_addT, Nb.o_eq, Nb.o_ne, Nb.o_extL, Nb.o_extT, Nb.o_app, Nb.at0, Nb.ix_in, Nb.at1, Nb.at2, Nb.pick_in, Nb.o_ixL, Nb.o_ixT, Nb.o_ixLn, Nb.o_ixTn, Nb.pk0, Nb.pk1, Nb.pk2, Nb.o_eqi, Nb.o_eqb, Nb.o_nei, Nb.o_divmod, Nb.o_all, Nb.o_sum, Nb.v_exc, Nb.ex_x, Nb.fl_house, Nb.fl_nobody, Nb.fl_text, Nb.fl_open, Nb.fl_many, Nb.fl_most, Nb.v_throw, Nb.v_throwF1, Nb.v_throwF2, Nb.sm_log, Nb.v_try, Nb.tr_nx, Nb.tr_rt, Nb.tr_rtt, Nb.tr_rto, Nb.tr_c0, Nb.tr_c1, Nb.tr_c2, Nb.tr_c3, Nb.tr_c4, Nb.tr_c5, Nb.tr_c6, Nb.tr_c7, Nb.tr_c8, Nb.tr_c9, Nb.tr_c10, Nb.tr_c11, Nb.v_putX, Nb.px_no, Nb.px_v, Nb.ox_nx, Nb.ox_rt, Nb.ox_rto, Nb.v_endX, Nb.en_x, Nb.cl_nil, Nb.cl_cons, Nb.cl_no, Nb.cl_v, Nb.cl_oo, Nb.cl_ioo, Nb.cl_x, Nb.io_x, Nb.vs_x, Nb.xs_x, Nb.fs_ex, Nb.lo_ex, Nb.ce_x, Nb.sl_x, Nb.pb_x, Nb.v_m2T, Nb.kd_l, Nb.kd_t, Nb.me_1, Nb.me_2, Nb.me_3, Nb.o_revL, Nb.o_revT, Nb.o_lr1, Nb.o_tr1, Nb.o_eqs, Nb.o_nes, R.elim_ok, R.elim_ex, R.elim_bad, Out.next_nx, Option.bind_some, Option.map_some, Option.bind_none, Option.map_none, List.cons_append, List.nil_append, List.replicate_succ, List.replicate_zero, Nat.reduceSub, Nat.reduceAdd, if_true, if_false, Bool.not_true, Bool.not_false, Bool.false_eq_true, List.length_cons, List.length_nil, List.append_nil, Int.reduceToNat, List.set_cons_zero, List.set_cons_succ, decide_true, decide_false, Int.reduceEq, Int.reduceLT, Int.reduceLE, List.nodup_nil, Nb.rb_n2, Nb.rb_p2, Nb.rb_n1, Nb.rb_p1, and_self, and_true, true_and, and_false, false_and, not_true_eq_false, not_false_eq_true, Nb.nd1, Nb.nd2, Nb.nd3, Nb.k_int, Nb.k_bool, Nb.k_tuple, Nb.k_list, Nb.k_str, Nb.cast_lit, Nb.o_inI, Nb.o_inIT, Nb.o_sortU, Nb.o_sorted, Nb.o_sortT, Nb.o_neL0, Nb.o_neb, Nb.o_eqT0, Nb.o_pop, Nb.hasK_T, Nb.o_sumT, Nb.o_sumL, Nb.pick_ints, Nb.pick_rows, Nb.o_eqT, Nb.o_neT, Nb.o_eqL, Nb.o_neL, Nb.o_eqR, Nb.o_neR, Nb.all_map', Int.reduceNeg, Nb.o_cntT, Nb.o_cntL, Nb.ints_rev, Bool.false_bne, Bool.true_bne, Bool.and_self, Bool.or_self, Bool.true_and, Bool.and_true, Bool.false_and, Bool.and_false, Bool.true_or, Bool.or_true, Bool.false_or, Bool.or_false]
  rfl
/-- the states from the first one on -/
def stD (p : List Int × Int) : D := .tuple [tupI p.1, .int p.2]
theorem lawround_ok {hs : List (List Int)} {as : List Int} {most doors T m : Nat} (hh : HouseOk hs most doors) (hm : most ≤ 900) (hS : Shut hs) (ha : ArrOk hs as) {k : Int} (h0 : 0 ≤ k) (h1 : k < hs.length) (hR : Rnd (wS hs as k) T m) (hT : T ≤ 900000) : d18 [.v (housD hs), .v (tupI as), .v (.int k)] = .ok (.tuple [.int m, .int ((T : Int) - m), .list ((List.range T).map fun t => stD (wS hs as k t))]) [.no, .no, .no] := by
  have hmost := hh.most
  obtain ⟨e', hw, rfl⟩ := while_inv (c := d18t0) (b := d18b0) (I := fun j env => ∃ t, t + j = T ∧ env = [.v (housD hs), .v (tupI (wS hs as k t).1), .v (.int (wS hs as k t).2), .n (seenL (wS hs as k) t), .o (.lst ((List.range t).map fun t => stD (wS hs as k t))), .no]) (Z := fun env => env = [.v (housD hs), .v (tupI (wS hs as k T).1), .v (.int (wS hs as k T).2), .n (seenL (wS hs as k) T), .o (.lst ((List.range T).map fun t => stD (wS hs as k t))), .no]) (fun j env ⟨t, ht, he⟩ => by
    subst he
    by_cases q : t = T
    · left
      subst q
      have hv := seen_yes hR
      refine ⟨_, ?_, rfl⟩
      generalize (List.range t).map (fun t => stD (wS hs as k t)) = L
      generalize seenL (wS hs as k) t = sn at hv
      cases hw : wS hs as k t with
      | mk A p =>
        rw [hw] at hv
        simp -implicitDefEqProofs (maxSteps := 4000000) (disch := first | with_unfolding_all rfl | omega | (simp only [List.length_append, List.length_cons, List.length_nil, List.length_map, List.length_replicate, List.length_take, List.length_drop]; omega)) only [d18t0, hv, Option.isSome_some, Nb.v_zipM, Nb.zm_ll, Nb.zm_lt, Nb.zm_tl, Nb.zm_tt, Nb.fp_ok, Nb.fp_okt, Nb.fp_ex, Nb.v_mFP, Nb.v_tupP, Nb.tp_f, Nb.tp_s, Nb.tp_d, Nb.v_pairD, Nb.oa_o, Nb.oa_v, Nb.v_retP, Nb.rp_d, Nb.rp_t, Nb.v_unpP, Nb.up_d, Nb.up_t, Nb.v_putO, Nb.po_n, Nb.po_v, Nb.po_o, Nb.v_parO, Nb.pr_ff, Nb.v_mLcO, Nb.la_o, Nb.la_v, Nb.nn_n, Nb.v_ix1P, Nb.i1_t, Nb.i1_d, Nb.kO_t, Nb.v_inN, Nb.v_ixN, Nb.v_setN, Nb.is_n, Nb.nio_no, Nb.nio_v, Nb.nio_n, Nb.v_putN, Nb.oe_s, Nb.oe_n, Nb.v_c, Nb.v_var, Nb.vs_v, Nb.vs_o, Nb.vs_io, Nb.w_d, Nb.w_f, Nb.w_s, Nb.ws_o, Nb.ws_io, Nb.ws_v, Nb.cl_l, Nb.cl_d, Nb.a_d, Nb.a_f, Nb.a_s, Nb.as_o, Nb.as_v, Nb.as_nil, Nb.as_cons, Nb.v_m2, Nb.v_ap2, Nb.v_m1, Nb.v_ap1, Nb.v_set, Nb.sd_no, Nb.sd_v, Nb.sd_o, Nb.sf_no, Nb.sf_v, Nb.sf_o, Nb.ss_no, Nb.ss_v, Nb.ss_oo, Nb.v_nil, Nb.v_cons, Nb.v_tup, Nb.v_lst, Nb.v_rep, Nb.w_nil, Nb.w_cons, Nb.v_mA, Nb.p_nil, Nb.p_t, Nb.p_f, Nb.x_d, Nb.x_f, Nb.x_s, Nb.xs_v, Nb.xs_o, Nb.xs_io, Nb.ce_nil, Nb.ce_v, Nb.ce_i, Nb.cs_o, Nb.cs_io, Nb.sl_nil, Nb.sl_v, Nb.sl_i, Nb.fo_ok, Nb.fo_okt, Nb.fo_oko, Nb.fo_ex, Nb.v_mF, Nb.pb_nil, Nb.pb_v, Nb.pb_i, Nb.ss_o, Nb.ss_io, Nb.b_b, Nb.v_toB, Nb.v_mTst, Nb.v_and, Nb.v_or, Nb.v_not, Nb.v_if, Nb.v_andV, Nb.v_orV, Nb.v_notV, Nb.v_m3, Nb.v_inR, Nb.v_part0, Nb.i_i, Nb.v_part1, Nb.v_sl, Nb.v_dc0, Nb.v_dc1, Nb.v_seq, Nb.n_rt, Nb.n_rtt, Nb.n_rto, Nb.n_bk, Nb.n_ct, Nb.n_ex, Nb.n_bad, Nb.v_nop, Nb.v_brk, Nb.v_cnt, Nb.v_expr, Nb.v_ifS, Nb.v_ret, Nb.v_retN, Nb.r_d, Nb.r_f, Nb.r_s, Nb.rs_o, Nb.rs_v, Nb.v_asg, Nb.t_nm, Nb.t_nil, Nb.t_cons, Nb.t_tp, Nb.ps_2, Nb.v_par, Nb.v_for, Nb.v_items, Nb.it_l, Nb.it_t, Nb.v_src, Nb.rg1, Nb.rg2, Nb.v_enum, Nb.eo_1, Nb.v_zip, Nb.v_zipD, Nb.zo_l, Nb.zo_t, Nb.v_mut, Nb.il_o, Nb.il_io, Nb.v_apMut, Nb.mu_o, Nb.mu_io, Nb.v_gPut, Nb.pu_o, Nb.pu_io, Nb.v_augS, Nb.id_i, Nb.cl_o, Nb.cl_io, Nb.v_dict, Nb.ky_i, Nb.ky_s, Nb.v_keys, Nb.ko_f, Nb.v_gPutA, Nb.pd_o, Nb.ic_o, Nb.ic_io, Nb.v_mLc, Nb.wi_nil, Nb.wi_cons, Nb.wp_no, Nb.wp_v, Nb.re_nil, Nb.re_cons, Nb.rt_nn, Nb.rt_vn, Nb.rt_nv, Nb.rt_vv, Nb.f1, Nb.f2, Nb.f3, Nb.f4, Nb.f5, Nb.fs_nx, Nb.fs_rt, Nb.fs_rtt, Nb.fs_rto, Nb.ou_0, Nb.ou_s, Nb.io_no, Nb.io_v, Nb.io_o, Nb.io_io, Nb.g0, Nb.g1, Nb.s0, Nb.s1, Nb.ln_le, Nb.ln_lt, Nb.o_add, Nb.o_sub, Nb.o_mulr, Nb.o_mull, Nb.o_fdiv, Nb.o_mod, Nb.o_neg, Nb.o_cmp, Nb.o_max2, Nb.o_min2, Nb.o_int_b, Nb.o_lenL, Nb.o_lenT, Nb.o_pow, Nb.o_slL, Nb.o_slT, Nb.o_repT, Nb.v_apR, Nb.o_inD, Nb.o_inL, Nb.o_inT, Nb.o_list_l, Nb.o_list_t, Nb.o_tup_l, Nb.o_tup_t, Nb.o_addL, Nb.o_addT, Nb.o_eq, Nb.o_ne, Nb.o_extL, Nb.o_extT, Nb.o_app, Nb.at0, Nb.ix_in, Nb.at1, Nb.at2, Nb.pick_in, Nb.o_ixL, Nb.o_ixT, Nb.o_ixLn, Nb.o_ixTn, Nb.pk0, Nb.pk1, Nb.pk2, Nb.o_eqi, Nb.o_eqb, Nb.o_nei, Nb.o_divmod, Nb.o_all, Nb.o_sum, Nb.v_exc, Nb.ex_x, Nb.fl_house, Nb.fl_nobody, Nb.fl_text, Nb.fl_open, Nb.fl_many, Nb.fl_most, Nb.v_throw, Nb.v_throwF1, Nb.v_throwF2, Nb.sm_log, Nb.v_try, Nb.tr_nx, Nb.tr_rt, Nb.tr_rtt, Nb.tr_rto, Nb.tr_c0, Nb.tr_c1, Nb.tr_c2, Nb.tr_c3, Nb.tr_c4, Nb.tr_c5, Nb.tr_c6, Nb.tr_c7, Nb.tr_c8, Nb.tr_c9, Nb.tr_c10, Nb.tr_c11, Nb.v_putX, Nb.px_no, Nb.px_v, Nb.ox_nx, Nb.ox_rt, Nb.ox_rto, Nb.v_endX, Nb.en_x, Nb.cl_nil, Nb.cl_cons, Nb.cl_no, Nb.cl_v, Nb.cl_oo, Nb.cl_ioo, Nb.cl_x, Nb.io_x, Nb.vs_x, Nb.xs_x, Nb.fs_ex, Nb.lo_ex, Nb.ce_x, Nb.sl_x, Nb.pb_x, Nb.v_m2T, Nb.kd_l, Nb.kd_t, Nb.me_1, Nb.me_2, Nb.me_3, Nb.o_revL, Nb.o_revT, Nb.o_lr1, Nb.o_tr1, Nb.o_eqs, Nb.o_nes, R.elim_ok, R.elim_ex, R.elim_bad, Out.next_nx, Option.bind_some, Option.map_some, Option.bind_none, Option.map_none, List.cons_append, List.nil_append, List.replicate_succ, List.replicate_zero, Nat.reduceSub, Nat.reduceAdd, if_true, if_false, Bool.not_true, Bool.not_false, Bool.false_eq_true, List.length_cons, List.length_nil, List.append_nil, Int.reduceToNat, List.set_cons_zero, List.set_cons_succ, decide_true, decide_false, Int.reduceEq, Int.reduceLT, Int.reduceLE, List.nodup_nil, Nb.rb_n2, Nb.rb_p2, Nb.rb_n1, Nb.rb_p1, and_self, and_true, true_and, and_false, false_and, not_true_eq_false, not_false_eq_true, Nb.nd1, Nb.nd2, Nb.nd3, Nb.k_int, Nb.k_bool, Nb.k_tuple, Nb.k_list, Nb.k_str, Nb.cast_lit, Nb.o_inI, Nb.o_inIT, Nb.o_sortU, Nb.o_sorted, Nb.o_sortT, Nb.o_neL0, Nb.o_neb, Nb.o_eqT0, Nb.o_pop, Nb.hasK_T, Nb.o_sumT, Nb.o_sumL, Nb.pick_ints, Nb.pick_rows, Nb.o_eqT, Nb.o_neT, Nb.o_eqL, Nb.o_neL, Nb.o_eqR, Nb.o_neR, Nb.all_map', Int.reduceNeg, Nb.o_cntT, Nb.o_cntL, Nb.ints_rev, Bool.false_bne, Bool.true_bne, Bool.and_self, Bool.or_self, Bool.true_and, Bool.and_true, Bool.false_and, Bool.and_false, Bool.true_or, Bool.or_true, Bool.false_or, Bool.or_false]
    · right
      have hv := seen_no hR t (by omega)
      obtain ⟨a1, a2, a3, a4⟩ := wS_shut hh hS ha h0 h1 t
      have hsl := seenL_succ (f := wS hs as k) (m := t)
      have hln := seenL_len (f := wS hs as k) (m := t)
      obtain ⟨r, hr⟩ : ∃ r : Nat, (wS hs as k t).2 = (r : Int) := ⟨(wS hs as k t).2.toNat, by omega⟩
      have e1 := lawleft_ok hh hm a1 (k := r) (by omega)
      rw [hr, Int.toNat_natCast] at a4
      have hst : wS hs as k t = ((wS hs as k t).1, (r : Int)) := Prod.ext rfl hr
      have hk4 : (wS hs as k (t + 1)).1 = lead hs (wS hs as k t).1 r := by rw [a4]
      have hk5 : (wS hs as k (t + 1)).2 = shows hs (wS hs as k t).1 r := by rw [a4]
      rw [hst] at hv hsl
      have hL : (List.range (t + 1)).map (fun t => stD (wS hs as k t)) = (List.range t).map (fun t => stD (wS hs as k t)) ++ [.tuple [tupI (wS hs as k t).1, .int (r : Int)]] := by
        rw [List.range_succ, List.map_append, List.map_singleton, ← hr]
        rfl
      have hLl : ((List.range t).map (fun t => stD (wS hs as k t))).length = t := by simp
      refine ⟨[.v (housD hs), .v (tupI (wS hs as k t).1), .v (.int r), .n (seenL (wS hs as k) t), .o (.lst ((List.range t).map fun t => stD (wS hs as k t))), .no], [.v (housD hs), .v (tupI (lead hs (wS hs as k t).1 r)), .v (.int (shows hs (wS hs as k t).1 r)), .n (seenL (wS hs as k) t ++ [(((wS hs as k t).1, (r : Int)), (t : Int))]), .o (.lst ((List.range t).map (fun t => stD (wS hs as k t)) ++ [.tuple [tupI (wS hs as k t).1, .int (r : Int)]])), .no], j - 1, ?_, .inl ?_, by omega, t + 1, by omega, ?_⟩
      rotate_left 2
      · rw [hk4, hk5, hsl, hL]
      · rw [hr]
        generalize (List.range t).map (fun t => stD (wS hs as k t)) = L
        generalize (wS hs as k t).1 = A at hv
        generalize seenL (wS hs as k) t = sn at hv
        simp -implicitDefEqProofs (maxSteps := 4000000) (disch := first | with_unfolding_all rfl | omega | (simp only [List.length_append, List.length_cons, List.length_nil, List.length_map, List.length_replicate, List.length_take, List.length_drop]; omega)) only [d18t0, hv, Option.isSome_none, Nb.v_zipM, Nb.zm_ll, Nb.zm_lt, Nb.zm_tl, Nb.zm_tt, Nb.fp_ok, Nb.fp_okt, Nb.fp_ex, Nb.v_mFP, Nb.v_tupP, Nb.tp_f, Nb.tp_s, Nb.tp_d, Nb.v_pairD, Nb.oa_o, Nb.oa_v, Nb.v_retP, Nb.rp_d, Nb.rp_t, Nb.v_unpP, Nb.up_d, Nb.up_t, Nb.v_putO, Nb.po_n, Nb.po_v, Nb.po_o, Nb.v_parO, Nb.pr_ff, Nb.v_mLcO, Nb.la_o, Nb.la_v, Nb.nn_n, Nb.v_ix1P, Nb.i1_t, Nb.i1_d, Nb.kO_t, Nb.v_inN, Nb.v_ixN, Nb.v_setN, Nb.is_n, Nb.nio_no, Nb.nio_v, Nb.nio_n, Nb.v_putN, Nb.oe_s, Nb.oe_n, Nb.v_c, Nb.v_var, Nb.vs_v, Nb.vs_o, Nb.vs_io, Nb.w_d, Nb.w_f, Nb.w_s, Nb.ws_o, Nb.ws_io, Nb.ws_v, Nb.cl_l, Nb.cl_d, Nb.a_d, Nb.a_f, Nb.a_s, Nb.as_o, Nb.as_v, Nb.as_nil, Nb.as_cons, Nb.v_m2, Nb.v_ap2, Nb.v_m1, Nb.v_ap1, Nb.v_set, Nb.sd_no, Nb.sd_v, Nb.sd_o, Nb.sf_no, Nb.sf_v, Nb.sf_o, Nb.ss_no, Nb.ss_v, Nb.ss_oo, Nb.v_nil, Nb.v_cons, Nb.v_tup, Nb.v_lst, Nb.v_rep, Nb.w_nil, Nb.w_cons, Nb.v_mA, Nb.p_nil, Nb.p_t, Nb.p_f, Nb.x_d, Nb.x_f, Nb.x_s, Nb.xs_v, Nb.xs_o, Nb.xs_io, Nb.ce_nil, Nb.ce_v, Nb.ce_i, Nb.cs_o, Nb.cs_io, Nb.sl_nil, Nb.sl_v, Nb.sl_i, Nb.fo_ok, Nb.fo_okt, Nb.fo_oko, Nb.fo_ex, Nb.v_mF, Nb.pb_nil, Nb.pb_v, Nb.pb_i, Nb.ss_o, Nb.ss_io, Nb.b_b, Nb.v_toB, Nb.v_mTst, Nb.v_and, Nb.v_or, Nb.v_not, Nb.v_if, Nb.v_andV, Nb.v_orV, Nb.v_notV, Nb.v_m3, Nb.v_inR, Nb.v_part0, Nb.i_i, Nb.v_part1, Nb.v_sl, Nb.v_dc0, Nb.v_dc1, Nb.v_seq, Nb.n_rt, Nb.n_rtt, Nb.n_rto, Nb.n_bk, Nb.n_ct, Nb.n_ex, Nb.n_bad, Nb.v_nop, Nb.v_brk, Nb.v_cnt, Nb.v_expr, Nb.v_ifS, Nb.v_ret, Nb.v_retN, Nb.r_d, Nb.r_f, Nb.r_s, Nb.rs_o, Nb.rs_v, Nb.v_asg, Nb.t_nm, Nb.t_nil, Nb.t_cons, Nb.t_tp, Nb.ps_2, Nb.v_par, Nb.v_for, Nb.v_items, Nb.it_l, Nb.it_t, Nb.v_src, Nb.rg1, Nb.rg2, Nb.v_enum, Nb.eo_1, Nb.v_zip, Nb.v_zipD, Nb.zo_l, Nb.zo_t, Nb.v_mut, Nb.il_o, Nb.il_io, Nb.v_apMut, Nb.mu_o, Nb.mu_io, Nb.v_gPut, Nb.pu_o, Nb.pu_io, Nb.v_augS, Nb.id_i, Nb.cl_o, Nb.cl_io, Nb.v_dict, Nb.ky_i, Nb.ky_s, Nb.v_keys, Nb.ko_f, Nb.v_gPutA, Nb.pd_o, Nb.ic_o, Nb.ic_io, Nb.v_mLc, Nb.wi_nil, Nb.wi_cons, Nb.wp_no, Nb.wp_v, Nb.re_nil, Nb.re_cons, Nb.rt_nn, Nb.rt_vn, Nb.rt_nv, Nb.rt_vv, Nb.f1, Nb.f2, Nb.f3, Nb.f4, Nb.f5, Nb.fs_nx, Nb.fs_rt, Nb.fs_rtt, Nb.fs_rto, Nb.ou_0, Nb.ou_s, Nb.io_no, Nb.io_v, Nb.io_o, Nb.io_io, Nb.g0, Nb.g1, Nb.s0, Nb.s1, Nb.ln_le, Nb.ln_lt, Nb.o_add, Nb.o_sub, Nb.o_mulr, Nb.o_mull, Nb.o_fdiv, Nb.o_mod, Nb.o_neg, Nb.o_cmp, Nb.o_max2, Nb.o_min2, Nb.o_int_b, Nb.o_lenL, Nb.o_lenT, Nb.o_pow, Nb.o_slL, Nb.o_slT, Nb.o_repT, Nb.v_apR, Nb.o_inD, Nb.o_inL, Nb.o_inT, Nb.o_list_l, Nb.o_list_t, Nb.o_tup_l, Nb.o_tup_t, Nb.o_addL, Nb.o_addT, Nb.o_eq, Nb.o_ne, Nb.o_extL, Nb.o_extT, Nb.o_app, Nb.at0, Nb.ix_in, Nb.at1, Nb.at2, Nb.pick_in, Nb.o_ixL, Nb.o_ixT, Nb.o_ixLn, Nb.o_ixTn, Nb.pk0, Nb.pk1, Nb.pk2, Nb.o_eqi, Nb.o_eqb, Nb.o_nei, Nb.o_divmod, Nb.o_all, Nb.o_sum, Nb.v_exc, Nb.ex_x, Nb.fl_house, Nb.fl_nobody, Nb.fl_text, Nb.fl_open, Nb.fl_many, Nb.fl_most, Nb.v_throw, Nb.v_throwF1, Nb.v_throwF2, Nb.sm_log, Nb.v_try, Nb.tr_nx, Nb.tr_rt, Nb.tr_rtt, Nb.tr_rto, Nb.tr_c0, Nb.tr_c1, Nb.tr_c2, Nb.tr_c3, Nb.tr_c4, Nb.tr_c5, Nb.tr_c6, Nb.tr_c7, Nb.tr_c8, Nb.tr_c9, Nb.tr_c10, Nb.tr_c11, Nb.v_putX, Nb.px_no, Nb.px_v, Nb.ox_nx, Nb.ox_rt, Nb.ox_rto, Nb.v_endX, Nb.en_x, Nb.cl_nil, Nb.cl_cons, Nb.cl_no, Nb.cl_v, Nb.cl_oo, Nb.cl_ioo, Nb.cl_x, Nb.io_x, Nb.vs_x, Nb.xs_x, Nb.fs_ex, Nb.lo_ex, Nb.ce_x, Nb.sl_x, Nb.pb_x, Nb.v_m2T, Nb.kd_l, Nb.kd_t, Nb.me_1, Nb.me_2, Nb.me_3, Nb.o_revL, Nb.o_revT, Nb.o_lr1, Nb.o_tr1, Nb.o_eqs, Nb.o_nes, R.elim_ok, R.elim_ex, R.elim_bad, Out.next_nx, Option.bind_some, Option.map_some, Option.bind_none, Option.map_none, List.cons_append, List.nil_append, List.replicate_succ, List.replicate_zero, Nat.reduceSub, Nat.reduceAdd, if_true, if_false, Bool.not_true, Bool.not_false, Bool.false_eq_true, List.length_cons, List.length_nil, List.append_nil, Int.reduceToNat, List.set_cons_zero, List.set_cons_succ, decide_true, decide_false, Int.reduceEq, Int.reduceLT, Int.reduceLE, List.nodup_nil, Nb.rb_n2, Nb.rb_p2, Nb.rb_n1, Nb.rb_p1, and_self, and_true, true_and, and_false, false_and, not_true_eq_false, not_false_eq_true, Nb.nd1, Nb.nd2, Nb.nd3, Nb.k_int, Nb.k_bool, Nb.k_tuple, Nb.k_list, Nb.k_str, Nb.cast_lit, Nb.o_inI, Nb.o_inIT, Nb.o_sortU, Nb.o_sorted, Nb.o_sortT, Nb.o_neL0, Nb.o_neb, Nb.o_eqT0, Nb.o_pop, Nb.hasK_T, Nb.o_sumT, Nb.o_sumL, Nb.pick_ints, Nb.pick_rows, Nb.o_eqT, Nb.o_neT, Nb.o_eqL, Nb.o_neL, Nb.o_eqR, Nb.o_neR, Nb.all_map', Int.reduceNeg, Nb.o_cntT, Nb.o_cntL, Nb.ints_rev, Bool.false_bne, Bool.true_bne, Bool.and_self, Bool.or_self, Bool.true_and, Bool.and_true, Bool.false_and, Bool.and_false, Bool.true_or, Bool.or_true, Bool.false_or, Bool.or_false]
      · have hlin : (seenL (wS hs as k) t).length < line := by rw [hln]; simp [line]; omega
        clear hL
        generalize (List.range t).map (fun t => stD (wS hs as k t)) = L at hLl
        generalize (wS hs as k t).1 = A at hv e1
        generalize seenL (wS hs as k) t = sn at hv hlin
        have hpt : putN 3 (.tuple [tupI A, .int (r : Int)]) (.int (t : Int)) [.v (housD hs), .v (tupI A), .v (.int r), .n sn, .o (.lst L), .no] = some [.v (housD hs), .v (tupI A), .v (.int r), .n (sn ++ [((A, (r : Int)), (t : Int))]), .o (.lst L), .no] := putN_ok (kns := sn) rfl hv hlin
        have hl9 : L.length ≤ 900000 := by omega
        simp -implicitDefEqProofs (maxSteps := 4000000) (disch := first | with_unfolding_all rfl | omega | (simp only [List.length_append, List.length_cons, List.length_nil, List.length_map, List.length_replicate, List.length_take, List.length_drop]; omega)) only [d18b0, hLl, hpt, e1, hl9, Nb.v_zipM, Nb.zm_ll, Nb.zm_lt, Nb.zm_tl, Nb.zm_tt, Nb.fp_ok, Nb.fp_okt, Nb.fp_ex, Nb.v_mFP, Nb.v_tupP, Nb.tp_f, Nb.tp_s, Nb.tp_d, Nb.v_pairD, Nb.oa_o, Nb.oa_v, Nb.v_retP, Nb.rp_d, Nb.rp_t, Nb.v_unpP, Nb.up_d, Nb.up_t, Nb.v_putO, Nb.po_n, Nb.po_v, Nb.po_o, Nb.v_parO, Nb.pr_ff, Nb.v_mLcO, Nb.la_o, Nb.la_v, Nb.nn_n, Nb.v_ix1P, Nb.i1_t, Nb.i1_d, Nb.kO_t, Nb.v_inN, Nb.v_ixN, Nb.v_setN, Nb.is_n, Nb.nio_no, Nb.nio_v, Nb.nio_n, Nb.v_putN, Nb.oe_s, Nb.oe_n, Nb.v_c, Nb.v_var, Nb.vs_v, Nb.vs_o, Nb.vs_io, Nb.w_d, Nb.w_f, Nb.w_s, Nb.ws_o, Nb.ws_io, Nb.ws_v, Nb.cl_l, Nb.cl_d, Nb.a_d, Nb.a_f, Nb.a_s, Nb.as_o, Nb.as_v, Nb.as_nil, Nb.as_cons, Nb.v_m2, Nb.v_ap2, Nb.v_m1, Nb.v_ap1, Nb.v_set, Nb.sd_no, Nb.sd_v, Nb.sd_o, Nb.sf_no, Nb.sf_v, Nb.sf_o, Nb.ss_no, Nb.ss_v, Nb.ss_oo, Nb.v_nil, Nb.v_cons, Nb.v_tup, Nb.v_lst, Nb.v_rep, Nb.w_nil, Nb.w_cons, Nb.v_mA, Nb.p_nil, Nb.p_t, Nb.p_f, Nb.x_d, Nb.x_f, Nb.x_s, Nb.xs_v, Nb.xs_o, Nb.xs_io, Nb.ce_nil, Nb.ce_v, Nb.ce_i, Nb.cs_o, Nb.cs_io, Nb.sl_nil, Nb.sl_v, Nb.sl_i, Nb.fo_ok, Nb.fo_okt, Nb.fo_oko, Nb.fo_ex, Nb.v_mF, Nb.pb_nil, Nb.pb_v, Nb.pb_i, Nb.ss_o, Nb.ss_io, Nb.b_b, Nb.v_toB, Nb.v_mTst, Nb.v_and, Nb.v_or, Nb.v_not, Nb.v_if, Nb.v_andV, Nb.v_orV, Nb.v_notV, Nb.v_m3, Nb.v_inR, Nb.v_part0, Nb.i_i, Nb.v_part1, Nb.v_sl, Nb.v_dc0, Nb.v_dc1, Nb.v_seq, Nb.n_rt, Nb.n_rtt, Nb.n_rto, Nb.n_bk, Nb.n_ct, Nb.n_ex, Nb.n_bad, Nb.v_nop, Nb.v_brk, Nb.v_cnt, Nb.v_expr, Nb.v_ifS, Nb.v_ret, Nb.v_retN, Nb.r_d, Nb.r_f, Nb.r_s, Nb.rs_o, Nb.rs_v, Nb.v_asg, Nb.t_nm, Nb.t_nil, Nb.t_cons, Nb.t_tp, Nb.ps_2, Nb.v_par, Nb.v_for, Nb.v_items, Nb.it_l, Nb.it_t, Nb.v_src, Nb.rg1, Nb.rg2, Nb.v_enum, Nb.eo_1, Nb.v_zip, Nb.v_zipD, Nb.zo_l, Nb.zo_t, Nb.v_mut, Nb.il_o, Nb.il_io, Nb.v_apMut, Nb.mu_o, Nb.mu_io, Nb.v_gPut, Nb.pu_o, Nb.pu_io, Nb.v_augS, Nb.id_i, Nb.cl_o, Nb.cl_io, Nb.v_dict, Nb.ky_i, Nb.ky_s, Nb.v_keys, Nb.ko_f, Nb.v_gPutA, Nb.pd_o, Nb.ic_o, Nb.ic_io, Nb.v_mLc, Nb.wi_nil, Nb.wi_cons, Nb.wp_no, Nb.wp_v, Nb.re_nil, Nb.re_cons, Nb.rt_nn, Nb.rt_vn, Nb.rt_nv, Nb.rt_vv, Nb.f1, Nb.f2, Nb.f3, Nb.f4, Nb.f5, Nb.fs_nx, Nb.fs_rt, Nb.fs_rtt, Nb.fs_rto, Nb.ou_0, Nb.ou_s, Nb.io_no, Nb.io_v, Nb.io_o, Nb.io_io, Nb.g0, Nb.g1, Nb.s0, Nb.s1, Nb.ln_le, Nb.ln_lt, Nb.o_add, Nb.o_sub, Nb.o_mulr, Nb.o_mull, Nb.o_fdiv, Nb.o_mod, Nb.o_neg, Nb.o_cmp, Nb.o_max2, Nb.o_min2, Nb.o_int_b, Nb.o_lenL, Nb.o_lenT, Nb.o_pow, Nb.o_slL, Nb.o_slT, Nb.o_repT, Nb.v_apR, Nb.o_inD, Nb.o_inL, Nb.o_inT, Nb.o_list_l, Nb.o_list_t, Nb.o_tup_l, Nb.o_tup_t, Nb.o_addL, Nb.o_addT, Nb.o_eq, Nb.o_ne, Nb.o_extL, Nb.o_extT, Nb.o_app, Nb.at0, Nb.ix_in, Nb.at1, Nb.at2, Nb.pick_in, Nb.o_ixL, Nb.o_ixT, Nb.o_ixLn, Nb.o_ixTn, Nb.pk0, Nb.pk1, Nb.pk2, Nb.o_eqi, Nb.o_eqb, Nb.o_nei, Nb.o_divmod, Nb.o_all, Nb.o_sum, Nb.v_exc, Nb.ex_x, Nb.fl_house, Nb.fl_nobody, Nb.fl_text, Nb.fl_open, Nb.fl_many, Nb.fl_most, Nb.v_throw, Nb.v_throwF1, Nb.v_throwF2, Nb.sm_log, Nb.v_try, Nb.tr_nx, Nb.tr_rt, Nb.tr_rtt, Nb.tr_rto, Nb.tr_c0, Nb.tr_c1, Nb.tr_c2, Nb.tr_c3, Nb.tr_c4, Nb.tr_c5, Nb.tr_c6, Nb.tr_c7, Nb.tr_c8, Nb.tr_c9, Nb.tr_c10, Nb.tr_c11, Nb.v_putX, Nb.px_no, Nb.px_v, Nb.ox_nx, Nb.ox_rt, Nb.ox_rto, Nb.v_endX, Nb.en_x, Nb.cl_nil, Nb.cl_cons, Nb.cl_no, Nb.cl_v, Nb.cl_oo, Nb.cl_ioo, Nb.cl_x, Nb.io_x, Nb.vs_x, Nb.xs_x, Nb.fs_ex, Nb.lo_ex, Nb.ce_x, Nb.sl_x, Nb.pb_x, Nb.v_m2T, Nb.kd_l, Nb.kd_t, Nb.me_1, Nb.me_2, Nb.me_3, Nb.o_revL, Nb.o_revT, Nb.o_lr1, Nb.o_tr1, Nb.o_eqs, Nb.o_nes, R.elim_ok, R.elim_ex, R.elim_bad, Out.next_nx, Option.bind_some, Option.map_some, Option.bind_none, Option.map_none, List.cons_append, List.nil_append, List.replicate_succ, List.replicate_zero, Nat.reduceSub, Nat.reduceAdd, if_true, if_false, Bool.not_true, Bool.not_false, Bool.false_eq_true, List.length_cons, List.length_nil, List.append_nil, Int.reduceToNat, List.set_cons_zero, List.set_cons_succ, decide_true, decide_false, Int.reduceEq, Int.reduceLT, Int.reduceLE, List.nodup_nil, Nb.rb_n2, Nb.rb_p2, Nb.rb_n1, Nb.rb_p1, and_self, and_true, true_and, and_false, false_and, not_true_eq_false, not_false_eq_true, Nb.nd1, Nb.nd2, Nb.nd3, Nb.k_int, Nb.k_bool, Nb.k_tuple, Nb.k_list, Nb.k_str, Nb.cast_lit, Nb.o_inI, Nb.o_inIT, Nb.o_sortU, Nb.o_sorted, Nb.o_sortT, Nb.o_neL0, Nb.o_neb, Nb.o_eqT0, Nb.o_pop, Nb.hasK_T, Nb.o_sumT, Nb.o_sumL, Nb.pick_ints, Nb.pick_rows, Nb.o_eqT, Nb.o_neT, Nb.o_eqL, Nb.o_neL, Nb.o_eqR, Nb.o_neR, Nb.all_map', Int.reduceNeg, Nb.o_cntT, Nb.o_cntL, Nb.ints_rev, Bool.false_bne, Bool.true_bne, Bool.and_self, Bool.or_self, Bool.true_and, Bool.and_true, Bool.false_and, Bool.and_false, Bool.true_or, Bool.or_true, Bool.false_or, Bool.or_false]) T [.v (housD hs), .v (tupI as), .v (.int k), .n [], .o (.lst []), .no] ⟨0, by omega, rfl⟩
  have hv := seen_yes hR
  have hLl : ((List.range T).map (fun t => stD (wS hs as k t))).length = T := by simp
  unfold d18
  generalize (List.range T).map (fun t => stD (wS hs as k t)) = L at hw hLl
  cases hw2 : wS hs as k T with
  | mk A p =>
    rw [hw2] at hv hw
    generalize seenL (wS hs as k) T = sn at hv hw
    simp -implicitDefEqProofs (maxSteps := 4000000) (disch := first | with_unfolding_all rfl | omega | (simp only [List.length_append, List.length_cons, List.length_nil, List.length_map, List.length_replicate, List.length_take, List.length_drop]; omega)) only [hw, hv, hLl, Nb.v_zipM, Nb.zm_ll, Nb.zm_lt, Nb.zm_tl, Nb.zm_tt, Nb.fp_ok, Nb.fp_okt, Nb.fp_ex, Nb.v_mFP, Nb.v_tupP, Nb.tp_f, Nb.tp_s, Nb.tp_d, Nb.v_pairD, Nb.oa_o, Nb.oa_v, Nb.v_retP, Nb.rp_d, Nb.rp_t, Nb.v_unpP, Nb.up_d, Nb.up_t, Nb.v_putO, Nb.po_n, Nb.po_v, Nb.po_o, Nb.v_parO, Nb.pr_ff, Nb.v_mLcO, Nb.la_o, Nb.la_v, Nb.nn_n, Nb.v_ix1P, Nb.i1_t, Nb.i1_d, Nb.kO_t, Nb.v_inN, Nb.v_ixN, Nb.v_setN, Nb.is_n, Nb.nio_no, Nb.nio_v, Nb.nio_n, Nb.v_putN, Nb.oe_s, Nb.oe_n, Nb.v_c, Nb.v_var, Nb.vs_v, Nb.vs_o, Nb.vs_io, Nb.w_d, Nb.w_f, Nb.w_s, Nb.ws_o, Nb.ws_io, Nb.ws_v, Nb.cl_l, Nb.cl_d, Nb.a_d, Nb.a_f, Nb.a_s, Nb.as_o, Nb.as_v, Nb.as_nil, Nb.as_cons, Nb.v_m2, Nb.v_ap2, Nb.v_m1, Nb.v_ap1, Nb.v_set, Nb.sd_no, Nb.sd_v, Nb.sd_o, Nb.sf_no, Nb.sf_v, Nb.sf_o, Nb.ss_no, Nb.ss_v, Nb.ss_oo, Nb.v_nil, Nb.v_cons, Nb.v_tup, Nb.v_lst, Nb.v_rep, Nb.w_nil, Nb.w_cons, Nb.v_mA, Nb.p_nil, Nb.p_t, Nb.p_f, Nb.x_d, Nb.x_f, Nb.x_s, Nb.xs_v, Nb.xs_o, Nb.xs_io, Nb.ce_nil, Nb.ce_v, Nb.ce_i, Nb.cs_o, Nb.cs_io, Nb.sl_nil, Nb.sl_v, Nb.sl_i, Nb.fo_ok, Nb.fo_okt, Nb.fo_oko, Nb.fo_ex, Nb.v_mF, Nb.pb_nil, Nb.pb_v, Nb.pb_i, Nb.ss_o, Nb.ss_io, Nb.b_b, Nb.v_toB, Nb.v_mTst, Nb.v_and, Nb.v_or, Nb.v_not, Nb.v_if, Nb.v_andV, Nb.v_orV, Nb.v_notV, Nb.v_m3, Nb.v_inR, Nb.v_part0, Nb.i_i, Nb.v_part1, Nb.v_sl, Nb.v_dc0, Nb.v_dc1, Nb.v_seq, Nb.n_rt, Nb.n_rtt, Nb.n_rto, Nb.n_bk, Nb.n_ct, Nb.n_ex, Nb.n_bad, Nb.v_nop, Nb.v_brk, Nb.v_cnt, Nb.v_expr, Nb.v_ifS, Nb.v_ret, Nb.v_retN, Nb.r_d, Nb.r_f, Nb.r_s, Nb.rs_o, Nb.rs_v, Nb.v_asg, Nb.t_nm, Nb.t_nil, Nb.t_cons, Nb.t_tp, Nb.ps_2, Nb.v_par, Nb.v_for, Nb.v_items, Nb.it_l, Nb.it_t, Nb.v_src, Nb.rg1, Nb.rg2, Nb.v_enum, Nb.eo_1, Nb.v_zip, Nb.v_zipD, Nb.zo_l, Nb.zo_t, Nb.v_mut, Nb.il_o, Nb.il_io, Nb.v_apMut, Nb.mu_o, Nb.mu_io, Nb.v_gPut, Nb.pu_o, Nb.pu_io, Nb.v_augS, Nb.id_i, Nb.cl_o, Nb.cl_io, Nb.v_dict, Nb.ky_i, Nb.ky_s, Nb.v_keys, Nb.ko_f, Nb.v_gPutA, Nb.pd_o, Nb.ic_o, Nb.ic_io, Nb.v_mLc, Nb.wi_nil, Nb.wi_cons, Nb.wp_no, Nb.wp_v, Nb.re_nil, Nb.re_cons, Nb.rt_nn, Nb.rt_vn, Nb.rt_nv, Nb.rt_vv, Nb.f1, Nb.f2, Nb.f3, Nb.f4, Nb.f5, Nb.fs_nx, Nb.fs_rt, Nb.fs_rtt, Nb.fs_rto, Nb.ou_0, Nb.ou_s, Nb.io_no, Nb.io_v, Nb.io_o, Nb.io_io, Nb.g0, Nb.g1, Nb.s0, Nb.s1, Nb.ln_le, Nb.ln_lt, Nb.o_add, Nb.o_sub, Nb.o_mulr, Nb.o_mull, Nb.o_fdiv, Nb.o_mod, Nb.o_neg, Nb.o_cmp, Nb.o_max2, Nb.o_min2, Nb.o_int_b, Nb.o_lenL, Nb.o_lenT, Nb.o_pow, Nb.o_slL, Nb.o_slT, Nb.o_repT, Nb.v_apR, Nb.o_inD, Nb.o_inL, Nb.o_inT, Nb.o_list_l, Nb.o_list_t, Nb.o_tup_l, Nb.o_tup_t, Nb.o_addL, Nb.o_addT, Nb.o_eq, Nb.o_ne, Nb.o_extL, Nb.o_extT, Nb.o_app, Nb.at0, Nb.ix_in, Nb.at1, Nb.at2, Nb.pick_in, Nb.o_ixL, Nb.o_ixT, Nb.o_ixLn, Nb.o_ixTn, Nb.pk0, Nb.pk1, Nb.pk2, Nb.o_eqi, Nb.o_eqb, Nb.o_nei, Nb.o_divmod, Nb.o_all, Nb.o_sum, Nb.v_exc, Nb.ex_x, Nb.fl_house, Nb.fl_nobody, Nb.fl_text, Nb.fl_open, Nb.fl_many, Nb.fl_most, Nb.v_throw, Nb.v_throwF1, Nb.v_throwF2, Nb.sm_log, Nb.v_try, Nb.tr_nx, Nb.tr_rt, Nb.tr_rtt, Nb.tr_rto, Nb.tr_c0, Nb.tr_c1, Nb.tr_c2, Nb.tr_c3, Nb.tr_c4, Nb.tr_c5, Nb.tr_c6, Nb.tr_c7, Nb.tr_c8, Nb.tr_c9, Nb.tr_c10, Nb.tr_c11, Nb.v_putX, Nb.px_no, Nb.px_v, Nb.ox_nx, Nb.ox_rt, Nb.ox_rto, Nb.v_endX, Nb.en_x, Nb.cl_nil, Nb.cl_cons, Nb.cl_no, Nb.cl_v, Nb.cl_oo, Nb.cl_ioo, Nb.cl_x, Nb.io_x, Nb.vs_x, Nb.xs_x, Nb.fs_ex, Nb.lo_ex, Nb.ce_x, Nb.sl_x, Nb.pb_x, Nb.v_m2T, Nb.kd_l, Nb.kd_t, Nb.me_1, Nb.me_2, Nb.me_3, Nb.o_revL, Nb.o_revT, Nb.o_lr1, Nb.o_tr1, Nb.o_eqs, Nb.o_nes, R.elim_ok, R.elim_ex, R.elim_bad, Out.next_nx, Option.bind_some, Option.map_some, Option.bind_none, Option.map_none, List.cons_append, List.nil_append, List.replicate_succ, List.replicate_zero, Nat.reduceSub, Nat.reduceAdd, if_true, if_false, Bool.not_true, Bool.not_false, Bool.false_eq_true, List.length_cons, List.length_nil, List.append_nil, Int.reduceToNat, List.set_cons_zero, List.set_cons_succ, decide_true, decide_false, Int.reduceEq, Int.reduceLT, Int.reduceLE, List.nodup_nil, Nb.rb_n2, Nb.rb_p2, Nb.rb_n1, Nb.rb_p1, and_self, and_true, true_and, and_false, false_and, not_true_eq_false, not_false_eq_true, Nb.nd1, Nb.nd2, Nb.nd3, Nb.k_int, Nb.k_bool, Nb.k_tuple, Nb.k_list, Nb.k_str, Nb.cast_lit, Nb.o_inI, Nb.o_inIT, Nb.o_sortU, Nb.o_sorted, Nb.o_sortT, Nb.o_neL0, Nb.o_neb, Nb.o_eqT0, Nb.o_pop, Nb.hasK_T, Nb.o_sumT, Nb.o_sumL, Nb.pick_ints, Nb.pick_rows, Nb.o_eqT, Nb.o_neT, Nb.o_eqL, Nb.o_neL, Nb.o_eqR, Nb.o_neR, Nb.all_map', Int.reduceNeg, Nb.o_cntT, Nb.o_cntL, Nb.ints_rev, Bool.false_bne, Bool.true_bne, Bool.and_self, Bool.or_self, Bool.true_and, Bool.and_true, Bool.false_and, Bool.and_false, Bool.true_or, Bool.or_true, Bool.false_or, Bool.or_false]
theorem ints_of {ys : List D} {P : Int → Prop} {n : Nat} {items : List D} (hlen : ys.length = items.length) (hn : items.length = n) (hP : ∀ (i : Nat) (d y : D), items[i]? = some d → ys[i]? = some y → ∃ k : Int, y = .int k ∧ P k) : ∃ ns : List Int, ys = ns.map PyData.int ∧ ns.length = n ∧ ∀ x ∈ ns, P x := by
  obtain ⟨ns, rfl⟩ := to_ints (ys := ys) fun y hy => by
    obtain ⟨i, hi⟩ := List.mem_iff_getElem?.mp hy
    have hil := (List.getElem?_eq_some_iff.mp hi).1
    obtain ⟨k, e, _⟩ := hP i _ y (List.getElem?_eq_getElem (by omega)) hi
    exact ⟨k, e⟩
  rw [List.length_map] at hlen
  refine ⟨ns, rfl, by omega, fun x hx => ?_⟩
  obtain ⟨i, hi⟩ := List.mem_iff_getElem?.mp hx
  have hil := (List.getElem?_eq_some_iff.mp hi).1
  obtain ⟨k, e, h⟩ := hP i _ (.int x) (List.getElem?_eq_getElem (by omega)) (by rw [List.getElem?_map, hi]; rfl)
  injection e with e
  rw [e]
  exact h
def ESh (c : Cl) (most doors : Nat) (many : Int) (rows : List (List Int)) (s5 s6 s7 : Sl) : Ev := [.io c, .v (.int most), .v (.int doors), .v (.int many), .o (.lst (rows.map tupI)), s5, s6, s7, .no]
theorem shutroom {c : Cl} (hc : Pen c) {most doors : Nat} {many : Int} {rows : List (List Int)} {s5 s6 s7 : Sl} {k : Nat} (f5 : Fr s5) (f6 : Fr s6) (f7 : Fo' s7) (hm : 1 ≤ many) (hm2 : many ≤ 1000) (hd : 1 ≤ doors) (hd2 : doors ≤ 900) (hl : rows.length ≤ 1000) :
    ∃ c' r t6 t7, Pen c' ∧ 1 ≤ r.length ∧ r.length ≤ doors ∧ (∀ x ∈ r, 0 ≤ x ∧ x < many) ∧ Fr t6 ∧ Fo' t7 ∧ stepS (gNm 5) d14b0 (.int k) (ESh c most doors many rows s5 s6 s7) = .nx (ESh c' most doors many (rows ++ [r]) (.v (.int k)) t6 t7) := by
  obtain ⟨c1, w, p1, w0, w1, e1⟩ := draw_ok (m := (doors : Int)) hc (by omega) (by omega)
  obtain ⟨ys, e', hcomp, ⟨c2, p2, rfl⟩, hlen, hP⟩ := compD_st (vs := [8]) (g := gNm 8) (me := d14e0) (I := fun env => ∃ c, Pen c ∧ env = ESh c most doors many rows (.v (.int k)) (.v (.int (1 + w))) s7) (P := fun _ y => ∃ n : Int, y = .int n ∧ 0 ≤ n ∧ n < many) (items := rngD 0 (1 + w)) (env := ESh c1 most doors many rows (.v (.int k)) (.v (.int (1 + w))) s7) (acc := []) ⟨c1, p1, rfl⟩ (fun d' _ env ⟨c, hc, he⟩ => by
    subst he
    obtain ⟨c', n, a1, a2, a3, a4⟩ := draw_ok (m := many) hc (by omega) (by omega)
    refine ⟨.int n, ESh c' most doors many rows (.v (.int k)) (.v (.int (1 + w))) s7, ?_, ⟨n, rfl, a2, a3⟩, c', a1, rfl⟩
    unfold turn ESh
    simp -implicitDefEqProofs (maxSteps := 4000000) (disch := first | with_unfolding_all rfl | omega | (simp only [List.length_append, List.length_cons, List.length_nil, List.length_map, List.length_replicate, List.length_take, List.length_drop]; omega)) only [d14e0, a4, Nb.v_zipM, Nb.zm_ll, Nb.zm_lt, Nb.zm_tl, Nb.zm_tt, Nb.fp_ok, Nb.fp_okt, Nb.fp_ex, Nb.v_mFP, Nb.v_tupP, Nb.tp_f, Nb.tp_s, Nb.tp_d, Nb.v_pairD, Nb.oa_o, Nb.oa_v, Nb.v_retP, Nb.rp_d, Nb.rp_t, Nb.v_unpP, Nb.up_d, Nb.up_t, Nb.v_putO, Nb.po_n, Nb.po_v, Nb.po_o, Nb.v_parO, Nb.pr_ff, Nb.v_mLcO, Nb.la_o, Nb.la_v, Nb.nn_n, Nb.v_ix1P, Nb.i1_t, Nb.i1_d, Nb.kO_t, Nb.v_inN, Nb.v_ixN, Nb.v_setN, Nb.is_n, Nb.nio_no, Nb.nio_v, Nb.nio_n, Nb.v_putN, Nb.oe_s, Nb.oe_n, Nb.v_c, Nb.v_var, Nb.vs_v, Nb.vs_o, Nb.vs_io, Nb.w_d, Nb.w_f, Nb.w_s, Nb.ws_o, Nb.ws_io, Nb.ws_v, Nb.cl_l, Nb.cl_d, Nb.a_d, Nb.a_f, Nb.a_s, Nb.as_o, Nb.as_v, Nb.as_nil, Nb.as_cons, Nb.v_m2, Nb.v_ap2, Nb.v_m1, Nb.v_ap1, Nb.v_set, Nb.sd_no, Nb.sd_v, Nb.sd_o, Nb.sf_no, Nb.sf_v, Nb.sf_o, Nb.ss_no, Nb.ss_v, Nb.ss_oo, Nb.v_nil, Nb.v_cons, Nb.v_tup, Nb.v_lst, Nb.v_rep, Nb.w_nil, Nb.w_cons, Nb.v_mA, Nb.p_nil, Nb.p_t, Nb.p_f, Nb.x_d, Nb.x_f, Nb.x_s, Nb.xs_v, Nb.xs_o, Nb.xs_io, Nb.ce_nil, Nb.ce_v, Nb.ce_i, Nb.cs_o, Nb.cs_io, Nb.sl_nil, Nb.sl_v, Nb.sl_i, Nb.fo_ok, Nb.fo_okt, Nb.fo_oko, Nb.fo_ex, Nb.v_mF, Nb.pb_nil, Nb.pb_v, Nb.pb_i, Nb.ss_o, Nb.ss_io, Nb.b_b, Nb.v_toB, Nb.v_mTst, Nb.v_and, Nb.v_or, Nb.v_not, Nb.v_if, Nb.v_andV, Nb.v_orV, Nb.v_notV, Nb.v_m3, Nb.v_inR, Nb.v_part0, Nb.i_i, Nb.v_part1, Nb.v_sl, Nb.v_dc0, Nb.v_dc1, Nb.v_seq, Nb.n_rt, Nb.n_rtt, Nb.n_rto, Nb.n_bk, Nb.n_ct, Nb.n_ex, Nb.n_bad, Nb.v_nop, Nb.v_brk, Nb.v_cnt, Nb.v_expr, Nb.v_ifS, Nb.v_ret, Nb.v_retN, Nb.r_d, Nb.r_f, Nb.r_s, Nb.rs_o, Nb.rs_v, Nb.v_asg, Nb.t_nm, Nb.t_nil, Nb.t_cons, Nb.t_tp, Nb.ps_2, Nb.v_par, Nb.v_for, Nb.v_items, Nb.it_l, Nb.it_t, Nb.v_src, Nb.rg1, Nb.rg2, Nb.v_enum, Nb.eo_1, Nb.v_zip, Nb.v_zipD, Nb.zo_l, Nb.zo_t, Nb.v_mut, Nb.il_o, Nb.il_io, Nb.v_apMut, Nb.mu_o, Nb.mu_io, Nb.v_gPut, Nb.pu_o, Nb.pu_io, Nb.v_augS, Nb.id_i, Nb.cl_o, Nb.cl_io, Nb.v_dict, Nb.ky_i, Nb.ky_s, Nb.v_keys, Nb.ko_f, Nb.v_gPutA, Nb.pd_o, Nb.ic_o, Nb.ic_io, Nb.v_mLc, Nb.wi_nil, Nb.wi_cons, Nb.wp_no, Nb.wp_v, Nb.re_nil, Nb.re_cons, Nb.rt_nn, Nb.rt_vn, Nb.rt_nv, Nb.rt_vv, Nb.f1, Nb.f2, Nb.f3, Nb.f4, Nb.f5, Nb.fs_nx, Nb.fs_rt, Nb.fs_rtt, Nb.fs_rto, Nb.ou_0, Nb.ou_s, Nb.io_no, Nb.io_v, Nb.io_o, Nb.io_io, Nb.g0, Nb.g1, Nb.s0, Nb.s1, Nb.ln_le, Nb.ln_lt, Nb.o_add, Nb.o_sub, Nb.o_mulr, Nb.o_mull, Nb.o_fdiv, Nb.o_mod, Nb.o_neg, Nb.o_cmp, Nb.o_max2, Nb.o_min2, Nb.o_int_b, Nb.o_lenL, Nb.o_lenT, Nb.o_pow, Nb.o_slL, Nb.o_slT, Nb.o_repT, Nb.v_apR, Nb.o_inD, Nb.o_inL, Nb.o_inT, Nb.o_list_l, Nb.o_list_t, Nb.o_tup_l, Nb.o_tup_t, Nb.o_addL, Nb.o_addT, Nb.o_eq, Nb.o_ne, Nb.o_extL, Nb.o_extT, Nb.o_app, Nb.at0, Nb.ix_in, Nb.at1, Nb.at2, Nb.pick_in, Nb.o_ixL, Nb.o_ixT, Nb.o_ixLn, Nb.o_ixTn, Nb.pk0, Nb.pk1, Nb.pk2, Nb.o_eqi, Nb.o_eqb, Nb.o_nei, Nb.o_divmod, Nb.o_all, Nb.o_sum, Nb.v_exc, Nb.ex_x, Nb.fl_house, Nb.fl_nobody, Nb.fl_text, Nb.fl_open, Nb.fl_many, Nb.fl_most, Nb.v_throw, Nb.v_throwF1, Nb.v_throwF2, Nb.sm_log, Nb.v_try, Nb.tr_nx, Nb.tr_rt, Nb.tr_rtt, Nb.tr_rto, Nb.tr_c0, Nb.tr_c1, Nb.tr_c2, Nb.tr_c3, Nb.tr_c4, Nb.tr_c5, Nb.tr_c6, Nb.tr_c7, Nb.tr_c8, Nb.tr_c9, Nb.tr_c10, Nb.tr_c11, Nb.v_putX, Nb.px_no, Nb.px_v, Nb.ox_nx, Nb.ox_rt, Nb.ox_rto, Nb.v_endX, Nb.en_x, Nb.cl_nil, Nb.cl_cons, Nb.cl_no, Nb.cl_v, Nb.cl_oo, Nb.cl_ioo, Nb.cl_x, Nb.io_x, Nb.vs_x, Nb.xs_x, Nb.fs_ex, Nb.lo_ex, Nb.ce_x, Nb.sl_x, Nb.pb_x, Nb.v_m2T, Nb.kd_l, Nb.kd_t, Nb.me_1, Nb.me_2, Nb.me_3, Nb.o_revL, Nb.o_revT, Nb.o_lr1, Nb.o_tr1, Nb.o_eqs, Nb.o_nes, R.elim_ok, R.elim_ex, R.elim_bad, Out.next_nx, Option.bind_some, Option.map_some, Option.bind_none, Option.map_none, List.cons_append, List.nil_append, List.replicate_succ, List.replicate_zero, Nat.reduceSub, Nat.reduceAdd, if_true, if_false, Bool.not_true, Bool.not_false, Bool.false_eq_true, List.length_cons, List.length_nil, List.append_nil, Int.reduceToNat, List.set_cons_zero, List.set_cons_succ, decide_true, decide_false, Int.reduceEq, Int.reduceLT, Int.reduceLE, List.nodup_nil, Nb.rb_n2, Nb.rb_p2, Nb.rb_n1, Nb.rb_p1, and_self, and_true, true_and, and_false, false_and, not_true_eq_false, not_false_eq_true, Nb.nd1, Nb.nd2, Nb.nd3, Nb.k_int, Nb.k_bool, Nb.k_tuple, Nb.k_list, Nb.k_str, Nb.cast_lit, Nb.o_inI, Nb.o_inIT, Nb.o_sortU, Nb.o_sorted, Nb.o_sortT, Nb.o_neL0, Nb.o_neb, Nb.o_eqT0, Nb.o_pop, Nb.hasK_T, Nb.o_sumT, Nb.o_sumL, Nb.pick_ints, Nb.pick_rows, Nb.o_eqT, Nb.o_neT, Nb.o_eqL, Nb.o_neL, Nb.o_eqR, Nb.o_neR, Nb.all_map', Int.reduceNeg, Nb.o_cntT, Nb.o_cntL, Nb.ints_rev, Bool.false_bne, Bool.true_bne, Bool.and_self, Bool.or_self, Bool.true_and, Bool.and_true, Bool.false_and, Bool.and_false, Bool.true_or, Bool.or_true, Bool.false_or, Bool.or_false]) (by rw [rngD_len]; simp [line]; omega)
  rw [rngD_len] at hlen
  obtain ⟨ns, rfl, hn1, hn2⟩ := ints_of (n := (1 + w).toNat) (items := rngD 0 (1 + w)) (P := fun n => 0 ≤ n ∧ n < many) (by rw [rngD_len]; exact hlen) (by rw [rngD_len]; omega) hP
  obtain ⟨c3, q, p3, q0, q1, e3⟩ := draw_ok (m := 2) p2 (by omega) (by omega)
  by_cases hq : q = 1
  · have hmod : 0 ≤ ((k : Int) + 1) % many ∧ ((k : Int) + 1) % many < many := ⟨Int.emod_nonneg _ (by omega), Int.emod_lt_of_pos _ (by omega)⟩
    have hset : (ns.map PyData.int).set 0 (.int (((k : Int) + 1) % many)) = (ns.set 0 (((k : Int) + 1) % many)).map PyData.int := by rw [List.map_set]
    have hix : ixN ns.length 0 = some 0 := by rw [ix_in (by omega) (by omega)]; rfl
    refine ⟨c3, ns.set 0 (((k : Int) + 1) % many), .v (.int (1 + w)), .o (.lst ((ns.set 0 (((k : Int) + 1) % many)).map PyData.int)), p3, by rw [List.length_set]; omega, by rw [List.length_set]; omega, fun x hx => ?_, .v, .o, ?_⟩
    · rcases List.mem_or_eq_of_mem_set hx with hx | rfl
      · exact hn2 x hx
      · exact hmod
    · unfold stepS
      unfold ESh at hcomp ⊢
      simp -implicitDefEqProofs (maxSteps := 4000000) (disch := first | with_unfolding_all rfl | omega | (simp only [List.length_append, List.length_cons, List.length_nil, List.length_map, List.length_replicate, List.length_take, List.length_drop]; omega)) only [d14b0, f5.d, f6.d, f7.f, e1, hcomp, e3, hq, List.length_map, hix, hset, hl, Nb.v_zipM, Nb.zm_ll, Nb.zm_lt, Nb.zm_tl, Nb.zm_tt, Nb.fp_ok, Nb.fp_okt, Nb.fp_ex, Nb.v_mFP, Nb.v_tupP, Nb.tp_f, Nb.tp_s, Nb.tp_d, Nb.v_pairD, Nb.oa_o, Nb.oa_v, Nb.v_retP, Nb.rp_d, Nb.rp_t, Nb.v_unpP, Nb.up_d, Nb.up_t, Nb.v_putO, Nb.po_n, Nb.po_v, Nb.po_o, Nb.v_parO, Nb.pr_ff, Nb.v_mLcO, Nb.la_o, Nb.la_v, Nb.nn_n, Nb.v_ix1P, Nb.i1_t, Nb.i1_d, Nb.kO_t, Nb.v_inN, Nb.v_ixN, Nb.v_setN, Nb.is_n, Nb.nio_no, Nb.nio_v, Nb.nio_n, Nb.v_putN, Nb.oe_s, Nb.oe_n, Nb.v_c, Nb.v_var, Nb.vs_v, Nb.vs_o, Nb.vs_io, Nb.w_d, Nb.w_f, Nb.w_s, Nb.ws_o, Nb.ws_io, Nb.ws_v, Nb.cl_l, Nb.cl_d, Nb.a_d, Nb.a_f, Nb.a_s, Nb.as_o, Nb.as_v, Nb.as_nil, Nb.as_cons, Nb.v_m2, Nb.v_ap2, Nb.v_m1, Nb.v_ap1, Nb.v_set, Nb.sd_no, Nb.sd_v, Nb.sd_o, Nb.sf_no, Nb.sf_v, Nb.sf_o, Nb.ss_no, Nb.ss_v, Nb.ss_oo, Nb.v_nil, Nb.v_cons, Nb.v_tup, Nb.v_lst, Nb.v_rep, Nb.w_nil, Nb.w_cons, Nb.v_mA, Nb.p_nil, Nb.p_t, Nb.p_f, Nb.x_d, Nb.x_f, Nb.x_s, Nb.xs_v, Nb.xs_o, Nb.xs_io, Nb.ce_nil, Nb.ce_v, Nb.ce_i, Nb.cs_o, Nb.cs_io, Nb.sl_nil, Nb.sl_v, Nb.sl_i, Nb.fo_ok, Nb.fo_okt, Nb.fo_oko, Nb.fo_ex, Nb.v_mF, Nb.pb_nil, Nb.pb_v, Nb.pb_i, Nb.ss_o, Nb.ss_io, Nb.b_b, Nb.v_toB, Nb.v_mTst, Nb.v_and, Nb.v_or, Nb.v_not, Nb.v_if, Nb.v_andV, Nb.v_orV, Nb.v_notV, Nb.v_m3, Nb.v_inR, Nb.v_part0, Nb.i_i, Nb.v_part1, Nb.v_sl, Nb.v_dc0, Nb.v_dc1, Nb.v_seq, Nb.n_rt, Nb.n_rtt, Nb.n_rto, Nb.n_bk, Nb.n_ct, Nb.n_ex, Nb.n_bad, Nb.v_nop, Nb.v_brk, Nb.v_cnt, Nb.v_expr, Nb.v_ifS, Nb.v_ret, Nb.v_retN, Nb.r_d, Nb.r_f, Nb.r_s, Nb.rs_o, Nb.rs_v, Nb.v_asg, Nb.t_nm, Nb.t_nil, Nb.t_cons, Nb.t_tp, Nb.ps_2, Nb.v_par, Nb.v_for, Nb.v_items, Nb.it_l, Nb.it_t, Nb.v_src, Nb.rg1, Nb.rg2, Nb.v_enum, Nb.eo_1, Nb.v_zip, Nb.v_zipD, Nb.zo_l, Nb.zo_t, Nb.v_mut, Nb.il_o, Nb.il_io, Nb.v_apMut, Nb.mu_o, Nb.mu_io, Nb.v_gPut, Nb.pu_o, Nb.pu_io, Nb.v_augS, Nb.id_i, Nb.cl_o, Nb.cl_io, Nb.v_dict, Nb.ky_i, Nb.ky_s, Nb.v_keys, Nb.ko_f, Nb.v_gPutA, Nb.pd_o, Nb.ic_o, Nb.ic_io, Nb.v_mLc, Nb.wi_nil, Nb.wi_cons, Nb.wp_no, Nb.wp_v, Nb.re_nil, Nb.re_cons, Nb.rt_nn, Nb.rt_vn, Nb.rt_nv, Nb.rt_vv, Nb.f1, Nb.f2, Nb.f3, Nb.f4, Nb.f5, Nb.fs_nx, Nb.fs_rt, Nb.fs_rtt, Nb.fs_rto, Nb.ou_0, Nb.ou_s, Nb.io_no, Nb.io_v, Nb.io_o, Nb.io_io, Nb.g0, Nb.g1, Nb.s0, Nb.s1, Nb.ln_le, Nb.ln_lt, Nb.o_add, Nb.o_sub, Nb.o_mulr, Nb.o_mull, Nb.o_fdiv, Nb.o_mod, Nb.o_neg, Nb.o_cmp, Nb.o_max2, Nb.o_min2, Nb.o_int_b, Nb.o_lenL, Nb.o_lenT, Nb.o_pow, Nb.o_slL, Nb.o_slT, Nb.o_repT, Nb.v_apR, Nb.o_inD, Nb.o_inL, Nb.o_inT, Nb.o_list_l, Nb.o_list_t, Nb.o_tup_l, Nb.o_tup_t, Nb.o_addL, Nb.o_addT, Nb.o_eq, Nb.o_ne, Nb.o_extL, Nb.o_extT, Nb.o_app, Nb.at0, Nb.ix_in, Nb.at1, Nb.at2, Nb.pick_in, Nb.o_ixL, Nb.o_ixT, Nb.o_ixLn, Nb.o_ixTn, Nb.pk0, Nb.pk1, Nb.pk2, Nb.o_eqi, Nb.o_eqb, Nb.o_nei, Nb.o_divmod, Nb.o_all, Nb.o_sum, Nb.v_exc, Nb.ex_x, Nb.fl_house, Nb.fl_nobody, Nb.fl_text, Nb.fl_open, Nb.fl_many, Nb.fl_most, Nb.v_throw, Nb.v_throwF1, Nb.v_throwF2, Nb.sm_log, Nb.v_try, Nb.tr_nx, Nb.tr_rt, Nb.tr_rtt, Nb.tr_rto, Nb.tr_c0, Nb.tr_c1, Nb.tr_c2, Nb.tr_c3, Nb.tr_c4, Nb.tr_c5, Nb.tr_c6, Nb.tr_c7, Nb.tr_c8, Nb.tr_c9, Nb.tr_c10, Nb.tr_c11, Nb.v_putX, Nb.px_no, Nb.px_v, Nb.ox_nx, Nb.ox_rt, Nb.ox_rto, Nb.v_endX, Nb.en_x, Nb.cl_nil, Nb.cl_cons, Nb.cl_no, Nb.cl_v, Nb.cl_oo, Nb.cl_ioo, Nb.cl_x, Nb.io_x, Nb.vs_x, Nb.xs_x, Nb.fs_ex, Nb.lo_ex, Nb.ce_x, Nb.sl_x, Nb.pb_x, Nb.v_m2T, Nb.kd_l, Nb.kd_t, Nb.me_1, Nb.me_2, Nb.me_3, Nb.o_revL, Nb.o_revT, Nb.o_lr1, Nb.o_tr1, Nb.o_eqs, Nb.o_nes, R.elim_ok, R.elim_ex, R.elim_bad, Out.next_nx, Option.bind_some, Option.map_some, Option.bind_none, Option.map_none, List.cons_append, List.nil_append, List.replicate_succ, List.replicate_zero, Nat.reduceSub, Nat.reduceAdd, if_true, if_false, Bool.not_true, Bool.not_false, Bool.false_eq_true, List.length_cons, List.length_nil, List.append_nil, Int.reduceToNat, List.set_cons_zero, List.set_cons_succ, decide_true, decide_false, Int.reduceEq, Int.reduceLT, Int.reduceLE, List.nodup_nil, Nb.rb_n2, Nb.rb_p2, Nb.rb_n1, Nb.rb_p1, and_self, and_true, true_and, and_false, false_and, not_true_eq_false, not_false_eq_true, Nb.nd1, Nb.nd2, Nb.nd3, Nb.k_int, Nb.k_bool, Nb.k_tuple, Nb.k_list, Nb.k_str, Nb.cast_lit, Nb.o_inI, Nb.o_inIT, Nb.o_sortU, Nb.o_sorted, Nb.o_sortT, Nb.o_neL0, Nb.o_neb, Nb.o_eqT0, Nb.o_pop, Nb.hasK_T, Nb.o_sumT, Nb.o_sumL, Nb.pick_ints, Nb.pick_rows, Nb.o_eqT, Nb.o_neT, Nb.o_eqL, Nb.o_neL, Nb.o_eqR, Nb.o_neR, Nb.all_map', Int.reduceNeg, Nb.o_cntT, Nb.o_cntL, Nb.ints_rev, Bool.false_bne, Bool.true_bne, Bool.and_self, Bool.or_self, Bool.true_and, Bool.and_true, Bool.false_and, Bool.and_false, Bool.true_or, Bool.or_true, Bool.false_or, Bool.or_false]
      rw [List.map_append]
      rfl
  · refine ⟨c3, ns, .v (.int (1 + w)), .o (.lst (ns.map PyData.int)), p3, by omega, by omega, hn2, .v, .o, ?_⟩
    unfold stepS
    unfold ESh at hcomp ⊢
    simp -implicitDefEqProofs (maxSteps := 4000000) (disch := first | with_unfolding_all rfl | omega | (simp only [List.length_append, List.length_cons, List.length_nil, List.length_map, List.length_replicate, List.length_take, List.length_drop]; omega)) only [d14b0, f5.d, f6.d, f7.f, e1, hcomp, e3, hq, List.length_map, hl, Nb.v_zipM, Nb.zm_ll, Nb.zm_lt, Nb.zm_tl, Nb.zm_tt, Nb.fp_ok, Nb.fp_okt, Nb.fp_ex, Nb.v_mFP, Nb.v_tupP, Nb.tp_f, Nb.tp_s, Nb.tp_d, Nb.v_pairD, Nb.oa_o, Nb.oa_v, Nb.v_retP, Nb.rp_d, Nb.rp_t, Nb.v_unpP, Nb.up_d, Nb.up_t, Nb.v_putO, Nb.po_n, Nb.po_v, Nb.po_o, Nb.v_parO, Nb.pr_ff, Nb.v_mLcO, Nb.la_o, Nb.la_v, Nb.nn_n, Nb.v_ix1P, Nb.i1_t, Nb.i1_d, Nb.kO_t, Nb.v_inN, Nb.v_ixN, Nb.v_setN, Nb.is_n, Nb.nio_no, Nb.nio_v, Nb.nio_n, Nb.v_putN, Nb.oe_s, Nb.oe_n, Nb.v_c, Nb.v_var, Nb.vs_v, Nb.vs_o, Nb.vs_io, Nb.w_d, Nb.w_f, Nb.w_s, Nb.ws_o, Nb.ws_io, Nb.ws_v, Nb.cl_l, Nb.cl_d, Nb.a_d, Nb.a_f, Nb.a_s, Nb.as_o, Nb.as_v, Nb.as_nil, Nb.as_cons, Nb.v_m2, Nb.v_ap2, Nb.v_m1, Nb.v_ap1, Nb.v_set, Nb.sd_no, Nb.sd_v, Nb.sd_o, Nb.sf_no, Nb.sf_v, Nb.sf_o, Nb.ss_no, Nb.ss_v, Nb.ss_oo, Nb.v_nil, Nb.v_cons, Nb.v_tup, Nb.v_lst, Nb.v_rep, Nb.w_nil, Nb.w_cons, Nb.v_mA, Nb.p_nil, Nb.p_t, Nb.p_f, Nb.x_d, Nb.x_f, Nb.x_s, Nb.xs_v, Nb.xs_o, Nb.xs_io, Nb.ce_nil, Nb.ce_v, Nb.ce_i, Nb.cs_o, Nb.cs_io, Nb.sl_nil, Nb.sl_v, Nb.sl_i, Nb.fo_ok, Nb.fo_okt, Nb.fo_oko, Nb.fo_ex, Nb.v_mF, Nb.pb_nil, Nb.pb_v, Nb.pb_i, Nb.ss_o, Nb.ss_io, Nb.b_b, Nb.v_toB, Nb.v_mTst, Nb.v_and, Nb.v_or, Nb.v_not, Nb.v_if, Nb.v_andV, Nb.v_orV, Nb.v_notV, Nb.v_m3, Nb.v_inR, Nb.v_part0, Nb.i_i, Nb.v_part1, Nb.v_sl, Nb.v_dc0, Nb.v_dc1, Nb.v_seq, Nb.n_rt, Nb.n_rtt, Nb.n_rto, Nb.n_bk, Nb.n_ct, Nb.n_ex, Nb.n_bad, Nb.v_nop, Nb.v_brk, Nb.v_cnt, Nb.v_expr, Nb.v_ifS, Nb.v_ret, Nb.v_retN, Nb.r_d, Nb.r_f, Nb.r_s, Nb.rs_o, Nb.rs_v, Nb.v_asg, Nb.t_nm, Nb.t_nil, Nb.t_cons, Nb.t_tp, Nb.ps_2, Nb.v_par, Nb.v_for, Nb.v_items, Nb.it_l, Nb.it_t, Nb.v_src, Nb.rg1, Nb.rg2, Nb.v_enum, Nb.eo_1, Nb.v_zip, Nb.v_zipD, Nb.zo_l, Nb.zo_t, Nb.v_mut, Nb.il_o, Nb.il_io, Nb.v_apMut, Nb.mu_o, Nb.mu_io, Nb.v_gPut, Nb.pu_o, Nb.pu_io, Nb.v_augS, Nb.id_i, Nb.cl_o, Nb.cl_io, Nb.v_dict, Nb.ky_i, Nb.ky_s, Nb.v_keys, Nb.ko_f, Nb.v_gPutA, Nb.pd_o, Nb.ic_o, Nb.ic_io, Nb.v_mLc, Nb.wi_nil, Nb.wi_cons, Nb.wp_no, Nb.wp_v, Nb.re_nil, Nb.re_cons, Nb.rt_nn, Nb.rt_vn, Nb.rt_nv, Nb.rt_vv, Nb.f1, Nb.f2, Nb.f3, Nb.f4, Nb.f5, Nb.fs_nx, Nb.fs_rt, Nb.fs_rtt, Nb.fs_rto, Nb.ou_0, Nb.ou_s, Nb.io_no, Nb.io_v, Nb.io_o, Nb.io_io, Nb.g0, Nb.g1, Nb.s0, Nb.s1, Nb.ln_le, Nb.ln_lt, Nb.o_add, Nb.o_sub, Nb.o_mulr, Nb.o_mull, Nb.o_fdiv, Nb.o_mod, Nb.o_neg, Nb.o_cmp, Nb.o_max2, Nb.o_min2, Nb.o_int_b, Nb.o_lenL, Nb.o_lenT, Nb.o_pow, Nb.o_slL, Nb.o_slT, Nb.o_repT, Nb.v_apR, Nb.o_inD, Nb.o_inL, Nb.o_inT, Nb.o_list_l, Nb.o_list_t, Nb.o_tup_l, Nb.o_tup_t, Nb.o_addL, Nb.o_addT, Nb.o_eq, Nb.o_ne, Nb.o_extL, Nb.o_extT, Nb.o_app, Nb.at0, Nb.ix_in, Nb.at1, Nb.at2, Nb.pick_in, Nb.o_ixL, Nb.o_ixT, Nb.o_ixLn, Nb.o_ixTn, Nb.pk0, Nb.pk1, Nb.pk2, Nb.o_eqi, Nb.o_eqb, Nb.o_nei, Nb.o_divmod, Nb.o_all, Nb.o_sum, Nb.v_exc, Nb.ex_x, Nb.fl_house, Nb.fl_nobody, Nb.fl_text, Nb.fl_open, Nb.fl_many, Nb.fl_most, Nb.v_throw, Nb.v_throwF1, Nb.v_throwF2, Nb.sm_log, Nb.v_try, Nb.tr_nx, Nb.tr_rt, Nb.tr_rtt, Nb.tr_rto, Nb.tr_c0, Nb.tr_c1, Nb.tr_c2, Nb.tr_c3, Nb.tr_c4, Nb.tr_c5, Nb.tr_c6, Nb.tr_c7, Nb.tr_c8, Nb.tr_c9, Nb.tr_c10, Nb.tr_c11, Nb.v_putX, Nb.px_no, Nb.px_v, Nb.ox_nx, Nb.ox_rt, Nb.ox_rto, Nb.v_endX, Nb.en_x, Nb.cl_nil, Nb.cl_cons, Nb.cl_no, Nb.cl_v, Nb.cl_oo, Nb.cl_ioo, Nb.cl_x, Nb.io_x, Nb.vs_x, Nb.xs_x, Nb.fs_ex, Nb.lo_ex, Nb.ce_x, Nb.sl_x, Nb.pb_x, Nb.v_m2T, Nb.kd_l, Nb.kd_t, Nb.me_1, Nb.me_2, Nb.me_3, Nb.o_revL, Nb.o_revT, Nb.o_lr1, Nb.o_tr1, Nb.o_eqs, Nb.o_nes, R.elim_ok, R.elim_ex, R.elim_bad, Out.next_nx, Option.bind_some, Option.map_some, Option.bind_none, Option.map_none, List.cons_append, List.nil_append, List.replicate_succ, List.replicate_zero, Nat.reduceSub, Nat.reduceAdd, if_true, if_false, Bool.not_true, Bool.not_false, Bool.false_eq_true, List.length_cons, List.length_nil, List.append_nil, Int.reduceToNat, List.set_cons_zero, List.set_cons_succ, decide_true, decide_false, Int.reduceEq, Int.reduceLT, Int.reduceLE, List.nodup_nil, Nb.rb_n2, Nb.rb_p2, Nb.rb_n1, Nb.rb_p1, and_self, and_true, true_and, and_false, false_and, not_true_eq_false, not_false_eq_true, Nb.nd1, Nb.nd2, Nb.nd3, Nb.k_int, Nb.k_bool, Nb.k_tuple, Nb.k_list, Nb.k_str, Nb.cast_lit, Nb.o_inI, Nb.o_inIT, Nb.o_sortU, Nb.o_sorted, Nb.o_sortT, Nb.o_neL0, Nb.o_neb, Nb.o_eqT0, Nb.o_pop, Nb.hasK_T, Nb.o_sumT, Nb.o_sumL, Nb.pick_ints, Nb.pick_rows, Nb.o_eqT, Nb.o_neT, Nb.o_eqL, Nb.o_neL, Nb.o_eqR, Nb.o_neR, Nb.all_map', Int.reduceNeg, Nb.o_cntT, Nb.o_cntL, Nb.ints_rev, Bool.false_bne, Bool.true_bne, Bool.and_self, Bool.or_self, Bool.true_and, Bool.and_true, Bool.false_and, Bool.and_false, Bool.true_or, Bool.or_true, Bool.false_or, Bool.or_false]
    rw [List.map_append]
    rfl
theorem lawshut_ok {c : Cl} (hc : Pen c) {most doors : Nat} (hm : 1 ≤ most) (hm2 : most ≤ 900) (hd : 1 ≤ doors) (hd2 : doors ≤ 900) : ∃ c' hs, Pen c' ∧ HouseOk hs most doors ∧ Shut hs ∧ d14 [.io c, .v (.int most), .v (.int doors)] = .ok (housD hs) [.io c', .no, .no] := by
  obtain ⟨c1, r, p1, r0, r1, e1⟩ := draw_ok (m := (most : Int)) hc (by omega) (by omega)
  obtain ⟨e', hf, c3, rows, s5, s6, s7, p3, f5, f6, f7, hl, hR, rfl⟩ := for_all (g := gNm 5) (body := d14b0) (items := rngD 0 (1 + r)) (I := fun k env => ∃ c rows s5 s6 s7, Pen c ∧ Fr s5 ∧ Fr s6 ∧ Fo' s7 ∧ rows.length = k ∧ (∀ q ∈ rows, 1 ≤ q.length ∧ q.length ≤ doors ∧ ∀ x ∈ q, 0 ≤ x ∧ x < 1 + r) ∧ env = ESh c most doors (1 + r) rows s5 s6 s7) (fun k d env hk ⟨c, rows, s5, s6, s7, pc, f5, f6, f7, hl, hR, he⟩ => by
    subst he
    obtain ⟨rfl, hkl⟩ := rngD_get hk
    rw [Int.zero_add] at hkl ⊢
    obtain ⟨c', q, t6, t7, a1, a2, a3, a4, g6, g7, a5⟩ := shutroom (most := most) (doors := doors) (many := 1 + r) (rows := rows) (k := k) pc f5 f6 f7 (by omega) (by omega) hd hd2 (by omega)
    refine ⟨_, .inl a5, c', rows ++ [q], _, t6, t7, a1, .v, g6, g7, by rw [List.length_append, hl]; rfl, fun q' hq' => ?_, rfl⟩
    rcases List.mem_append.mp hq' with h | h
    · exact hR q' h
    · rw [List.mem_singleton.mp h]
      exact ⟨a2, a3, a4⟩) (env := ESh c1 most doors (1 + r) [] .no .no .no) ⟨c1, [], _, _, _, p1, .no, .no, .no, rfl, (fun q h => nomatch h), rfl⟩
  rw [rngD_len] at hl
  have hlen : (rows.length : Int) = 1 + r := by omega
  refine ⟨c3, rows, p3, ⟨by omega, by omega, fun q hq => ?_⟩, fun k hk x hx => ?_, ?_⟩
  · obtain ⟨a, b, c⟩ := hR q hq
    exact ⟨a, b, fun x hx => by have := c x hx; omega⟩
  · exact ((hR _ (getD_mem hk)).2.2 x hx).1
  · unfold ESh at hf
    rw [List.map_nil] at hf
    unfold d14
    simp -implicitDefEqProofs (maxSteps := 4000000) (disch := first | with_unfolding_all rfl | omega | (simp only [List.length_append, List.length_cons, List.length_nil, List.length_map, List.length_replicate, List.length_take, List.length_drop]; omega)) only [e1, hf, Nb.v_zipM, Nb.zm_ll, Nb.zm_lt, Nb.zm_tl, Nb.zm_tt, Nb.fp_ok, Nb.fp_okt, Nb.fp_ex, Nb.v_mFP, Nb.v_tupP, Nb.tp_f, Nb.tp_s, Nb.tp_d, Nb.v_pairD, Nb.oa_o, Nb.oa_v, Nb.v_retP, Nb.rp_d, Nb.rp_t, Nb.v_unpP, Nb.up_d, Nb.up_t, Nb.v_putO, Nb.po_n, Nb.po_v, Nb.po_o, Nb.v_parO, Nb.pr_ff, Nb.v_mLcO, Nb.la_o, Nb.la_v, Nb.nn_n, Nb.v_ix1P, Nb.i1_t, Nb.i1_d, Nb.kO_t, Nb.v_inN, Nb.v_ixN, Nb.v_setN, Nb.is_n, Nb.nio_no, Nb.nio_v, Nb.nio_n, Nb.v_putN, Nb.oe_s, Nb.oe_n, Nb.v_c, Nb.v_var, Nb.vs_v, Nb.vs_o, Nb.vs_io, Nb.w_d, Nb.w_f, Nb.w_s, Nb.ws_o, Nb.ws_io, Nb.ws_v, Nb.cl_l, Nb.cl_d, Nb.a_d, Nb.a_f, Nb.a_s, Nb.as_o, Nb.as_v, Nb.as_nil, Nb.as_cons, Nb.v_m2, Nb.v_ap2, Nb.v_m1, Nb.v_ap1, Nb.v_set, Nb.sd_no, Nb.sd_v, Nb.sd_o, Nb.sf_no, Nb.sf_v, Nb.sf_o, Nb.ss_no, Nb.ss_v, Nb.ss_oo, Nb.v_nil, Nb.v_cons, Nb.v_tup, Nb.v_lst, Nb.v_rep, Nb.w_nil, Nb.w_cons, Nb.v_mA, Nb.p_nil, Nb.p_t, Nb.p_f, Nb.x_d, Nb.x_f, Nb.x_s, Nb.xs_v, Nb.xs_o, Nb.xs_io, Nb.ce_nil, Nb.ce_v, Nb.ce_i, Nb.cs_o, Nb.cs_io, Nb.sl_nil, Nb.sl_v, Nb.sl_i, Nb.fo_ok, Nb.fo_okt, Nb.fo_oko, Nb.fo_ex, Nb.v_mF, Nb.pb_nil, Nb.pb_v, Nb.pb_i, Nb.ss_o, Nb.ss_io, Nb.b_b, Nb.v_toB, Nb.v_mTst, Nb.v_and, Nb.v_or, Nb.v_not, Nb.v_if, Nb.v_andV, Nb.v_orV, Nb.v_notV, Nb.v_m3, Nb.v_inR, Nb.v_part0, Nb.i_i, Nb.v_part1, Nb.v_sl, Nb.v_dc0, Nb.v_dc1, Nb.v_seq, Nb.n_rt, Nb.n_rtt, Nb.n_rto, Nb.n_bk, Nb.n_ct, Nb.n_ex, Nb.n_bad, Nb.v_nop, Nb.v_brk, Nb.v_cnt, Nb.v_expr, Nb.v_ifS, Nb.v_ret, Nb.v_retN, Nb.r_d, Nb.r_f, Nb.r_s, Nb.rs_o, Nb.rs_v, Nb.v_asg, Nb.t_nm, Nb.t_nil, Nb.t_cons, Nb.t_tp, Nb.ps_2, Nb.v_par, Nb.v_for, Nb.v_items, Nb.it_l, Nb.it_t, Nb.v_src, Nb.rg1, Nb.rg2, Nb.v_enum, Nb.eo_1, Nb.v_zip, Nb.v_zipD, Nb.zo_l, Nb.zo_t, Nb.v_mut, Nb.il_o, Nb.il_io, Nb.v_apMut, Nb.mu_o, Nb.mu_io, Nb.v_gPut, Nb.pu_o, Nb.pu_io, Nb.v_augS, Nb.id_i, Nb.cl_o, Nb.cl_io, Nb.v_dict, Nb.ky_i, Nb.ky_s, Nb.v_keys, Nb.ko_f, Nb.v_gPutA, Nb.pd_o, Nb.ic_o, Nb.ic_io, Nb.v_mLc, Nb.wi_nil, Nb.wi_cons, Nb.wp_no, Nb.wp_v, Nb.re_nil, Nb.re_cons, Nb.rt_nn, Nb.rt_vn, Nb.rt_nv, Nb.rt_vv, Nb.f1, Nb.f2, Nb.f3, Nb.f4, Nb.f5, Nb.fs_nx, Nb.fs_rt, Nb.fs_rtt, Nb.fs_rto, Nb.ou_0, Nb.ou_s, Nb.io_no, Nb.io_v, Nb.io_o, Nb.io_io, Nb.g0, Nb.g1, Nb.s0, Nb.s1, Nb.ln_le, Nb.ln_lt, Nb.o_add, Nb.o_sub, Nb.o_mulr, Nb.o_mull, Nb.o_fdiv, Nb.o_mod, Nb.o_neg, Nb.o_cmp, Nb.o_max2, Nb.o_min2, Nb.o_int_b, Nb.o_lenL, Nb.o_lenT, Nb.o_pow, Nb.o_slL, Nb.o_slT, Nb.o_repT, Nb.v_apR, Nb.o_inD, Nb.o_inL, Nb.o_inT, Nb.o_list_l, Nb.o_list_t, Nb.o_tup_l, Nb.o_tup_t, Nb.o_addL, Nb.o_addT, Nb.o_eq, Nb.o_ne, Nb.o_extL, Nb.o_extT, Nb.o_app, Nb.at0, Nb.ix_in, Nb.at1, Nb.at2, Nb.pick_in, Nb.o_ixL, Nb.o_ixT, Nb.o_ixLn, Nb.o_ixTn, Nb.pk0, Nb.pk1, Nb.pk2, Nb.o_eqi, Nb.o_eqb, Nb.o_nei, Nb.o_divmod, Nb.o_all, Nb.o_sum, Nb.v_exc, Nb.ex_x, Nb.fl_house, Nb.fl_nobody, Nb.fl_text, Nb.fl_open, Nb.fl_many, Nb.fl_most, Nb.v_throw, Nb.v_throwF1, Nb.v_throwF2, Nb.sm_log, Nb.v_try, Nb.tr_nx, Nb.tr_rt, Nb.tr_rtt, Nb.tr_rto, Nb.tr_c0, Nb.tr_c1, Nb.tr_c2, Nb.tr_c3, Nb.tr_c4, Nb.tr_c5, Nb.tr_c6, Nb.tr_c7, Nb.tr_c8, Nb.tr_c9, Nb.tr_c10, Nb.tr_c11, Nb.v_putX, Nb.px_no, Nb.px_v, Nb.ox_nx, Nb.ox_rt, Nb.ox_rto, Nb.v_endX, Nb.en_x, Nb.cl_nil, Nb.cl_cons, Nb.cl_no, Nb.cl_v, Nb.cl_oo, Nb.cl_ioo, Nb.cl_x, Nb.io_x, Nb.vs_x, Nb.xs_x, Nb.fs_ex, Nb.lo_ex, Nb.ce_x, Nb.sl_x, Nb.pb_x, Nb.v_m2T, Nb.kd_l, Nb.kd_t, Nb.me_1, Nb.me_2, Nb.me_3, Nb.o_revL, Nb.o_revT, Nb.o_lr1, Nb.o_tr1, Nb.o_eqs, Nb.o_nes, R.elim_ok, R.elim_ex, R.elim_bad, Out.next_nx, Option.bind_some, Option.map_some, Option.bind_none, Option.map_none, List.cons_append, List.nil_append, List.replicate_succ, List.replicate_zero, Nat.reduceSub, Nat.reduceAdd, if_true, if_false, Bool.not_true, Bool.not_false, Bool.false_eq_true, List.length_cons, List.length_nil, List.append_nil, Int.reduceToNat, List.set_cons_zero, List.set_cons_succ, decide_true, decide_false, Int.reduceEq, Int.reduceLT, Int.reduceLE, List.nodup_nil, Nb.rb_n2, Nb.rb_p2, Nb.rb_n1, Nb.rb_p1, and_self, and_true, true_and, and_false, false_and, not_true_eq_false, not_false_eq_true, Nb.nd1, Nb.nd2, Nb.nd3, Nb.k_int, Nb.k_bool, Nb.k_tuple, Nb.k_list, Nb.k_str, Nb.cast_lit, Nb.o_inI, Nb.o_inIT, Nb.o_sortU, Nb.o_sorted, Nb.o_sortT, Nb.o_neL0, Nb.o_neb, Nb.o_eqT0, Nb.o_pop, Nb.hasK_T, Nb.o_sumT, Nb.o_sumL, Nb.pick_ints, Nb.pick_rows, Nb.o_eqT, Nb.o_neT, Nb.o_eqL, Nb.o_neL, Nb.o_eqR, Nb.o_neR, Nb.all_map', Int.reduceNeg, Nb.o_cntT, Nb.o_cntL, Nb.ints_rev, Bool.false_bne, Bool.true_bne, Bool.and_self, Bool.or_self, Bool.true_and, Bool.and_true, Bool.false_and, Bool.and_false, Bool.true_or, Bool.or_true, Bool.false_or, Bool.or_false]
theorem arrows_ok {c : Cl} (hc : Pen c) {hs : List (List Int)} {most doors : Nat} (h : HouseOk hs most doors) (h1 : most ≤ 1000) (h2 : doors ≤ 1000) : ∃ c' as, Pen c' ∧ ArrOk hs as ∧ d15 [.io c, .v (housD hs)] = .ok (tupI as) [.io c', .no] := by
  obtain ⟨ys, e', hcomp, ⟨c2, p2, rfl⟩, hlen, hP⟩ := compD_st (vs := [2]) (g := gNm 2) (me := d15e0) (I := fun env => ∃ c, Pen c ∧ env = [.io c, .v (housD hs), .no]) (P := fun d y => ∃ (r : List Int) (n : Int), d = tupI r ∧ y = .int n ∧ 0 ≤ n ∧ n < r.length) (items := hs.map tupI) (env := [.io c, .v (housD hs), .no]) (acc := []) ⟨c, hc, rfl⟩ (fun d hd env ⟨c, hc, he⟩ => by
    subst he
    obtain ⟨r, hr, rfl⟩ := List.mem_map.mp hd
    obtain ⟨r1, r2, _⟩ := h.room r hr
    obtain ⟨c', n, a1, a2, a3, a4⟩ := draw_ok (m := (r.length : Int)) hc (by omega) (by omega)
    refine ⟨.int n, [.io c', .v (housD hs), .no], ?_, ⟨r, n, rfl, rfl, a2, a3⟩, c', a1, rfl⟩
    unfold turn
    simp -implicitDefEqProofs (maxSteps := 4000000) (disch := first | with_unfolding_all rfl | omega | (simp only [List.length_append, List.length_cons, List.length_nil, List.length_map, List.length_replicate, List.length_take, List.length_drop]; omega)) only [d15e0, List.length_map, a4, Nb.v_zipM, Nb.zm_ll, Nb.zm_lt, Nb.zm_tl, Nb.zm_tt, Nb.fp_ok, Nb.fp_okt, Nb.fp_ex, Nb.v_mFP, Nb.v_tupP, Nb.tp_f, Nb.tp_s, Nb.tp_d, Nb.v_pairD, Nb.oa_o, Nb.oa_v, Nb.v_retP, Nb.rp_d, Nb.rp_t, Nb.v_unpP, Nb.up_d, Nb.up_t, Nb.v_putO, Nb.po_n, Nb.po_v, Nb.po_o, Nb.v_parO, Nb.pr_ff, Nb.v_mLcO, Nb.la_o, Nb.la_v, Nb.nn_n, Nb.v_ix1P, Nb.i1_t, Nb.i1_d, Nb.kO_t, Nb.v_inN, Nb.v_ixN, Nb.v_setN, Nb.is_n, Nb.nio_no, Nb.nio_v, Nb.nio_n, Nb.v_putN, Nb.oe_s, Nb.oe_n, Nb.v_c, Nb.v_var, Nb.vs_v, Nb.vs_o, Nb.vs_io, Nb.w_d, Nb.w_f, Nb.w_s, Nb.ws_o, Nb.ws_io, Nb.ws_v, Nb.cl_l, Nb.cl_d, Nb.a_d, Nb.a_f, Nb.a_s, Nb.as_o, Nb.as_v, Nb.as_nil, Nb.as_cons, Nb.v_m2, Nb.v_ap2, Nb.v_m1, Nb.v_ap1, Nb.v_set, Nb.sd_no, Nb.sd_v, Nb.sd_o, Nb.sf_no, Nb.sf_v, Nb.sf_o, Nb.ss_no, Nb.ss_v, Nb.ss_oo, Nb.v_nil, Nb.v_cons, Nb.v_tup, Nb.v_lst, Nb.v_rep, Nb.w_nil, Nb.w_cons, Nb.v_mA, Nb.p_nil, Nb.p_t, Nb.p_f, Nb.x_d, Nb.x_f, Nb.x_s, Nb.xs_v, Nb.xs_o, Nb.xs_io, Nb.ce_nil, Nb.ce_v, Nb.ce_i, Nb.cs_o, Nb.cs_io, Nb.sl_nil, Nb.sl_v, Nb.sl_i, Nb.fo_ok, Nb.fo_okt, Nb.fo_oko, Nb.fo_ex, Nb.v_mF, Nb.pb_nil, Nb.pb_v, Nb.pb_i, Nb.ss_o, Nb.ss_io, Nb.b_b, Nb.v_toB, Nb.v_mTst, Nb.v_and, Nb.v_or, Nb.v_not, Nb.v_if, Nb.v_andV, Nb.v_orV, Nb.v_notV, Nb.v_m3, Nb.v_inR, Nb.v_part0, Nb.i_i, Nb.v_part1, Nb.v_sl, Nb.v_dc0, Nb.v_dc1, Nb.v_seq, Nb.n_rt, Nb.n_rtt, Nb.n_rto, Nb.n_bk, Nb.n_ct, Nb.n_ex, Nb.n_bad, Nb.v_nop, Nb.v_brk, Nb.v_cnt, Nb.v_expr, Nb.v_ifS, Nb.v_ret, Nb.v_retN, Nb.r_d, Nb.r_f, Nb.r_s, Nb.rs_o, Nb.rs_v, Nb.v_asg, Nb.t_nm, Nb.t_nil, Nb.t_cons, Nb.t_tp, Nb.ps_2, Nb.v_par, Nb.v_for, Nb.v_items, Nb.it_l, Nb.it_t, Nb.v_src, Nb.rg1, Nb.rg2, Nb.v_enum, Nb.eo_1, Nb.v_zip, Nb.v_zipD, Nb.zo_l, Nb.zo_t, Nb.v_mut, Nb.il_o, Nb.il_io, Nb.v_apMut, Nb.mu_o, Nb.mu_io, Nb.v_gPut, Nb.pu_o, Nb.pu_io, Nb.v_augS, Nb.id_i, Nb.cl_o, Nb.cl_io, Nb.v_dict, Nb.ky_i, Nb.ky_s, Nb.v_keys, Nb.ko_f, Nb.v_gPutA, Nb.pd_o, Nb.ic_o, Nb.ic_io, Nb.v_mLc, Nb.wi_nil, Nb.wi_cons, Nb.wp_no, Nb.wp_v, Nb.re_nil, Nb.re_cons, Nb.rt_nn, Nb.rt_vn, Nb.rt_nv, Nb.rt_vv, Nb.f1, Nb.f2, Nb.f3, Nb.f4, Nb.f5, Nb.fs_nx, Nb.fs_rt, Nb.fs_rtt, Nb.fs_rto, Nb.ou_0, Nb.ou_s, Nb.io_no, Nb.io_v, Nb.io_o, Nb.io_io, Nb.g0, Nb.g1, Nb.s0, Nb.s1, Nb.ln_le, Nb.ln_lt, Nb.o_add, Nb.o_sub, Nb.o_mulr, Nb.o_mull, Nb.o_fdiv, Nb.o_mod, Nb.o_neg, Nb.o_cmp, Nb.o_max2, Nb.o_min2, Nb.o_int_b, Nb.o_lenL, Nb.o_lenT, Nb.o_pow, Nb.o_slL, Nb.o_slT, Nb.o_repT, Nb.v_apR, Nb.o_inD, Nb.o_inL, Nb.o_inT, Nb.o_list_l, Nb.o_list_t, Nb.o_tup_l, Nb.o_tup_t, Nb.o_addL, Nb.o_addT, Nb.o_eq, Nb.o_ne, Nb.o_extL, Nb.o_extT, Nb.o_app, Nb.at0, Nb.ix_in, Nb.at1, Nb.at2, Nb.pick_in, Nb.o_ixL, Nb.o_ixT, Nb.o_ixLn, Nb.o_ixTn, Nb.pk0, Nb.pk1, Nb.pk2, Nb.o_eqi, Nb.o_eqb, Nb.o_nei, Nb.o_divmod, Nb.o_all, Nb.o_sum, Nb.v_exc, Nb.ex_x, Nb.fl_house, Nb.fl_nobody, Nb.fl_text, Nb.fl_open, Nb.fl_many, Nb.fl_most, Nb.v_throw, Nb.v_throwF1, Nb.v_throwF2, Nb.sm_log, Nb.v_try, Nb.tr_nx, Nb.tr_rt, Nb.tr_rtt, Nb.tr_rto, Nb.tr_c0, Nb.tr_c1, Nb.tr_c2, Nb.tr_c3, Nb.tr_c4, Nb.tr_c5, Nb.tr_c6, Nb.tr_c7, Nb.tr_c8, Nb.tr_c9, Nb.tr_c10, Nb.tr_c11, Nb.v_putX, Nb.px_no, Nb.px_v, Nb.ox_nx, Nb.ox_rt, Nb.ox_rto, Nb.v_endX, Nb.en_x, Nb.cl_nil, Nb.cl_cons, Nb.cl_no, Nb.cl_v, Nb.cl_oo, Nb.cl_ioo, Nb.cl_x, Nb.io_x, Nb.vs_x, Nb.xs_x, Nb.fs_ex, Nb.lo_ex, Nb.ce_x, Nb.sl_x, Nb.pb_x, Nb.v_m2T, Nb.kd_l, Nb.kd_t, Nb.me_1, Nb.me_2, Nb.me_3, Nb.o_revL, Nb.o_revT, Nb.o_lr1, Nb.o_tr1, Nb.o_eqs, Nb.o_nes, R.elim_ok, R.elim_ex, R.elim_bad, Out.next_nx, Option.bind_some, Option.map_some, Option.bind_none, Option.map_none, List.cons_append, List.nil_append, List.replicate_succ, List.replicate_zero, Nat.reduceSub, Nat.reduceAdd, if_true, if_false, Bool.not_true, Bool.not_false, Bool.false_eq_true, List.length_cons, List.length_nil, List.append_nil, Int.reduceToNat, List.set_cons_zero, List.set_cons_succ, decide_true, decide_false, Int.reduceEq, Int.reduceLT, Int.reduceLE, List.nodup_nil, Nb.rb_n2, Nb.rb_p2, Nb.rb_n1, Nb.rb_p1, and_self, and_true, true_and, and_false, false_and, not_true_eq_false, not_false_eq_true, Nb.nd1, Nb.nd2, Nb.nd3, Nb.k_int, Nb.k_bool, Nb.k_tuple, Nb.k_list, Nb.k_str, Nb.cast_lit, Nb.o_inI, Nb.o_inIT, Nb.o_sortU, Nb.o_sorted, Nb.o_sortT, Nb.o_neL0, Nb.o_neb, Nb.o_eqT0, Nb.o_pop, Nb.hasK_T, Nb.o_sumT, Nb.o_sumL, Nb.pick_ints, Nb.pick_rows, Nb.o_eqT, Nb.o_neT, Nb.o_eqL, Nb.o_neL, Nb.o_eqR, Nb.o_neR, Nb.all_map', Int.reduceNeg, Nb.o_cntT, Nb.o_cntL, Nb.ints_rev, Bool.false_bne, Bool.true_bne, Bool.and_self, Bool.or_self, Bool.true_and, Bool.and_true, Bool.false_and, Bool.and_false, Bool.true_or, Bool.or_true, Bool.false_or, Bool.or_false]) (by have := h.most; simp [line]; omega)
  rw [List.length_map] at hlen
  obtain ⟨as, rfl⟩ := to_ints (ys := ys) fun y hy => by
    obtain ⟨i, hi⟩ := List.mem_iff_getElem?.mp hy
    have hil := (List.getElem?_eq_some_iff.mp hi).1
    obtain ⟨r, n, _, e, _⟩ := hP i _ y (List.getElem?_eq_getElem (by rw [List.length_map]; omega)) hi
    exact ⟨n, e⟩
  rw [List.length_map] at hlen
  refine ⟨c2, as, p2, ⟨hlen, fun k hk => ?_⟩, ?_⟩
  · obtain ⟨r, n, e1, e2, a2, a3⟩ := hP k (tupI (hs.getD k [])) (.int (as.getD k 0)) (by rw [List.getElem?_map, List.getElem?_eq_getElem hk, List.getD_eq_getElem?_getD, List.getElem?_eq_getElem hk]; rfl) (by rw [List.getElem?_map, List.getElem?_eq_getElem (by omega), List.getD_eq_getElem?_getD, List.getElem?_eq_getElem (by omega)]; rfl)
    have e3 : r.length = (hs.getD k []).length := by
      injection e1 with e1
      have := congrArg List.length e1
      rw [List.length_map, List.length_map] at this
      exact this.symm
    injection e2 with e2
    rw [← e3, e2]
    exact ⟨a2, a3⟩
  · unfold d15
    simp -implicitDefEqProofs (maxSteps := 4000000) (disch := first | with_unfolding_all rfl | omega | (simp only [List.length_append, List.length_cons, List.length_nil, List.length_map, List.length_replicate, List.length_take, List.length_drop]; omega)) only [hcomp, Nb.v_zipM, Nb.zm_ll, Nb.zm_lt, Nb.zm_tl, Nb.zm_tt, Nb.fp_ok, Nb.fp_okt, Nb.fp_ex, Nb.v_mFP, Nb.v_tupP, Nb.tp_f, Nb.tp_s, Nb.tp_d, Nb.v_pairD, Nb.oa_o, Nb.oa_v, Nb.v_retP, Nb.rp_d, Nb.rp_t, Nb.v_unpP, Nb.up_d, Nb.up_t, Nb.v_putO, Nb.po_n, Nb.po_v, Nb.po_o, Nb.v_parO, Nb.pr_ff, Nb.v_mLcO, Nb.la_o, Nb.la_v, Nb.nn_n, Nb.v_ix1P, Nb.i1_t, Nb.i1_d, Nb.kO_t, Nb.v_inN, Nb.v_ixN, Nb.v_setN, Nb.is_n, Nb.nio_no, Nb.nio_v, Nb.nio_n, Nb.v_putN, Nb.oe_s, Nb.oe_n, Nb.v_c, Nb.v_var, Nb.vs_v, Nb.vs_o, Nb.vs_io, Nb.w_d, Nb.w_f, Nb.w_s, Nb.ws_o, Nb.ws_io, Nb.ws_v, Nb.cl_l, Nb.cl_d, Nb.a_d, Nb.a_f, Nb.a_s, Nb.as_o, Nb.as_v, Nb.as_nil, Nb.as_cons, Nb.v_m2, Nb.v_ap2, Nb.v_m1, Nb.v_ap1, Nb.v_set, Nb.sd_no, Nb.sd_v, Nb.sd_o, Nb.sf_no, Nb.sf_v, Nb.sf_o, Nb.ss_no, Nb.ss_v, Nb.ss_oo, Nb.v_nil, Nb.v_cons, Nb.v_tup, Nb.v_lst, Nb.v_rep, Nb.w_nil, Nb.w_cons, Nb.v_mA, Nb.p_nil, Nb.p_t, Nb.p_f, Nb.x_d, Nb.x_f, Nb.x_s, Nb.xs_v, Nb.xs_o, Nb.xs_io, Nb.ce_nil, Nb.ce_v, Nb.ce_i, Nb.cs_o, Nb.cs_io, Nb.sl_nil, Nb.sl_v, Nb.sl_i, Nb.fo_ok, Nb.fo_okt, Nb.fo_oko, Nb.fo_ex, Nb.v_mF, Nb.pb_nil, Nb.pb_v, Nb.pb_i, Nb.ss_o, Nb.ss_io, Nb.b_b, Nb.v_toB, Nb.v_mTst, Nb.v_and, Nb.v_or, Nb.v_not, Nb.v_if, Nb.v_andV, Nb.v_orV, Nb.v_notV, Nb.v_m3, Nb.v_inR, Nb.v_part0, Nb.i_i, Nb.v_part1, Nb.v_sl, Nb.v_dc0, Nb.v_dc1, Nb.v_seq, Nb.n_rt, Nb.n_rtt, Nb.n_rto, Nb.n_bk, Nb.n_ct, Nb.n_ex, Nb.n_bad, Nb.v_nop, Nb.v_brk, Nb.v_cnt, Nb.v_expr, Nb.v_ifS, Nb.v_ret, Nb.v_retN, Nb.r_d, Nb.r_f, Nb.r_s, Nb.rs_o, Nb.rs_v, Nb.v_asg, Nb.t_nm, Nb.t_nil, Nb.t_cons, Nb.t_tp, Nb.ps_2, Nb.v_par, Nb.v_for, Nb.v_items, Nb.it_l, Nb.it_t, Nb.v_src, Nb.rg1, Nb.rg2, Nb.v_enum, Nb.eo_1, Nb.v_zip, Nb.v_zipD, Nb.zo_l, Nb.zo_t, Nb.v_mut, Nb.il_o, Nb.il_io, Nb.v_apMut, Nb.mu_o, Nb.mu_io, Nb.v_gPut, Nb.pu_o, Nb.pu_io, Nb.v_augS, Nb.id_i, Nb.cl_o, Nb.cl_io, Nb.v_dict, Nb.ky_i, Nb.ky_s, Nb.v_keys, Nb.ko_f, Nb.v_gPutA, Nb.pd_o, Nb.ic_o, Nb.ic_io, Nb.v_mLc, Nb.wi_nil, Nb.wi_cons, Nb.wp_no, Nb.wp_v, Nb.re_nil, Nb.re_cons, Nb.rt_nn, Nb.rt_vn, Nb.rt_nv, Nb.rt_vv, Nb.f1, Nb.f2, Nb.f3, Nb.f4, Nb.f5, Nb.fs_nx, Nb.fs_rt, Nb.fs_rtt, Nb.fs_rto, Nb.ou_0, Nb.ou_s, Nb.io_no, Nb.io_v, Nb.io_o, Nb.io_io, Nb.g0, Nb.g1, Nb.s0, Nb.s1, Nb.ln_le, Nb.ln_lt, Nb.o_add, Nb.o_sub, Nb.o_mulr, Nb.o_mull, Nb.o_fdiv, Nb.o_mod, Nb.o_neg, Nb.o_cmp, Nb.o_max2, Nb.o_min2, Nb.o_int_b, Nb.o_lenL, Nb.o_lenT, Nb.o_pow, Nb.o_slL, Nb.o_slT, Nb.o_repT, Nb.v_apR, Nb.o_inD, Nb.o_inL, Nb.o_inT, Nb.o_list_l, Nb.o_list_t, Nb.o_tup_l, Nb.o_tup_t, Nb.o_addL, Nb.o_addT, Nb.o_eq, Nb.o_ne, Nb.o_extL, Nb.o_extT, Nb.o_app, Nb.at0, Nb.ix_in, Nb.at1, Nb.at2, Nb.pick_in, Nb.o_ixL, Nb.o_ixT, Nb.o_ixLn, Nb.o_ixTn, Nb.pk0, Nb.pk1, Nb.pk2, Nb.o_eqi, Nb.o_eqb, Nb.o_nei, Nb.o_divmod, Nb.o_all, Nb.o_sum, Nb.v_exc, Nb.ex_x, Nb.fl_house, Nb.fl_nobody, Nb.fl_text, Nb.fl_open, Nb.fl_many, Nb.fl_most, Nb.v_throw, Nb.v_throwF1, Nb.v_throwF2, Nb.sm_log, Nb.v_try, Nb.tr_nx, Nb.tr_rt, Nb.tr_rtt, Nb.tr_rto, Nb.tr_c0, Nb.tr_c1, Nb.tr_c2, Nb.tr_c3, Nb.tr_c4, Nb.tr_c5, Nb.tr_c6, Nb.tr_c7, Nb.tr_c8, Nb.tr_c9, Nb.tr_c10, Nb.tr_c11, Nb.v_putX, Nb.px_no, Nb.px_v, Nb.ox_nx, Nb.ox_rt, Nb.ox_rto, Nb.v_endX, Nb.en_x, Nb.cl_nil, Nb.cl_cons, Nb.cl_no, Nb.cl_v, Nb.cl_oo, Nb.cl_ioo, Nb.cl_x, Nb.io_x, Nb.vs_x, Nb.xs_x, Nb.fs_ex, Nb.lo_ex, Nb.ce_x, Nb.sl_x, Nb.pb_x, Nb.v_m2T, Nb.kd_l, Nb.kd_t, Nb.me_1, Nb.me_2, Nb.me_3, Nb.o_revL, Nb.o_revT, Nb.o_lr1, Nb.o_tr1, Nb.o_eqs, Nb.o_nes, R.elim_ok, R.elim_ex, R.elim_bad, Out.next_nx, Option.bind_some, Option.map_some, Option.bind_none, Option.map_none, List.cons_append, List.nil_append, List.replicate_succ, List.replicate_zero, Nat.reduceSub, Nat.reduceAdd, if_true, if_false, Bool.not_true, Bool.not_false, Bool.false_eq_true, List.length_cons, List.length_nil, List.append_nil, Int.reduceToNat, List.set_cons_zero, List.set_cons_succ, decide_true, decide_false, Int.reduceEq, Int.reduceLT, Int.reduceLE, List.nodup_nil, Nb.rb_n2, Nb.rb_p2, Nb.rb_n1, Nb.rb_p1, and_self, and_true, true_and, and_false, false_and, not_true_eq_false, not_false_eq_true, Nb.nd1, Nb.nd2, Nb.nd3, Nb.k_int, Nb.k_bool, Nb.k_tuple, Nb.k_list, Nb.k_str, Nb.cast_lit, Nb.o_inI, Nb.o_inIT, Nb.o_sortU, Nb.o_sorted, Nb.o_sortT, Nb.o_neL0, Nb.o_neb, Nb.o_eqT0, Nb.o_pop, Nb.hasK_T, Nb.o_sumT, Nb.o_sumL, Nb.pick_ints, Nb.pick_rows, Nb.o_eqT, Nb.o_neT, Nb.o_eqL, Nb.o_neL, Nb.o_eqR, Nb.o_neR, Nb.all_map', Int.reduceNeg, Nb.o_cntT, Nb.o_cntL, Nb.ints_rev, Bool.false_bne, Bool.true_bne, Bool.and_self, Bool.or_self, Bool.true_and, Bool.and_true, Bool.false_and, Bool.and_false, Bool.true_or, Bool.or_true, Bool.false_or, Bool.or_false]
theorem tuple_ok {ns : List Int} (hl : ns.length ≤ 1000) : d17 [.v (tupI ns), .v (tupI ns)] = .ok (.bool true) [.no, .no] := by
  have hc := compD_map (vs := [2]) (g := gNm 2) (me := d17e0) (f := fun _ => .bool true) (env := [.v (tupI ns), .v (tupI ns), .no]) (items := ns.map PyData.int) (acc := []) (fun d hd => by
    obtain ⟨n, _, rfl⟩ := List.mem_map.mp hd
    unfold turn
    simp -implicitDefEqProofs (maxSteps := 4000000) (disch := first | with_unfolding_all rfl | omega | (simp only [List.length_append, List.length_cons, List.length_nil, List.length_map, List.length_replicate, List.length_take, List.length_drop]; omega)) only [d17e0, whole_l, isW, Nb.v_zipM, Nb.zm_ll, Nb.zm_lt, Nb.zm_tl, Nb.zm_tt, Nb.fp_ok, Nb.fp_okt, Nb.fp_ex, Nb.v_mFP, Nb.v_tupP, Nb.tp_f, Nb.tp_s, Nb.tp_d, Nb.v_pairD, Nb.oa_o, Nb.oa_v, Nb.v_retP, Nb.rp_d, Nb.rp_t, Nb.v_unpP, Nb.up_d, Nb.up_t, Nb.v_putO, Nb.po_n, Nb.po_v, Nb.po_o, Nb.v_parO, Nb.pr_ff, Nb.v_mLcO, Nb.la_o, Nb.la_v, Nb.nn_n, Nb.v_ix1P, Nb.i1_t, Nb.i1_d, Nb.kO_t, Nb.v_inN, Nb.v_ixN, Nb.v_setN, Nb.is_n, Nb.nio_no, Nb.nio_v, Nb.nio_n, Nb.v_putN, Nb.oe_s, Nb.oe_n, Nb.v_c, Nb.v_var, Nb.vs_v, Nb.vs_o, Nb.vs_io, Nb.w_d, Nb.w_f, Nb.w_s, Nb.ws_o, Nb.ws_io, Nb.ws_v, Nb.cl_l, Nb.cl_d, Nb.a_d, Nb.a_f, Nb.a_s, Nb.as_o, Nb.as_v, Nb.as_nil, Nb.as_cons, Nb.v_m2, Nb.v_ap2, Nb.v_m1, Nb.v_ap1, Nb.v_set, Nb.sd_no, Nb.sd_v, Nb.sd_o, Nb.sf_no, Nb.sf_v, Nb.sf_o, Nb.ss_no, Nb.ss_v, Nb.ss_oo, Nb.v_nil, Nb.v_cons, Nb.v_tup, Nb.v_lst, Nb.v_rep, Nb.w_nil, Nb.w_cons, Nb.v_mA, Nb.p_nil, Nb.p_t, Nb.p_f, Nb.x_d, Nb.x_f, Nb.x_s, Nb.xs_v, Nb.xs_o, Nb.xs_io, Nb.ce_nil, Nb.ce_v, Nb.ce_i, Nb.cs_o, Nb.cs_io, Nb.sl_nil, Nb.sl_v, Nb.sl_i, Nb.fo_ok, Nb.fo_okt, Nb.fo_oko, Nb.fo_ex, Nb.v_mF, Nb.pb_nil, Nb.pb_v, Nb.pb_i, Nb.ss_o, Nb.ss_io, Nb.b_b, Nb.v_toB, Nb.v_mTst, Nb.v_and, Nb.v_or, Nb.v_not, Nb.v_if, Nb.v_andV, Nb.v_orV, Nb.v_notV, Nb.v_m3, Nb.v_inR, Nb.v_part0, Nb.i_i, Nb.v_part1, Nb.v_sl, Nb.v_dc0, Nb.v_dc1, Nb.v_seq, Nb.n_rt, Nb.n_rtt, Nb.n_rto, Nb.n_bk, Nb.n_ct, Nb.n_ex, Nb.n_bad, Nb.v_nop, Nb.v_brk, Nb.v_cnt, Nb.v_expr, Nb.v_ifS, Nb.v_ret, Nb.v_retN, Nb.r_d, Nb.r_f, Nb.r_s, Nb.rs_o, Nb.rs_v, Nb.v_asg, Nb.t_nm, Nb.t_nil, Nb.t_cons, Nb.t_tp, Nb.ps_2, Nb.v_par, Nb.v_for, Nb.v_items, Nb.it_l, Nb.it_t, Nb.v_src, Nb.rg1, Nb.rg2, Nb.v_enum, Nb.eo_1, Nb.v_zip, Nb.v_zipD, Nb.zo_l, Nb.zo_t, Nb.v_mut, Nb.il_o, Nb.il_io, Nb.v_apMut, Nb.mu_o, Nb.mu_io, Nb.v_gPut, Nb.pu_o, Nb.pu_io, Nb.v_augS, Nb.id_i, Nb.cl_o, Nb.cl_io, Nb.v_dict, Nb.ky_i, Nb.ky_s, Nb.v_keys, Nb.ko_f, Nb.v_gPutA, Nb.pd_o, Nb.ic_o, Nb.ic_io, Nb.v_mLc, Nb.wi_nil, Nb.wi_cons, Nb.wp_no, Nb.wp_v, Nb.re_nil, Nb.re_cons, Nb.rt_nn, Nb.rt_vn, Nb.rt_nv, Nb.rt_vv, Nb.f1, Nb.f2, Nb.f3, Nb.f4, Nb.f5, Nb.fs_nx, Nb.fs_rt, Nb.fs_rtt, Nb.fs_rto, Nb.ou_0, Nb.ou_s, Nb.io_no, Nb.io_v, Nb.io_o, Nb.io_io, Nb.g0, Nb.g1, Nb.s0, Nb.s1, Nb.ln_le, Nb.ln_lt, Nb.o_add, Nb.o_sub, Nb.o_mulr, Nb.o_mull, Nb.o_fdiv, Nb.o_mod, Nb.o_neg, Nb.o_cmp, Nb.o_max2, Nb.o_min2, Nb.o_int_b, Nb.o_lenL, Nb.o_lenT, Nb.o_pow, Nb.o_slL, Nb.o_slT, Nb.o_repT, Nb.v_apR, Nb.o_inD, Nb.o_inL, Nb.o_inT, Nb.o_list_l, Nb.o_list_t, Nb.o_tup_l, Nb.o_tup_t, Nb.o_addL, Nb.o_addT, Nb.o_eq, Nb.o_ne, Nb.o_extL, Nb.o_extT, Nb.o_app, Nb.at0, Nb.ix_in, Nb.at1, Nb.at2, Nb.pick_in, Nb.o_ixL, Nb.o_ixT, Nb.o_ixLn, Nb.o_ixTn, Nb.pk0, Nb.pk1, Nb.pk2, Nb.o_eqi, Nb.o_eqb, Nb.o_nei, Nb.o_divmod, Nb.o_all, Nb.o_sum, Nb.v_exc, Nb.ex_x, Nb.fl_house, Nb.fl_nobody, Nb.fl_text, Nb.fl_open, Nb.fl_many, Nb.fl_most, Nb.v_throw, Nb.v_throwF1, Nb.v_throwF2, Nb.sm_log, Nb.v_try, Nb.tr_nx, Nb.tr_rt, Nb.tr_rtt, Nb.tr_rto, Nb.tr_c0, Nb.tr_c1, Nb.tr_c2, Nb.tr_c3, Nb.tr_c4, Nb.tr_c5, Nb.tr_c6, Nb.tr_c7, Nb.tr_c8, Nb.tr_c9, Nb.tr_c10, Nb.tr_c11, Nb.v_putX, Nb.px_no, Nb.px_v, Nb.ox_nx, Nb.ox_rt, Nb.ox_rto, Nb.v_endX, Nb.en_x, Nb.cl_nil, Nb.cl_cons, Nb.cl_no, Nb.cl_v, Nb.cl_oo, Nb.cl_ioo, Nb.cl_x, Nb.io_x, Nb.vs_x, Nb.xs_x, Nb.fs_ex, Nb.lo_ex, Nb.ce_x, Nb.sl_x, Nb.pb_x, Nb.v_m2T, Nb.kd_l, Nb.kd_t, Nb.me_1, Nb.me_2, Nb.me_3, Nb.o_revL, Nb.o_revT, Nb.o_lr1, Nb.o_tr1, Nb.o_eqs, Nb.o_nes, R.elim_ok, R.elim_ex, R.elim_bad, Out.next_nx, Option.bind_some, Option.map_some, Option.bind_none, Option.map_none, List.cons_append, List.nil_append, List.replicate_succ, List.replicate_zero, Nat.reduceSub, Nat.reduceAdd, if_true, if_false, Bool.not_true, Bool.not_false, Bool.false_eq_true, List.length_cons, List.length_nil, List.append_nil, Int.reduceToNat, List.set_cons_zero, List.set_cons_succ, decide_true, decide_false, Int.reduceEq, Int.reduceLT, Int.reduceLE, List.nodup_nil, Nb.rb_n2, Nb.rb_p2, Nb.rb_n1, Nb.rb_p1, and_self, and_true, true_and, and_false, false_and, not_true_eq_false, not_false_eq_true, Nb.nd1, Nb.nd2, Nb.nd3, Nb.k_int, Nb.k_bool, Nb.k_tuple, Nb.k_list, Nb.k_str, Nb.cast_lit, Nb.o_inI, Nb.o_inIT, Nb.o_sortU, Nb.o_sorted, Nb.o_sortT, Nb.o_neL0, Nb.o_neb, Nb.o_eqT0, Nb.o_pop, Nb.hasK_T, Nb.o_sumT, Nb.o_sumL, Nb.pick_ints, Nb.pick_rows, Nb.o_eqT, Nb.o_neT, Nb.o_eqL, Nb.o_neL, Nb.o_eqR, Nb.o_neR, Nb.all_map', Int.reduceNeg, Nb.o_cntT, Nb.o_cntL, Nb.ints_rev, Bool.false_bne, Bool.true_bne, Bool.and_self, Bool.or_self, Bool.true_and, Bool.and_true, Bool.false_and, Bool.and_false, Bool.true_or, Bool.or_true, Bool.false_or, Bool.or_false]) (by simp [line]; omega)
  unfold d17
  simp -implicitDefEqProofs (maxSteps := 4000000) (disch := first | with_unfolding_all rfl | omega | (simp only [List.length_append, List.length_cons, List.length_nil, List.length_map, List.length_replicate, List.length_take, List.length_drop]; omega)) only [isTu, hc, all_map' (p := fun _ => true), Nb.v_zipM, Nb.zm_ll, Nb.zm_lt, Nb.zm_tl, Nb.zm_tt, Nb.fp_ok, Nb.fp_okt, Nb.fp_ex, Nb.v_mFP, Nb.v_tupP, Nb.tp_f, Nb.tp_s, Nb.tp_d, Nb.v_pairD, Nb.oa_o, Nb.oa_v, Nb.v_retP, Nb.rp_d, Nb.rp_t, Nb.v_unpP, Nb.up_d, Nb.up_t, Nb.v_putO, Nb.po_n, Nb.po_v, Nb.po_o, Nb.v_parO, Nb.pr_ff, Nb.v_mLcO, Nb.la_o, Nb.la_v, Nb.nn_n, Nb.v_ix1P, Nb.i1_t, Nb.i1_d, Nb.kO_t, Nb.v_inN, Nb.v_ixN, Nb.v_setN, Nb.is_n, Nb.nio_no, Nb.nio_v, Nb.nio_n, Nb.v_putN, Nb.oe_s, Nb.oe_n, Nb.v_c, Nb.v_var, Nb.vs_v, Nb.vs_o, Nb.vs_io, Nb.w_d, Nb.w_f, Nb.w_s, Nb.ws_o, Nb.ws_io, Nb.ws_v, Nb.cl_l, Nb.cl_d, Nb.a_d, Nb.a_f, Nb.a_s, Nb.as_o, Nb.as_v, Nb.as_nil, Nb.as_cons, Nb.v_m2, Nb.v_ap2, Nb.v_m1, Nb.v_ap1, Nb.v_set, Nb.sd_no, Nb.sd_v, Nb.sd_o, Nb.sf_no, Nb.sf_v, Nb.sf_o, Nb.ss_no, Nb.ss_v, Nb.ss_oo, Nb.v_nil, Nb.v_cons, Nb.v_tup, Nb.v_lst, Nb.v_rep, Nb.w_nil, Nb.w_cons, Nb.v_mA, Nb.p_nil, Nb.p_t, Nb.p_f, Nb.x_d, Nb.x_f, Nb.x_s, Nb.xs_v, Nb.xs_o, Nb.xs_io, Nb.ce_nil, Nb.ce_v, Nb.ce_i, Nb.cs_o, Nb.cs_io, Nb.sl_nil, Nb.sl_v, Nb.sl_i, Nb.fo_ok, Nb.fo_okt, Nb.fo_oko, Nb.fo_ex, Nb.v_mF, Nb.pb_nil, Nb.pb_v, Nb.pb_i, Nb.ss_o, Nb.ss_io, Nb.b_b, Nb.v_toB, Nb.v_mTst, Nb.v_and, Nb.v_or, Nb.v_not, Nb.v_if, Nb.v_andV, Nb.v_orV, Nb.v_notV, Nb.v_m3, Nb.v_inR, Nb.v_part0, Nb.i_i, Nb.v_part1, Nb.v_sl, Nb.v_dc0, Nb.v_dc1, Nb.v_seq, Nb.n_rt, Nb.n_rtt, Nb.n_rto, Nb.n_bk, Nb.n_ct, Nb.n_ex, Nb.n_bad, Nb.v_nop, Nb.v_brk, Nb.v_cnt, Nb.v_expr, Nb.v_ifS, Nb.v_ret, Nb.v_retN, Nb.r_d, Nb.r_f, Nb.r_s, Nb.rs_o, Nb.rs_v, Nb.v_asg, Nb.t_nm, Nb.t_nil, Nb.t_cons, Nb.t_tp, Nb.ps_2, Nb.v_par, Nb.v_for, Nb.v_items, Nb.it_l, Nb.it_t, Nb.v_src, Nb.rg1, Nb.rg2, Nb.v_enum, Nb.eo_1, Nb.v_zip, Nb.v_zipD, Nb.zo_l, Nb.zo_t, Nb.v_mut, Nb.il_o, Nb.il_io, Nb.v_apMut, Nb.mu_o, Nb.mu_io, Nb.v_gPut, Nb.pu_o, Nb.pu_io, Nb.v_augS, Nb.id_i, Nb.cl_o, Nb.cl_io, Nb.v_dict, Nb.ky_i, Nb.ky_s, Nb.v_keys, Nb.ko_f, Nb.v_gPutA, Nb.pd_o, Nb.ic_o, Nb.ic_io, Nb.v_mLc, Nb.wi_nil, Nb.wi_cons, Nb.wp_no, Nb.wp_v, Nb.re_nil, Nb.re_cons, Nb.rt_nn, Nb.rt_vn, Nb.rt_nv, Nb.rt_vv, Nb.f1, Nb.f2, Nb.f3, Nb.f4, Nb.f5, Nb.fs_nx, Nb.fs_rt, Nb.fs_rtt, Nb.fs_rto, Nb.ou_0, Nb.ou_s, Nb.io_no, Nb.io_v, Nb.io_o, Nb.io_io, Nb.g0, Nb.g1, Nb.s0, Nb.s1, Nb.ln_le, Nb.ln_lt, Nb.o_add, Nb.o_sub, Nb.o_mulr, Nb.o_mull, Nb.o_fdiv, Nb.o_mod, Nb.o_neg, Nb.o_cmp, Nb.o_max2, Nb.o_min2, Nb.o_int_b, Nb.o_lenL, Nb.o_lenT, Nb.o_pow, Nb.o_slL, Nb.o_slT, Nb.o_repT, Nb.v_apR, Nb.o_inD, Nb.o_inL, Nb.o_inT, Nb.o_list_l, Nb.o_list_t, Nb.o_tup_l, Nb.o_tup_t, Nb.o_addL, Nb.o_addT, Nb.o_eq, Nb.o_ne, Nb.o_extL, Nb.o_extT, Nb.o_app, Nb.at0, Nb.ix_in, Nb.at1, Nb.at2, Nb.pick_in, Nb.o_ixL, Nb.o_ixT, Nb.o_ixLn, Nb.o_ixTn, Nb.pk0, Nb.pk1, Nb.pk2, Nb.o_eqi, Nb.o_eqb, Nb.o_nei, Nb.o_divmod, Nb.o_all, Nb.o_sum, Nb.v_exc, Nb.ex_x, Nb.fl_house, Nb.fl_nobody, Nb.fl_text, Nb.fl_open, Nb.fl_many, Nb.fl_most, Nb.v_throw, Nb.v_throwF1, Nb.v_throwF2, Nb.sm_log, Nb.v_try, Nb.tr_nx, Nb.tr_rt, Nb.tr_rtt, Nb.tr_rto, Nb.tr_c0, Nb.tr_c1, Nb.tr_c2, Nb.tr_c3, Nb.tr_c4, Nb.tr_c5, Nb.tr_c6, Nb.tr_c7, Nb.tr_c8, Nb.tr_c9, Nb.tr_c10, Nb.tr_c11, Nb.v_putX, Nb.px_no, Nb.px_v, Nb.ox_nx, Nb.ox_rt, Nb.ox_rto, Nb.v_endX, Nb.en_x, Nb.cl_nil, Nb.cl_cons, Nb.cl_no, Nb.cl_v, Nb.cl_oo, Nb.cl_ioo, Nb.cl_x, Nb.io_x, Nb.vs_x, Nb.xs_x, Nb.fs_ex, Nb.lo_ex, Nb.ce_x, Nb.sl_x, Nb.pb_x, Nb.v_m2T, Nb.kd_l, Nb.kd_t, Nb.me_1, Nb.me_2, Nb.me_3, Nb.o_revL, Nb.o_revT, Nb.o_lr1, Nb.o_tr1, Nb.o_eqs, Nb.o_nes, R.elim_ok, R.elim_ex, R.elim_bad, Out.next_nx, Option.bind_some, Option.map_some, Option.bind_none, Option.map_none, List.cons_append, List.nil_append, List.replicate_succ, List.replicate_zero, Nat.reduceSub, Nat.reduceAdd, if_true, if_false, Bool.not_true, Bool.not_false, Bool.false_eq_true, List.length_cons, List.length_nil, List.append_nil, Int.reduceToNat, List.set_cons_zero, List.set_cons_succ, decide_true, decide_false, Int.reduceEq, Int.reduceLT, Int.reduceLE, List.nodup_nil, Nb.rb_n2, Nb.rb_p2, Nb.rb_n1, Nb.rb_p1, and_self, and_true, true_and, and_false, false_and, not_true_eq_false, not_false_eq_true, Nb.nd1, Nb.nd2, Nb.nd3, Nb.k_int, Nb.k_bool, Nb.k_tuple, Nb.k_list, Nb.k_str, Nb.cast_lit, Nb.o_inI, Nb.o_inIT, Nb.o_sortU, Nb.o_sorted, Nb.o_sortT, Nb.o_neL0, Nb.o_neb, Nb.o_eqT0, Nb.o_pop, Nb.hasK_T, Nb.o_sumT, Nb.o_sumL, Nb.pick_ints, Nb.pick_rows, Nb.o_eqT, Nb.o_neT, Nb.o_eqL, Nb.o_neL, Nb.o_eqR, Nb.o_neR, Nb.all_map', Int.reduceNeg, Nb.o_cntT, Nb.o_cntL, Nb.ints_rev, Bool.false_bne, Bool.true_bne, Bool.and_self, Bool.or_self, Bool.true_and, Bool.and_true, Bool.false_and, Bool.and_false, Bool.true_or, Bool.or_true, Bool.false_or, Bool.or_false]
  rw [show (ns.map PyData.int).all (fun _ => true) = true by simp]
end Nb
namespace Nb
open L2 PySem PySem.Spec PyProof.Rows
theorem HouseOk.mono {hs : List (List Int)} {most doors most' doors' : Nat} (h : HouseOk hs most doors) (h1 : most ≤ most') (h2 : doors ≤ doors') : HouseOk hs most' doors' :=
  ⟨h.one, Nat.le_trans h.most h1, fun r hr => by
    obtain ⟨a, b, c⟩ := h.room r hr
    exact ⟨a, by omega, c⟩⟩
theorem few_states {n d : Nat} (hn : n ≤ 5) (hd : d ≤ 3) : n * d ^ n ≤ 1215 := by
  have h1 : d ^ n ≤ 3 ^ 5 := Nat.le_trans (Nat.pow_le_pow_left hd n) (Nat.pow_le_pow_right (by omega) hn)
  have h2 : n * d ^ n ≤ 5 * 3 ^ 5 := Nat.mul_le_mul hn h1
  exact h2
theorem right_ok {hs : List (List Int)} {as : List Int} (hh : HouseOk hs 5 3) (hS : Shut hs) (ha : ArrOk hs as) {k : Int} (h0 : 0 ≤ k) (h1 : k < hs.length) : d19 [.v (housD hs), .v (tupI as), .v (.int k)] = .ok (.bool true) [.no, .no, .no] := by
  have hmost := hh.most
  obtain ⟨T, m, hR, hT⟩ := rnd_ex hh hS ha h0 h1
  have hfew := few_states (n := hs.length) (d := 3) hmost (by omega)
  have e1 := lawround_ok hh (by omega) hS ha h0 h1 hR (by omega)
  have e2 := roundof_ok hh (by omega) hS ha h0 h1 hR (by omega)
  have e3 := tuple_ok (ns := [(m : Int), (T : Int) - m]) (by simp)
  simp only [tupI, List.map_cons, List.map_nil] at e3
  generalize (List.range T).map (fun t => stD (wS hs as k t)) = L at e1
  obtain ⟨e', hf, u6, g6, rfl⟩ := for_all (g := gNm 6) (body := d19b0) (items := rngD 0 2) (I := fun _ env => ∃ u6, Fr u6 ∧ env = [.v (housD hs), .v (tupI as), .v (.int k), .v (.int m), .v (.int ((T : Int) - m)), .v (.list L), u6]) (fun j d env hj ⟨u6, g6, he⟩ => by
    subst he
    refine ⟨_, .inl ?_, .v d, .v, rfl⟩
    unfold stepS
    simp -implicitDefEqProofs (maxSteps := 4000000) (disch := first | with_unfolding_all rfl | omega | (simp only [List.length_append, List.length_cons, List.length_nil, List.length_map, List.length_replicate, List.length_take, List.length_drop]; omega)) only [d19b0, g6.d, e2, e3, Nb.v_zipM, Nb.zm_ll, Nb.zm_lt, Nb.zm_tl, Nb.zm_tt, Nb.fp_ok, Nb.fp_okt, Nb.fp_ex, Nb.v_mFP, Nb.v_tupP, Nb.tp_f, Nb.tp_s, Nb.tp_d, Nb.v_pairD, Nb.oa_o, Nb.oa_v, Nb.v_retP, Nb.rp_d, Nb.rp_t, Nb.v_unpP, Nb.up_d, Nb.up_t, Nb.v_putO, Nb.po_n, Nb.po_v, Nb.po_o, Nb.v_parO, Nb.pr_ff, Nb.v_mLcO, Nb.la_o, Nb.la_v, Nb.nn_n, Nb.v_ix1P, Nb.i1_t, Nb.i1_d, Nb.kO_t, Nb.v_inN, Nb.v_ixN, Nb.v_setN, Nb.is_n, Nb.nio_no, Nb.nio_v, Nb.nio_n, Nb.v_putN, Nb.oe_s, Nb.oe_n, Nb.v_c, Nb.v_var, Nb.vs_v, Nb.vs_o, Nb.vs_io, Nb.w_d, Nb.w_f, Nb.w_s, Nb.ws_o, Nb.ws_io, Nb.ws_v, Nb.cl_l, Nb.cl_d, Nb.a_d, Nb.a_f, Nb.a_s, Nb.as_o, Nb.as_v, Nb.as_nil, Nb.as_cons, Nb.v_m2, Nb.v_ap2, Nb.v_m1, Nb.v_ap1, Nb.v_set, Nb.sd_no, Nb.sd_v, Nb.sd_o, Nb.sf_no, Nb.sf_v, Nb.sf_o, Nb.ss_no, Nb.ss_v, Nb.ss_oo, Nb.v_nil, Nb.v_cons, Nb.v_tup, Nb.v_lst, Nb.v_rep, Nb.w_nil, Nb.w_cons, Nb.v_mA, Nb.p_nil, Nb.p_t, Nb.p_f, Nb.x_d, Nb.x_f, Nb.x_s, Nb.xs_v, Nb.xs_o, Nb.xs_io, Nb.ce_nil, Nb.ce_v, Nb.ce_i, Nb.cs_o, Nb.cs_io, Nb.sl_nil, Nb.sl_v, Nb.sl_i, Nb.fo_ok, Nb.fo_okt, Nb.fo_oko, Nb.fo_ex, Nb.v_mF, Nb.pb_nil, Nb.pb_v, Nb.pb_i, Nb.ss_o, Nb.ss_io, Nb.b_b, Nb.v_toB, Nb.v_mTst, Nb.v_and, Nb.v_or, Nb.v_not, Nb.v_if, Nb.v_andV, Nb.v_orV, Nb.v_notV, Nb.v_m3, Nb.v_inR, Nb.v_part0, Nb.i_i, Nb.v_part1, Nb.v_sl, Nb.v_dc0, Nb.v_dc1, Nb.v_seq, Nb.n_rt, Nb.n_rtt, Nb.n_rto, Nb.n_bk, Nb.n_ct, Nb.n_ex, Nb.n_bad, Nb.v_nop, Nb.v_brk, Nb.v_cnt, Nb.v_expr, Nb.v_ifS, Nb.v_ret, Nb.v_retN, Nb.r_d, Nb.r_f, Nb.r_s, Nb.rs_o, Nb.rs_v, Nb.v_asg, Nb.t_nm, Nb.t_nil, Nb.t_cons, Nb.t_tp, Nb.ps_2, Nb.v_par, Nb.v_for, Nb.v_items, Nb.it_l, Nb.it_t, Nb.v_src, Nb.rg1, Nb.rg2, Nb.v_enum, Nb.eo_1, Nb.v_zip, Nb.v_zipD, Nb.zo_l, Nb.zo_t, Nb.v_mut, Nb.il_o, Nb.il_io, Nb.v_apMut, Nb.mu_o, Nb.mu_io, Nb.v_gPut, Nb.pu_o, Nb.pu_io, Nb.v_augS, Nb.id_i, Nb.cl_o, Nb.cl_io, Nb.v_dict, Nb.ky_i, Nb.ky_s, Nb.v_keys, Nb.ko_f, Nb.v_gPutA, Nb.pd_o, Nb.ic_o, Nb.ic_io, Nb.v_mLc, Nb.wi_nil, Nb.wi_cons, Nb.wp_no, Nb.wp_v, Nb.re_nil, Nb.re_cons, Nb.rt_nn, Nb.rt_vn, Nb.rt_nv, Nb.rt_vv, Nb.f1, Nb.f2, Nb.f3, Nb.f4, Nb.f5, Nb.fs_nx, Nb.fs_rt, Nb.fs_rtt, Nb.fs_rto, Nb.ou_0, Nb.ou_s, Nb.io_no, Nb.io_v, Nb.io_o, Nb.io_io, Nb.g0, Nb.g1, Nb.s0, Nb.s1, Nb.ln_le, Nb.ln_lt, Nb.o_add, Nb.o_sub, Nb.o_mulr, Nb.o_mull, Nb.o_fdiv, Nb.o_mod, Nb.o_neg, Nb.o_cmp, Nb.o_max2, Nb.o_min2, Nb.o_int_b, Nb.o_lenL, Nb.o_lenT, Nb.o_pow, Nb.o_slL, Nb.o_slT, Nb.o_repT, Nb.v_apR, Nb.o_inD, Nb.o_inL, Nb.o_inT, Nb.o_list_l, Nb.o_list_t, Nb.o_tup_l, Nb.o_tup_t, Nb.o_addL, Nb.o_addT, Nb.o_eq, Nb.o_ne, Nb.o_extL, Nb.o_extT, Nb.o_app, Nb.at0, Nb.ix_in, Nb.at1, Nb.at2, Nb.pick_in, Nb.o_ixL, Nb.o_ixT, Nb.o_ixLn, Nb.o_ixTn, Nb.pk0, Nb.pk1, Nb.pk2, Nb.o_eqi, Nb.o_eqb, Nb.o_nei, Nb.o_divmod, Nb.o_all, Nb.o_sum, Nb.v_exc, Nb.ex_x, Nb.fl_house, Nb.fl_nobody, Nb.fl_text, Nb.fl_open, Nb.fl_many, Nb.fl_most, Nb.v_throw, Nb.v_throwF1, Nb.v_throwF2, Nb.sm_log, Nb.v_try, Nb.tr_nx, Nb.tr_rt, Nb.tr_rtt, Nb.tr_rto, Nb.tr_c0, Nb.tr_c1, Nb.tr_c2, Nb.tr_c3, Nb.tr_c4, Nb.tr_c5, Nb.tr_c6, Nb.tr_c7, Nb.tr_c8, Nb.tr_c9, Nb.tr_c10, Nb.tr_c11, Nb.v_putX, Nb.px_no, Nb.px_v, Nb.ox_nx, Nb.ox_rt, Nb.ox_rto, Nb.v_endX, Nb.en_x, Nb.cl_nil, Nb.cl_cons, Nb.cl_no, Nb.cl_v, Nb.cl_oo, Nb.cl_ioo, Nb.cl_x, Nb.io_x, Nb.vs_x, Nb.xs_x, Nb.fs_ex, Nb.lo_ex, Nb.ce_x, Nb.sl_x, Nb.pb_x, Nb.v_m2T, Nb.kd_l, Nb.kd_t, Nb.me_1, Nb.me_2, Nb.me_3, Nb.o_revL, Nb.o_revT, Nb.o_lr1, Nb.o_tr1, Nb.o_eqs, Nb.o_nes, R.elim_ok, R.elim_ex, R.elim_bad, Out.next_nx, Option.bind_some, Option.map_some, Option.bind_none, Option.map_none, List.cons_append, List.nil_append, List.replicate_succ, List.replicate_zero, Nat.reduceSub, Nat.reduceAdd, if_true, if_false, Bool.not_true, Bool.not_false, Bool.false_eq_true, List.length_cons, List.length_nil, List.append_nil, Int.reduceToNat, List.set_cons_zero, List.set_cons_succ, decide_true, decide_false, Int.reduceEq, Int.reduceLT, Int.reduceLE, List.nodup_nil, Nb.rb_n2, Nb.rb_p2, Nb.rb_n1, Nb.rb_p1, and_self, and_true, true_and, and_false, false_and, not_true_eq_false, not_false_eq_true, Nb.nd1, Nb.nd2, Nb.nd3, Nb.k_int, Nb.k_bool, Nb.k_tuple, Nb.k_list, Nb.k_str, Nb.cast_lit, Nb.o_inI, Nb.o_inIT, Nb.o_sortU, Nb.o_sorted, Nb.o_sortT, Nb.o_neL0, Nb.o_neb, Nb.o_eqT0, Nb.o_pop, Nb.hasK_T, Nb.o_sumT, Nb.o_sumL, Nb.pick_ints, Nb.pick_rows, Nb.o_eqT, Nb.o_neT, Nb.o_eqL, Nb.o_neL, Nb.o_eqR, Nb.o_neR, Nb.all_map', Int.reduceNeg, Nb.o_cntT, Nb.o_cntL, Nb.ints_rev, Bool.false_bne, Bool.true_bne, Bool.and_self, Bool.or_self, Bool.true_and, Bool.and_true, Bool.false_and, Bool.and_false, Bool.true_or, Bool.or_true, Bool.false_or, Bool.or_false]) (env := [.v (housD hs), .v (tupI as), .v (.int k), .v (.int m), .v (.int ((T : Int) - m)), .v (.list L), .no]) ⟨_, .no, rfl⟩
  unfold d19
  simp -implicitDefEqProofs (maxSteps := 4000000) (disch := first | with_unfolding_all rfl | omega | (simp only [List.length_append, List.length_cons, List.length_nil, List.length_map, List.length_replicate, List.length_take, List.length_drop]; omega)) only [e1, hf, Nb.v_zipM, Nb.zm_ll, Nb.zm_lt, Nb.zm_tl, Nb.zm_tt, Nb.fp_ok, Nb.fp_okt, Nb.fp_ex, Nb.v_mFP, Nb.v_tupP, Nb.tp_f, Nb.tp_s, Nb.tp_d, Nb.v_pairD, Nb.oa_o, Nb.oa_v, Nb.v_retP, Nb.rp_d, Nb.rp_t, Nb.v_unpP, Nb.up_d, Nb.up_t, Nb.v_putO, Nb.po_n, Nb.po_v, Nb.po_o, Nb.v_parO, Nb.pr_ff, Nb.v_mLcO, Nb.la_o, Nb.la_v, Nb.nn_n, Nb.v_ix1P, Nb.i1_t, Nb.i1_d, Nb.kO_t, Nb.v_inN, Nb.v_ixN, Nb.v_setN, Nb.is_n, Nb.nio_no, Nb.nio_v, Nb.nio_n, Nb.v_putN, Nb.oe_s, Nb.oe_n, Nb.v_c, Nb.v_var, Nb.vs_v, Nb.vs_o, Nb.vs_io, Nb.w_d, Nb.w_f, Nb.w_s, Nb.ws_o, Nb.ws_io, Nb.ws_v, Nb.cl_l, Nb.cl_d, Nb.a_d, Nb.a_f, Nb.a_s, Nb.as_o, Nb.as_v, Nb.as_nil, Nb.as_cons, Nb.v_m2, Nb.v_ap2, Nb.v_m1, Nb.v_ap1, Nb.v_set, Nb.sd_no, Nb.sd_v, Nb.sd_o, Nb.sf_no, Nb.sf_v, Nb.sf_o, Nb.ss_no, Nb.ss_v, Nb.ss_oo, Nb.v_nil, Nb.v_cons, Nb.v_tup, Nb.v_lst, Nb.v_rep, Nb.w_nil, Nb.w_cons, Nb.v_mA, Nb.p_nil, Nb.p_t, Nb.p_f, Nb.x_d, Nb.x_f, Nb.x_s, Nb.xs_v, Nb.xs_o, Nb.xs_io, Nb.ce_nil, Nb.ce_v, Nb.ce_i, Nb.cs_o, Nb.cs_io, Nb.sl_nil, Nb.sl_v, Nb.sl_i, Nb.fo_ok, Nb.fo_okt, Nb.fo_oko, Nb.fo_ex, Nb.v_mF, Nb.pb_nil, Nb.pb_v, Nb.pb_i, Nb.ss_o, Nb.ss_io, Nb.b_b, Nb.v_toB, Nb.v_mTst, Nb.v_and, Nb.v_or, Nb.v_not, Nb.v_if, Nb.v_andV, Nb.v_orV, Nb.v_notV, Nb.v_m3, Nb.v_inR, Nb.v_part0, Nb.i_i, Nb.v_part1, Nb.v_sl, Nb.v_dc0, Nb.v_dc1, Nb.v_seq, Nb.n_rt, Nb.n_rtt, Nb.n_rto, Nb.n_bk, Nb.n_ct, Nb.n_ex, Nb.n_bad, Nb.v_nop, Nb.v_brk, Nb.v_cnt, Nb.v_expr, Nb.v_ifS, Nb.v_ret, Nb.v_retN, Nb.r_d, Nb.r_f, Nb.r_s, Nb.rs_o, Nb.rs_v, Nb.v_asg, Nb.t_nm, Nb.t_nil, Nb.t_cons, Nb.t_tp, Nb.ps_2, Nb.v_par, Nb.v_for, Nb.v_items, Nb.it_l, Nb.it_t, Nb.v_src, Nb.rg1, Nb.rg2, Nb.v_enum, Nb.eo_1, Nb.v_zip, Nb.v_zipD, Nb.zo_l, Nb.zo_t, Nb.v_mut, Nb.il_o, Nb.il_io, Nb.v_apMut, Nb.mu_o, Nb.mu_io, Nb.v_gPut, Nb.pu_o, Nb.pu_io, Nb.v_augS, Nb.id_i, Nb.cl_o, Nb.cl_io, Nb.v_dict, Nb.ky_i, Nb.ky_s, Nb.v_keys, Nb.ko_f, Nb.v_gPutA, Nb.pd_o, Nb.ic_o, Nb.ic_io, Nb.v_mLc, Nb.wi_nil, Nb.wi_cons, Nb.wp_no, Nb.wp_v, Nb.re_nil, Nb.re_cons, Nb.rt_nn, Nb.rt_vn, Nb.rt_nv, Nb.rt_vv, Nb.f1, Nb.f2, Nb.f3, Nb.f4, Nb.f5, Nb.fs_nx, Nb.fs_rt, Nb.fs_rtt, Nb.fs_rto, Nb.ou_0, Nb.ou_s, Nb.io_no, Nb.io_v, Nb.io_o, Nb.io_io, Nb.g0, Nb.g1, Nb.s0, Nb.s1, Nb.ln_le, Nb.ln_lt, Nb.o_add, Nb.o_sub, Nb.o_mulr, Nb.o_mull, Nb.o_fdiv, Nb.o_mod, Nb.o_neg, Nb.o_cmp, Nb.o_max2, Nb.o_min2, Nb.o_int_b, Nb.o_lenL, Nb.o_lenT, Nb.o_pow, Nb.o_slL, Nb.o_slT, Nb.o_repT, Nb.v_apR, Nb.o_inD, Nb.o_inL, Nb.o_inT, Nb.o_list_l, Nb.o_list_t, Nb.o_tup_l, Nb.o_tup_t, Nb.o_addL, Nb.o_addT, Nb.o_eq, Nb.o_ne, Nb.o_extL, Nb.o_extT, Nb.o_app, Nb.at0, Nb.ix_in, Nb.at1, Nb.at2, Nb.pick_in, Nb.o_ixL, Nb.o_ixT, Nb.o_ixLn, Nb.o_ixTn, Nb.pk0, Nb.pk1, Nb.pk2, Nb.o_eqi, Nb.o_eqb, Nb.o_nei, Nb.o_divmod, Nb.o_all, Nb.o_sum, Nb.v_exc, Nb.ex_x, Nb.fl_house, Nb.fl_nobody, Nb.fl_text, Nb.fl_open, Nb.fl_many, Nb.fl_most, Nb.v_throw, Nb.v_throwF1, Nb.v_throwF2, Nb.sm_log, Nb.v_try, Nb.tr_nx, Nb.tr_rt, Nb.tr_rtt, Nb.tr_rto, Nb.tr_c0, Nb.tr_c1, Nb.tr_c2, Nb.tr_c3, Nb.tr_c4, Nb.tr_c5, Nb.tr_c6, Nb.tr_c7, Nb.tr_c8, Nb.tr_c9, Nb.tr_c10, Nb.tr_c11, Nb.v_putX, Nb.px_no, Nb.px_v, Nb.ox_nx, Nb.ox_rt, Nb.ox_rto, Nb.v_endX, Nb.en_x, Nb.cl_nil, Nb.cl_cons, Nb.cl_no, Nb.cl_v, Nb.cl_oo, Nb.cl_ioo, Nb.cl_x, Nb.io_x, Nb.vs_x, Nb.xs_x, Nb.fs_ex, Nb.lo_ex, Nb.ce_x, Nb.sl_x, Nb.pb_x, Nb.v_m2T, Nb.kd_l, Nb.kd_t, Nb.me_1, Nb.me_2, Nb.me_3, Nb.o_revL, Nb.o_revT, Nb.o_lr1, Nb.o_tr1, Nb.o_eqs, Nb.o_nes, R.elim_ok, R.elim_ex, R.elim_bad, Out.next_nx, Option.bind_some, Option.map_some, Option.bind_none, Option.map_none, List.cons_append, List.nil_append, List.replicate_succ, List.replicate_zero, Nat.reduceSub, Nat.reduceAdd, if_true, if_false, Bool.not_true, Bool.not_false, Bool.false_eq_true, List.length_cons, List.length_nil, List.append_nil, Int.reduceToNat, List.set_cons_zero, List.set_cons_succ, decide_true, decide_false, Int.reduceEq, Int.reduceLT, Int.reduceLE, List.nodup_nil, Nb.rb_n2, Nb.rb_p2, Nb.rb_n1, Nb.rb_p1, and_self, and_true, true_and, and_false, false_and, not_true_eq_false, not_false_eq_true, Nb.nd1, Nb.nd2, Nb.nd3, Nb.k_int, Nb.k_bool, Nb.k_tuple, Nb.k_list, Nb.k_str, Nb.cast_lit, Nb.o_inI, Nb.o_inIT, Nb.o_sortU, Nb.o_sorted, Nb.o_sortT, Nb.o_neL0, Nb.o_neb, Nb.o_eqT0, Nb.o_pop, Nb.hasK_T, Nb.o_sumT, Nb.o_sumL, Nb.pick_ints, Nb.pick_rows, Nb.o_eqT, Nb.o_neT, Nb.o_eqL, Nb.o_neL, Nb.o_eqR, Nb.o_neR, Nb.all_map', Int.reduceNeg, Nb.o_cntT, Nb.o_cntL, Nb.ints_rev, Bool.false_bne, Bool.true_bne, Bool.and_self, Bool.or_self, Bool.true_and, Bool.and_true, Bool.false_and, Bool.and_false, Bool.true_or, Bool.or_true, Bool.false_or, Bool.or_false]
def E25 (L : D) (s1 s2 s3 s4 s5 : Sl) : Ev := [.v L, s1, s2, s3, s4, s5]
theorem pick3 {r : Int} (h0 : 0 ≤ r) (h1 : r < 3) : ∃ m : Nat, 1 ≤ m ∧ m ≤ 5 ∧ pick [PyData.int 3, .int 4, .int 5] r = .int m := by
  have hp := pick_mem (xs := [PyData.int 3, .int 4, .int 5]) h0 (by show r < 3; omega)
  simp only [List.mem_cons, List.not_mem_nil, or_false] at hp
  rcases hp with h | h | h <;> rw [h]
  · exact ⟨3, by omega, by omega, rfl⟩
  · exact ⟨4, by omega, by omega, rfl⟩
  · exact ⟨5, by omega, by omega, rfl⟩
theorem cell_step {L : D} {n : Int} {s1 s2 s3 s4 s5 : Sl} (f1 : Fr s1) (f2 : Fo' s2) (f3 : Fr s3) (f4 : Fr s4) (f5 : Fr s5) : ∃ t1 t2 t3 t4 t5, Fr t1 ∧ Fo' t2 ∧ Fr t3 ∧ Fr t4 ∧ Fr t5 ∧ stepS (gNm 1) d20b1 (.int n) (E25 L s1 s2 s3 s4 s5) = .nx (E25 L t1 t2 t3 t4 t5) := by
  obtain ⟨c0, p0, e0⟩ := pen_ok (n := n)
  obtain ⟨c1, r, p1, r0, r1, e1⟩ := draw_ok (m := 3) p0 (by omega) (by omega)
  obtain ⟨m, m1, m2, em⟩ := pick3 r0 r1
  obtain ⟨c2, hs, p2, hh, hS, e2⟩ := lawshut_ok p1 (most := m) (doors := 3) m1 (by omega) (by omega) (by omega)
  replace e2 : d14 [.io c1, .v (.int m), .v (.int 3)] = .ok (housD hs) [.io c2, .no, .no] := e2
  have hh' : HouseOk hs 5 3 := hh.mono m2 (Nat.le_refl _)
  have hmost := hh'.most
  obtain ⟨c3, as, p3, ha, e3⟩ := arrows_ok p2 hh' (by omega) (by omega)
  obtain ⟨e', hf, u5, g5, rfl⟩ := for_all (g := gNm 5) (body := d20b0) (items := rngD 0 hs.length) (I := fun _ env => ∃ u5, Fr u5 ∧ env = E25 L (.v (.int n)) (.o c3) (.v (housD hs)) (.v (tupI as)) u5) (fun j d env hj ⟨u5, g5, he⟩ => by
    subst he
    obtain ⟨rfl, hjl⟩ := rngD_get hj
    rw [Int.zero_add] at hjl ⊢
    have hb := right_ok hh' hS ha (k := (j : Int)) (by omega) hjl
    refine ⟨_, .inl ?_, .v (.int j), .v, rfl⟩
    unfold stepS E25
    simp -implicitDefEqProofs (maxSteps := 4000000) (disch := first | with_unfolding_all rfl | omega | (simp only [List.length_append, List.length_cons, List.length_nil, List.length_map, List.length_replicate, List.length_take, List.length_drop]; omega)) only [d20b0, g5.d, hb, Nb.v_zipM, Nb.zm_ll, Nb.zm_lt, Nb.zm_tl, Nb.zm_tt, Nb.fp_ok, Nb.fp_okt, Nb.fp_ex, Nb.v_mFP, Nb.v_tupP, Nb.tp_f, Nb.tp_s, Nb.tp_d, Nb.v_pairD, Nb.oa_o, Nb.oa_v, Nb.v_retP, Nb.rp_d, Nb.rp_t, Nb.v_unpP, Nb.up_d, Nb.up_t, Nb.v_putO, Nb.po_n, Nb.po_v, Nb.po_o, Nb.v_parO, Nb.pr_ff, Nb.v_mLcO, Nb.la_o, Nb.la_v, Nb.nn_n, Nb.v_ix1P, Nb.i1_t, Nb.i1_d, Nb.kO_t, Nb.v_inN, Nb.v_ixN, Nb.v_setN, Nb.is_n, Nb.nio_no, Nb.nio_v, Nb.nio_n, Nb.v_putN, Nb.oe_s, Nb.oe_n, Nb.v_c, Nb.v_var, Nb.vs_v, Nb.vs_o, Nb.vs_io, Nb.w_d, Nb.w_f, Nb.w_s, Nb.ws_o, Nb.ws_io, Nb.ws_v, Nb.cl_l, Nb.cl_d, Nb.a_d, Nb.a_f, Nb.a_s, Nb.as_o, Nb.as_v, Nb.as_nil, Nb.as_cons, Nb.v_m2, Nb.v_ap2, Nb.v_m1, Nb.v_ap1, Nb.v_set, Nb.sd_no, Nb.sd_v, Nb.sd_o, Nb.sf_no, Nb.sf_v, Nb.sf_o, Nb.ss_no, Nb.ss_v, Nb.ss_oo, Nb.v_nil, Nb.v_cons, Nb.v_tup, Nb.v_lst, Nb.v_rep, Nb.w_nil, Nb.w_cons, Nb.v_mA, Nb.p_nil, Nb.p_t, Nb.p_f, Nb.x_d, Nb.x_f, Nb.x_s, Nb.xs_v, Nb.xs_o, Nb.xs_io, Nb.ce_nil, Nb.ce_v, Nb.ce_i, Nb.cs_o, Nb.cs_io, Nb.sl_nil, Nb.sl_v, Nb.sl_i, Nb.fo_ok, Nb.fo_okt, Nb.fo_oko, Nb.fo_ex, Nb.v_mF, Nb.pb_nil, Nb.pb_v, Nb.pb_i, Nb.ss_o, Nb.ss_io, Nb.b_b, Nb.v_toB, Nb.v_mTst, Nb.v_and, Nb.v_or, Nb.v_not, Nb.v_if, Nb.v_andV, Nb.v_orV, Nb.v_notV, Nb.v_m3, Nb.v_inR, Nb.v_part0, Nb.i_i, Nb.v_part1, Nb.v_sl, Nb.v_dc0, Nb.v_dc1, Nb.v_seq, Nb.n_rt, Nb.n_rtt, Nb.n_rto, Nb.n_bk, Nb.n_ct, Nb.n_ex, Nb.n_bad, Nb.v_nop, Nb.v_brk, Nb.v_cnt, Nb.v_expr, Nb.v_ifS, Nb.v_ret, Nb.v_retN, Nb.r_d, Nb.r_f, Nb.r_s, Nb.rs_o, Nb.rs_v, Nb.v_asg, Nb.t_nm, Nb.t_nil, Nb.t_cons, Nb.t_tp, Nb.ps_2, Nb.v_par, Nb.v_for, Nb.v_items, Nb.it_l, Nb.it_t, Nb.v_src, Nb.rg1, Nb.rg2, Nb.v_enum, Nb.eo_1, Nb.v_zip, Nb.v_zipD, Nb.zo_l, Nb.zo_t, Nb.v_mut, Nb.il_o, Nb.il_io, Nb.v_apMut, Nb.mu_o, Nb.mu_io, Nb.v_gPut, Nb.pu_o, Nb.pu_io, Nb.v_augS, Nb.id_i, Nb.cl_o, Nb.cl_io, Nb.v_dict, Nb.ky_i, Nb.ky_s, Nb.v_keys, Nb.ko_f, Nb.v_gPutA, Nb.pd_o, Nb.ic_o, Nb.ic_io, Nb.v_mLc, Nb.wi_nil, Nb.wi_cons, Nb.wp_no, Nb.wp_v, Nb.re_nil, Nb.re_cons, Nb.rt_nn, Nb.rt_vn, Nb.rt_nv, Nb.rt_vv, Nb.f1, Nb.f2, Nb.f3, Nb.f4, Nb.f5, Nb.fs_nx, Nb.fs_rt, Nb.fs_rtt, Nb.fs_rto, Nb.ou_0, Nb.ou_s, Nb.io_no, Nb.io_v, Nb.io_o, Nb.io_io, Nb.g0, Nb.g1, Nb.s0, Nb.s1, Nb.ln_le, Nb.ln_lt, Nb.o_add, Nb.o_sub, Nb.o_mulr, Nb.o_mull, Nb.o_fdiv, Nb.o_mod, Nb.o_neg, Nb.o_cmp, Nb.o_max2, Nb.o_min2, Nb.o_int_b, Nb.o_lenL, Nb.o_lenT, Nb.o_pow, Nb.o_slL, Nb.o_slT, Nb.o_repT, Nb.v_apR, Nb.o_inD, Nb.o_inL, Nb.o_inT, Nb.o_list_l, Nb.o_list_t, Nb.o_tup_l, Nb.o_tup_t, Nb.o_addL, Nb.o_addT, Nb.o_eq, Nb.o_ne, Nb.o_extL, Nb.o_extT, Nb.o_app, Nb.at0, Nb.ix_in, Nb.at1, Nb.at2, Nb.pick_in, Nb.o_ixL, Nb.o_ixT, Nb.o_ixLn, Nb.o_ixTn, Nb.pk0, Nb.pk1, Nb.pk2, Nb.o_eqi, Nb.o_eqb, Nb.o_nei, Nb.o_divmod, Nb.o_all, Nb.o_sum, Nb.v_exc, Nb.ex_x, Nb.fl_house, Nb.fl_nobody, Nb.fl_text, Nb.fl_open, Nb.fl_many, Nb.fl_most, Nb.v_throw, Nb.v_throwF1, Nb.v_throwF2, Nb.sm_log, Nb.v_try, Nb.tr_nx, Nb.tr_rt, Nb.tr_rtt, Nb.tr_rto, Nb.tr_c0, Nb.tr_c1, Nb.tr_c2, Nb.tr_c3, Nb.tr_c4, Nb.tr_c5, Nb.tr_c6, Nb.tr_c7, Nb.tr_c8, Nb.tr_c9, Nb.tr_c10, Nb.tr_c11, Nb.v_putX, Nb.px_no, Nb.px_v, Nb.ox_nx, Nb.ox_rt, Nb.ox_rto, Nb.v_endX, Nb.en_x, Nb.cl_nil, Nb.cl_cons, Nb.cl_no, Nb.cl_v, Nb.cl_oo, Nb.cl_ioo, Nb.cl_x, Nb.io_x, Nb.vs_x, Nb.xs_x, Nb.fs_ex, Nb.lo_ex, Nb.ce_x, Nb.sl_x, Nb.pb_x, Nb.v_m2T, Nb.kd_l, Nb.kd_t, Nb.me_1, Nb.me_2, Nb.me_3, Nb.o_revL, Nb.o_revT, Nb.o_lr1, Nb.o_tr1, Nb.o_eqs, Nb.o_nes, R.elim_ok, R.elim_ex, R.elim_bad, Out.next_nx, Option.bind_some, Option.map_some, Option.bind_none, Option.map_none, List.cons_append, List.nil_append, List.replicate_succ, List.replicate_zero, Nat.reduceSub, Nat.reduceAdd, if_true, if_false, Bool.not_true, Bool.not_false, Bool.false_eq_true, List.length_cons, List.length_nil, List.append_nil, Int.reduceToNat, List.set_cons_zero, List.set_cons_succ, decide_true, decide_false, Int.reduceEq, Int.reduceLT, Int.reduceLE, List.nodup_nil, Nb.rb_n2, Nb.rb_p2, Nb.rb_n1, Nb.rb_p1, and_self, and_true, true_and, and_false, false_and, not_true_eq_false, not_false_eq_true, Nb.nd1, Nb.nd2, Nb.nd3, Nb.k_int, Nb.k_bool, Nb.k_tuple, Nb.k_list, Nb.k_str, Nb.cast_lit, Nb.o_inI, Nb.o_inIT, Nb.o_sortU, Nb.o_sorted, Nb.o_sortT, Nb.o_neL0, Nb.o_neb, Nb.o_eqT0, Nb.o_pop, Nb.hasK_T, Nb.o_sumT, Nb.o_sumL, Nb.pick_ints, Nb.pick_rows, Nb.o_eqT, Nb.o_neT, Nb.o_eqL, Nb.o_neL, Nb.o_eqR, Nb.o_neR, Nb.all_map', Int.reduceNeg, Nb.o_cntT, Nb.o_cntL, Nb.ints_rev, Bool.false_bne, Bool.true_bne, Bool.and_self, Bool.or_self, Bool.true_and, Bool.and_true, Bool.false_and, Bool.and_false, Bool.true_or, Bool.or_true, Bool.false_or, Bool.or_false]) (env := E25 L (.v (.int n)) (.o c3) (.v (housD hs)) (.v (tupI as)) s5) ⟨s5, f5, rfl⟩
  refine ⟨.v (.int n), .o c3, .v (housD hs), .v (tupI as), u5, .v, .o, .v, .v, g5, ?_⟩
  unfold stepS
  unfold E25 at hf ⊢
  simp -implicitDefEqProofs (maxSteps := 4000000) (disch := first | with_unfolding_all rfl | omega | (simp only [List.length_append, List.length_cons, List.length_nil, List.length_map, List.length_replicate, List.length_take, List.length_drop]; omega)) only [d20b1, f1.d, f2.f, f3.d, f4.d, e0, e1, em, e2, e3, List.length_map, hf, Nb.v_zipM, Nb.zm_ll, Nb.zm_lt, Nb.zm_tl, Nb.zm_tt, Nb.fp_ok, Nb.fp_okt, Nb.fp_ex, Nb.v_mFP, Nb.v_tupP, Nb.tp_f, Nb.tp_s, Nb.tp_d, Nb.v_pairD, Nb.oa_o, Nb.oa_v, Nb.v_retP, Nb.rp_d, Nb.rp_t, Nb.v_unpP, Nb.up_d, Nb.up_t, Nb.v_putO, Nb.po_n, Nb.po_v, Nb.po_o, Nb.v_parO, Nb.pr_ff, Nb.v_mLcO, Nb.la_o, Nb.la_v, Nb.nn_n, Nb.v_ix1P, Nb.i1_t, Nb.i1_d, Nb.kO_t, Nb.v_inN, Nb.v_ixN, Nb.v_setN, Nb.is_n, Nb.nio_no, Nb.nio_v, Nb.nio_n, Nb.v_putN, Nb.oe_s, Nb.oe_n, Nb.v_c, Nb.v_var, Nb.vs_v, Nb.vs_o, Nb.vs_io, Nb.w_d, Nb.w_f, Nb.w_s, Nb.ws_o, Nb.ws_io, Nb.ws_v, Nb.cl_l, Nb.cl_d, Nb.a_d, Nb.a_f, Nb.a_s, Nb.as_o, Nb.as_v, Nb.as_nil, Nb.as_cons, Nb.v_m2, Nb.v_ap2, Nb.v_m1, Nb.v_ap1, Nb.v_set, Nb.sd_no, Nb.sd_v, Nb.sd_o, Nb.sf_no, Nb.sf_v, Nb.sf_o, Nb.ss_no, Nb.ss_v, Nb.ss_oo, Nb.v_nil, Nb.v_cons, Nb.v_tup, Nb.v_lst, Nb.v_rep, Nb.w_nil, Nb.w_cons, Nb.v_mA, Nb.p_nil, Nb.p_t, Nb.p_f, Nb.x_d, Nb.x_f, Nb.x_s, Nb.xs_v, Nb.xs_o, Nb.xs_io, Nb.ce_nil, Nb.ce_v, Nb.ce_i, Nb.cs_o, Nb.cs_io, Nb.sl_nil, Nb.sl_v, Nb.sl_i, Nb.fo_ok, Nb.fo_okt, Nb.fo_oko, Nb.fo_ex, Nb.v_mF, Nb.pb_nil, Nb.pb_v, Nb.pb_i, Nb.ss_o, Nb.ss_io, Nb.b_b, Nb.v_toB, Nb.v_mTst, Nb.v_and, Nb.v_or, Nb.v_not, Nb.v_if, Nb.v_andV, Nb.v_orV, Nb.v_notV, Nb.v_m3, Nb.v_inR, Nb.v_part0, Nb.i_i, Nb.v_part1, Nb.v_sl, Nb.v_dc0, Nb.v_dc1, Nb.v_seq, Nb.n_rt, Nb.n_rtt, Nb.n_rto, Nb.n_bk, Nb.n_ct, Nb.n_ex, Nb.n_bad, Nb.v_nop, Nb.v_brk, Nb.v_cnt, Nb.v_expr, Nb.v_ifS, Nb.v_ret, Nb.v_retN, Nb.r_d, Nb.r_f, Nb.r_s, Nb.rs_o, Nb.rs_v, Nb.v_asg, Nb.t_nm, Nb.t_nil, Nb.t_cons, Nb.t_tp, Nb.ps_2, Nb.v_par, Nb.v_for, Nb.v_items, Nb.it_l, Nb.it_t, Nb.v_src, Nb.rg1, Nb.rg2, Nb.v_enum, Nb.eo_1, Nb.v_zip, Nb.v_zipD, Nb.zo_l, Nb.zo_t, Nb.v_mut, Nb.il_o, Nb.il_io, Nb.v_apMut, Nb.mu_o, Nb.mu_io, Nb.v_gPut, Nb.pu_o, Nb.pu_io, Nb.v_augS, Nb.id_i, Nb.cl_o, Nb.cl_io, Nb.v_dict, Nb.ky_i, Nb.ky_s, Nb.v_keys, Nb.ko_f, Nb.v_gPutA, Nb.pd_o, Nb.ic_o, Nb.ic_io, Nb.v_mLc, Nb.wi_nil, Nb.wi_cons, Nb.wp_no, Nb.wp_v, Nb.re_nil, Nb.re_cons, Nb.rt_nn, Nb.rt_vn, Nb.rt_nv, Nb.rt_vv, Nb.f1, Nb.f2, Nb.f3, Nb.f4, Nb.f5, Nb.fs_nx, Nb.fs_rt, Nb.fs_rtt, Nb.fs_rto, Nb.ou_0, Nb.ou_s, Nb.io_no, Nb.io_v, Nb.io_o, Nb.io_io, Nb.g0, Nb.g1, Nb.s0, Nb.s1, Nb.ln_le, Nb.ln_lt, Nb.o_add, Nb.o_sub, Nb.o_mulr, Nb.o_mull, Nb.o_fdiv, Nb.o_mod, Nb.o_neg, Nb.o_cmp, Nb.o_max2, Nb.o_min2, Nb.o_int_b, Nb.o_lenL, Nb.o_lenT, Nb.o_pow, Nb.o_slL, Nb.o_slT, Nb.o_repT, Nb.v_apR, Nb.o_inD, Nb.o_inL, Nb.o_inT, Nb.o_list_l, Nb.o_list_t, Nb.o_tup_l, Nb.o_tup_t, Nb.o_addL, Nb.o_addT, Nb.o_eq, Nb.o_ne, Nb.o_extL, Nb.o_extT, Nb.o_app, Nb.at0, Nb.ix_in, Nb.at1, Nb.at2, Nb.pick_in, Nb.o_ixL, Nb.o_ixT, Nb.o_ixLn, Nb.o_ixTn, Nb.pk0, Nb.pk1, Nb.pk2, Nb.o_eqi, Nb.o_eqb, Nb.o_nei, Nb.o_divmod, Nb.o_all, Nb.o_sum, Nb.v_exc, Nb.ex_x, Nb.fl_house, Nb.fl_nobody, Nb.fl_text, Nb.fl_open, Nb.fl_many, Nb.fl_most, Nb.v_throw, Nb.v_throwF1, Nb.v_throwF2, Nb.sm_log, Nb.v_try, Nb.tr_nx, Nb.tr_rt, Nb.tr_rtt, Nb.tr_rto, Nb.tr_c0, Nb.tr_c1, Nb.tr_c2, Nb.tr_c3, Nb.tr_c4, Nb.tr_c5, Nb.tr_c6, Nb.tr_c7, Nb.tr_c8, Nb.tr_c9, Nb.tr_c10, Nb.tr_c11, Nb.v_putX, Nb.px_no, Nb.px_v, Nb.ox_nx, Nb.ox_rt, Nb.ox_rto, Nb.v_endX, Nb.en_x, Nb.cl_nil, Nb.cl_cons, Nb.cl_no, Nb.cl_v, Nb.cl_oo, Nb.cl_ioo, Nb.cl_x, Nb.io_x, Nb.vs_x, Nb.xs_x, Nb.fs_ex, Nb.lo_ex, Nb.ce_x, Nb.sl_x, Nb.pb_x, Nb.v_m2T, Nb.kd_l, Nb.kd_t, Nb.me_1, Nb.me_2, Nb.me_3, Nb.o_revL, Nb.o_revT, Nb.o_lr1, Nb.o_tr1, Nb.o_eqs, Nb.o_nes, R.elim_ok, R.elim_ex, R.elim_bad, Out.next_nx, Option.bind_some, Option.map_some, Option.bind_none, Option.map_none, List.cons_append, List.nil_append, List.replicate_succ, List.replicate_zero, Nat.reduceSub, Nat.reduceAdd, if_true, if_false, Bool.not_true, Bool.not_false, Bool.false_eq_true, List.length_cons, List.length_nil, List.append_nil, Int.reduceToNat, List.set_cons_zero, List.set_cons_succ, decide_true, decide_false, Int.reduceEq, Int.reduceLT, Int.reduceLE, List.nodup_nil, Nb.rb_n2, Nb.rb_p2, Nb.rb_n1, Nb.rb_p1, and_self, and_true, true_and, and_false, false_and, not_true_eq_false, not_false_eq_true, Nb.nd1, Nb.nd2, Nb.nd3, Nb.k_int, Nb.k_bool, Nb.k_tuple, Nb.k_list, Nb.k_str, Nb.cast_lit, Nb.o_inI, Nb.o_inIT, Nb.o_sortU, Nb.o_sorted, Nb.o_sortT, Nb.o_neL0, Nb.o_neb, Nb.o_eqT0, Nb.o_pop, Nb.hasK_T, Nb.o_sumT, Nb.o_sumL, Nb.pick_ints, Nb.pick_rows, Nb.o_eqT, Nb.o_neT, Nb.o_eqL, Nb.o_neL, Nb.o_eqR, Nb.o_neR, Nb.all_map', Int.reduceNeg, Nb.o_cntT, Nb.o_cntL, Nb.ints_rev, Bool.false_bne, Bool.true_bne, Bool.and_self, Bool.or_self, Bool.true_and, Bool.and_true, Bool.false_and, Bool.and_false, Bool.true_or, Bool.or_true, Bool.false_or, Bool.or_false]
theorem law_true : ∀ ns : List Int, ns.length ≤ 63 → ∃ os, d20 [.v (.list (ns.map PyData.int))] = .ok (.bool true) os := by
  intro ns hn
  obtain ⟨n0, e0⟩ := cell_ok (ns := ns) (k := 0) (by omega)
  have b1 := right_ok (hs := [[0]]) (as := [0]) (k := 0) ⟨by decide, by decide, by simp⟩ (fun k hk x hx => by
    have : k = 0 := by simp at hk; omega
    subst this
    simp at hx
    omega) ⟨rfl, by decide⟩ (by omega) (by simp)
  have b2 := right_ok (hs := [[0, 1], [1]]) (as := [0, 0]) (k := 0) ⟨by decide, by decide, by simp⟩ (fun k hk x hx => by
    have : k = 0 ∨ k = 1 := by simp at hk; omega
    rcases this with rfl | rfl <;> simp at hx <;> omega) ⟨rfl, by decide⟩ (by omega) (by simp)
  simp only [housD, tupI, List.map_cons, List.map_nil] at b1 b2
  obtain ⟨e', hf, t1, t2, t3, t4, t5, _, _, _, _, _, rfl⟩ := for_all (g := gNm 1) (body := d20b1) (items := PyData.int n0 :: cutD (ns.map PyData.int) (some 1) (some 3)) (I := fun _ env => ∃ t1 t2 t3 t4 t5, Fr t1 ∧ Fo' t2 ∧ Fr t3 ∧ Fr t4 ∧ Fr t5 ∧ env = E25 (.list (ns.map PyData.int)) t1 t2 t3 t4 t5) (fun k d env hk ⟨t1, t2, t3, t4, t5, f1, f2, f3, f4, f5, he⟩ => by
    subst he
    obtain ⟨n, rfl⟩ := cells_int d (List.mem_of_getElem? hk)
    obtain ⟨u1, u2, u3, u4, u5, a1, a2, a3, a4, a5, ae⟩ := cell_step (L := .list (ns.map PyData.int)) (n := n) f1 f2 f3 f4 f5
    exact ⟨_, .inl ae, _, _, _, _, _, a1, a2, a3, a4, a5, rfl⟩) (env := E25 (.list (ns.map PyData.int)) .no .no .no .no .no) ⟨_, _, _, _, _, .no, .no, .no, .no, .no, rfl⟩
  have hc := cutD_len (ns.map PyData.int) (some 1) (some 3)
  rw [List.length_map] at hc
  unfold E25 at hf
  unfold d20
  simp -implicitDefEqProofs (maxSteps := 4000000) (disch := first | with_unfolding_all rfl | omega | (simp only [List.length_append, List.length_cons, List.length_nil, List.length_map, List.length_replicate, List.length_take, List.length_drop]; omega)) only [b1, b2, e0, hf, Nb.v_zipM, Nb.zm_ll, Nb.zm_lt, Nb.zm_tl, Nb.zm_tt, Nb.fp_ok, Nb.fp_okt, Nb.fp_ex, Nb.v_mFP, Nb.v_tupP, Nb.tp_f, Nb.tp_s, Nb.tp_d, Nb.v_pairD, Nb.oa_o, Nb.oa_v, Nb.v_retP, Nb.rp_d, Nb.rp_t, Nb.v_unpP, Nb.up_d, Nb.up_t, Nb.v_putO, Nb.po_n, Nb.po_v, Nb.po_o, Nb.v_parO, Nb.pr_ff, Nb.v_mLcO, Nb.la_o, Nb.la_v, Nb.nn_n, Nb.v_ix1P, Nb.i1_t, Nb.i1_d, Nb.kO_t, Nb.v_inN, Nb.v_ixN, Nb.v_setN, Nb.is_n, Nb.nio_no, Nb.nio_v, Nb.nio_n, Nb.v_putN, Nb.oe_s, Nb.oe_n, Nb.v_c, Nb.v_var, Nb.vs_v, Nb.vs_o, Nb.vs_io, Nb.w_d, Nb.w_f, Nb.w_s, Nb.ws_o, Nb.ws_io, Nb.ws_v, Nb.cl_l, Nb.cl_d, Nb.a_d, Nb.a_f, Nb.a_s, Nb.as_o, Nb.as_v, Nb.as_nil, Nb.as_cons, Nb.v_m2, Nb.v_ap2, Nb.v_m1, Nb.v_ap1, Nb.v_set, Nb.sd_no, Nb.sd_v, Nb.sd_o, Nb.sf_no, Nb.sf_v, Nb.sf_o, Nb.ss_no, Nb.ss_v, Nb.ss_oo, Nb.v_nil, Nb.v_cons, Nb.v_tup, Nb.v_lst, Nb.v_rep, Nb.w_nil, Nb.w_cons, Nb.v_mA, Nb.p_nil, Nb.p_t, Nb.p_f, Nb.x_d, Nb.x_f, Nb.x_s, Nb.xs_v, Nb.xs_o, Nb.xs_io, Nb.ce_nil, Nb.ce_v, Nb.ce_i, Nb.cs_o, Nb.cs_io, Nb.sl_nil, Nb.sl_v, Nb.sl_i, Nb.fo_ok, Nb.fo_okt, Nb.fo_oko, Nb.fo_ex, Nb.v_mF, Nb.pb_nil, Nb.pb_v, Nb.pb_i, Nb.ss_o, Nb.ss_io, Nb.b_b, Nb.v_toB, Nb.v_mTst, Nb.v_and, Nb.v_or, Nb.v_not, Nb.v_if, Nb.v_andV, Nb.v_orV, Nb.v_notV, Nb.v_m3, Nb.v_inR, Nb.v_part0, Nb.i_i, Nb.v_part1, Nb.v_sl, Nb.v_dc0, Nb.v_dc1, Nb.v_seq, Nb.n_rt, Nb.n_rtt, Nb.n_rto, Nb.n_bk, Nb.n_ct, Nb.n_ex, Nb.n_bad, Nb.v_nop, Nb.v_brk, Nb.v_cnt, Nb.v_expr, Nb.v_ifS, Nb.v_ret, Nb.v_retN, Nb.r_d, Nb.r_f, Nb.r_s, Nb.rs_o, Nb.rs_v, Nb.v_asg, Nb.t_nm, Nb.t_nil, Nb.t_cons, Nb.t_tp, Nb.ps_2, Nb.v_par, Nb.v_for, Nb.v_items, Nb.it_l, Nb.it_t, Nb.v_src, Nb.rg1, Nb.rg2, Nb.v_enum, Nb.eo_1, Nb.v_zip, Nb.v_zipD, Nb.zo_l, Nb.zo_t, Nb.v_mut, Nb.il_o, Nb.il_io, Nb.v_apMut, Nb.mu_o, Nb.mu_io, Nb.v_gPut, Nb.pu_o, Nb.pu_io, Nb.v_augS, Nb.id_i, Nb.cl_o, Nb.cl_io, Nb.v_dict, Nb.ky_i, Nb.ky_s, Nb.v_keys, Nb.ko_f, Nb.v_gPutA, Nb.pd_o, Nb.ic_o, Nb.ic_io, Nb.v_mLc, Nb.wi_nil, Nb.wi_cons, Nb.wp_no, Nb.wp_v, Nb.re_nil, Nb.re_cons, Nb.rt_nn, Nb.rt_vn, Nb.rt_nv, Nb.rt_vv, Nb.f1, Nb.f2, Nb.f3, Nb.f4, Nb.f5, Nb.fs_nx, Nb.fs_rt, Nb.fs_rtt, Nb.fs_rto, Nb.ou_0, Nb.ou_s, Nb.io_no, Nb.io_v, Nb.io_o, Nb.io_io, Nb.g0, Nb.g1, Nb.s0, Nb.s1, Nb.ln_le, Nb.ln_lt, Nb.o_add, Nb.o_sub, Nb.o_mulr, Nb.o_mull, Nb.o_fdiv, Nb.o_mod, Nb.o_neg, Nb.o_cmp, Nb.o_max2, Nb.o_min2, Nb.o_int_b, Nb.o_lenL, Nb.o_lenT, Nb.o_pow, Nb.o_slL, Nb.o_slT, Nb.o_repT, Nb.v_apR, Nb.o_inD, Nb.o_inL, Nb.o_inT, Nb.o_list_l, Nb.o_list_t, Nb.o_tup_l, Nb.o_tup_t, Nb.o_addL, Nb.o_addT, Nb.o_eq, Nb.o_ne, Nb.o_extL, Nb.o_extT, Nb.o_app, Nb.at0, Nb.ix_in, Nb.at1, Nb.at2, Nb.pick_in, Nb.o_ixL, Nb.o_ixT, Nb.o_ixLn, Nb.o_ixTn, Nb.pk0, Nb.pk1, Nb.pk2, Nb.o_eqi, Nb.o_eqb, Nb.o_nei, Nb.o_divmod, Nb.o_all, Nb.o_sum, Nb.v_exc, Nb.ex_x, Nb.fl_house, Nb.fl_nobody, Nb.fl_text, Nb.fl_open, Nb.fl_many, Nb.fl_most, Nb.v_throw, Nb.v_throwF1, Nb.v_throwF2, Nb.sm_log, Nb.v_try, Nb.tr_nx, Nb.tr_rt, Nb.tr_rtt, Nb.tr_rto, Nb.tr_c0, Nb.tr_c1, Nb.tr_c2, Nb.tr_c3, Nb.tr_c4, Nb.tr_c5, Nb.tr_c6, Nb.tr_c7, Nb.tr_c8, Nb.tr_c9, Nb.tr_c10, Nb.tr_c11, Nb.v_putX, Nb.px_no, Nb.px_v, Nb.ox_nx, Nb.ox_rt, Nb.ox_rto, Nb.v_endX, Nb.en_x, Nb.cl_nil, Nb.cl_cons, Nb.cl_no, Nb.cl_v, Nb.cl_oo, Nb.cl_ioo, Nb.cl_x, Nb.io_x, Nb.vs_x, Nb.xs_x, Nb.fs_ex, Nb.lo_ex, Nb.ce_x, Nb.sl_x, Nb.pb_x, Nb.v_m2T, Nb.kd_l, Nb.kd_t, Nb.me_1, Nb.me_2, Nb.me_3, Nb.o_revL, Nb.o_revT, Nb.o_lr1, Nb.o_tr1, Nb.o_eqs, Nb.o_nes, R.elim_ok, R.elim_ex, R.elim_bad, Out.next_nx, Option.bind_some, Option.map_some, Option.bind_none, Option.map_none, List.cons_append, List.nil_append, List.replicate_succ, List.replicate_zero, Nat.reduceSub, Nat.reduceAdd, if_true, if_false, Bool.not_true, Bool.not_false, Bool.false_eq_true, List.length_cons, List.length_nil, List.append_nil, Int.reduceToNat, List.set_cons_zero, List.set_cons_succ, decide_true, decide_false, Int.reduceEq, Int.reduceLT, Int.reduceLE, List.nodup_nil, Nb.rb_n2, Nb.rb_p2, Nb.rb_n1, Nb.rb_p1, and_self, and_true, true_and, and_false, false_and, not_true_eq_false, not_false_eq_true, Nb.nd1, Nb.nd2, Nb.nd3, Nb.k_int, Nb.k_bool, Nb.k_tuple, Nb.k_list, Nb.k_str, Nb.cast_lit, Nb.o_inI, Nb.o_inIT, Nb.o_sortU, Nb.o_sorted, Nb.o_sortT, Nb.o_neL0, Nb.o_neb, Nb.o_eqT0, Nb.o_pop, Nb.hasK_T, Nb.o_sumT, Nb.o_sumL, Nb.pick_ints, Nb.pick_rows, Nb.o_eqT, Nb.o_neT, Nb.o_eqL, Nb.o_neL, Nb.o_eqR, Nb.o_neR, Nb.all_map', Int.reduceNeg, Nb.o_cntT, Nb.o_cntL, Nb.ints_rev, Bool.false_bne, Bool.true_bne, Bool.and_self, Bool.or_self, Bool.true_and, Bool.and_true, Bool.false_and, Bool.and_false, Bool.true_or, Bool.or_true, Bool.false_or, Bool.or_false]
  exact ⟨_, rfl⟩
end Nb
open PySem.W PySem PyProof.Rows
theorem PySem.Challenge.cw_turnarrows_k25_rounds_walked_holds : PySem.Challenge.rw_turnarrows_k25_rounds_walked.Holds := by
  w_on; o_law; k_head; (case hw => w_witness2)
  k_fill
  refine Nb.nb_end (l := PySem.Challenge.rw_turnarrows_k25_rounds_walked) (k := 9) (den := Nb.d20) (x := "script") rfl (by decide) rfl ⟨rfl, by decide, by decide⟩ (fun w h Y => PySem.W.kIn_of Y) ?F Nb.law_true
  case F =>
    intro w mg fa h KX G hmg
    refine' Nb.all_mk KX G hmg ?a0 ?l0 ?c0 ?k0 ?a1 ?l1 ?c1 ?k1 ?a2 ?l2 ?c2 ?k2 ?a3 ?l3 ?c3 ?k3 ?a4 ?l4 ?c4 ?k4 ?a5 ?l5 ?c5 ?k5 ?a6 ?l6 ?c6 ?k6 ?a7 ?l7 ?c7 ?k7 ?a8 ?l8 ?c8 ?k8 ?a9 ?l9 ?c9 ?k9 ?a10 ?l10 ?c10 ?k10 ?a11 ?l11 ?c11 ?k11 ?a12 ?l12 ?c12 ?k12 ?a13 ?l13 ?c13 ?k13 ?a14 ?l14 ?c14 ?k14 ?a15 ?l15 ?c15 ?k15 ?a16 ?l16 ?c16 ?k16 ?a17 ?l17 ?c17 ?k17 ?a18 ?l18 ?c18 ?k18 ?a19 ?l19 ?c19 ?k19 ?a20 ?l20 ?c20 ?k20 ?z_isinstance ?z_int ?z_bool ?z_len ?z_all ?z_min ?z_tuple ?z_zip ?z_max ?z_divmod ?z_range ?z_list
    (case a0 => k_is); (case l0 => k_is); (case c0 => k_is); (case k0 => k_is); (case a1 => k_is); (case l1 => k_is); (case c1 => k_is); (case k1 => k_is); (case a2 => k_is); (case l2 => k_is); (case c2 => k_is); (case k2 => k_is); (case a3 => k_is); (case l3 => k_is); (case c3 => k_is); (case k3 => k_is); (case a4 => k_is); (case l4 => k_is); (case c4 => k_is); (case k4 => k_is); (case a5 => k_is); (case l5 => k_is); (case c5 => k_is); (case k5 => k_is); (case a6 => k_is); (case l6 => k_is); (case c6 => k_is); (case k6 => k_is); (case a7 => k_is); (case l7 => k_is); (case c7 => k_is); (case k7 => k_is); (case a8 => k_is); (case l8 => k_is); (case c8 => k_is); (case k8 => k_is); (case a9 => k_is); (case l9 => k_is); (case c9 => k_is); (case k9 => k_is); (case a10 => k_is); (case l10 => k_is); (case c10 => k_is); (case k10 => k_is); (case a11 => k_is); (case l11 => k_is); (case c11 => k_is); (case k11 => k_is); (case a12 => k_is); (case l12 => k_is); (case c12 => k_is); (case k12 => k_is); (case a13 => k_is); (case l13 => k_is); (case c13 => k_is); (case k13 => k_is); (case a14 => k_is); (case l14 => k_is); (case c14 => k_is); (case k14 => k_is); (case a15 => k_is); (case l15 => k_is); (case c15 => k_is); (case k15 => k_is); (case a16 => k_is); (case l16 => k_is); (case c16 => k_is); (case k16 => k_is); (case a17 => k_is); (case l17 => k_is); (case c17 => k_is); (case k17 => k_is); (case a18 => k_is); (case l18 => k_is); (case c18 => k_is); (case k18 => k_is); (case a19 => k_is); (case l19 => k_is); (case c19 => k_is); (case k19 => k_is); (case a20 => k_is); (case l20 => k_is); (case c20 => k_is); (case k20 => k_is); (case z_isinstance => k_is); (case z_int => k_is); (case z_bool => k_is); (case z_len => k_is); (case z_all => k_is); (case z_min => k_is); (case z_tuple => k_is); (case z_zip => k_is); (case z_max => k_is); (case z_divmod => k_is); (case z_range => k_is); (case z_list => k_is)
