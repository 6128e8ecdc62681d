import PyProof.Rows.All
import Wide.All
import OpenK.AllK
import Wide.FinOn
import KE.KStateDown
import HandS.ForMost
import HandS.Exc
import HandS.TryOnly
import HandS.ExcOwn
import HandS.HeadHook1
import KE.KDictKeyed
import HandS.Wide
import HandS.TupAny
import HandS.Deep
import HandS.IsInst
import HandS.Conv
import KE.KDictLaws
import PyProof.DictMoreH
import KE.KDictCopyH
import KE.KDictWalk
import HandS.Rev
import HandS.Zip
import HandS.Iter
import HandS.TryMany
import PyProof.ExcBaseAll.ValueError
import PyProof.DictDisplay
import KE.SortKeyHeap
import HandS.SortKw
import HandS.Codes
import HandS.Head0
import HandS.Head1
import HandS.Head2
import HandS.HeadEnd
import PySem.Challenge.RW_arrayloom_k43_the_order_of_a_nest
set_option Elab.async false
set_option linter.all false
set_option maxRecDepth 100000
set_option maxHeartbeats 0
namespace MM
open PySem PySem.Spec PyProof.Rows L2

/-! ### data: values are trees, mutable objects stand at 0, 1, 2 .. -/
inductive D where
  | non | bl (b : Bool) | int (i : Int) | str (s : Str) | tup (xs : List D) | frl (xs : List D) | ref (a : Nat)
namespace D
mutual
def beq : D → D → Bool
  | .non, .non => true
  | .bl a, .bl b => a == b
  | .int a, .int b => decide (a = b)
  | .str a, .str b => decide (a = b)
  | .ref a, .ref b => decide (a = b)
  | .tup a, .tup b => beqs a b
  | .frl a, .frl b => beqs a b
  | _, _ => false
def beqs : List D → List D → Bool
  | [], [] => true
  | a :: as, b :: bs => beq a b && beqs as bs
  | _, _ => false
end
mutual
theorem beq_self : ∀ a : D, beq a a = true
  | .non => rfl
  | .bl a => by simp [beq]
  | .int a => by simp [beq]
  | .str a => by simp [beq]
  | .ref a => by simp [beq]
  | .tup a => by rw [beq]; exact beqs_self a
  | .frl a => by rw [beq]; exact beqs_self a
theorem beqs_self : ∀ a : List D, beqs a a = true
  | [] => rfl
  | a :: as => by rw [beqs, beq_self a, beqs_self as]; rfl
end
mutual
theorem eq_of_beq : ∀ a b : D, beq a b = true → a = b
  | .non, .non, _ => rfl
  | .bl a, .bl b, h => by simp only [beq, beq_iff_eq] at h; rw [h]
  | .int a, .int b, h => by simp only [beq, decide_eq_true_eq] at h; rw [h]
  | .str a, .str b, h => by simp only [beq, decide_eq_true_eq] at h; rw [h]
  | .ref a, .ref b, h => by simp only [beq, decide_eq_true_eq] at h; rw [h]
  | .tup a, .tup b, h => by rw [beq] at h; rw [eq_of_beqs a b h]
  | .frl a, .frl b, h => by rw [beq] at h; rw [eq_of_beqs a b h]
  | .non, .bl _, h | .non, .int _, h | .non, .str _, h | .non, .tup _, h | .non, .frl _, h | .non, .ref _, h => by simp [beq] at h
  | .bl _, .non, h | .bl _, .int _, h | .bl _, .str _, h | .bl _, .tup _, h | .bl _, .frl _, h | .bl _, .ref _, h => by simp [beq] at h
  | .int _, .non, h | .int _, .bl _, h | .int _, .str _, h | .int _, .tup _, h | .int _, .frl _, h | .int _, .ref _, h => by simp [beq] at h
  | .str _, .non, h | .str _, .bl _, h | .str _, .int _, h | .str _, .tup _, h | .str _, .frl _, h | .str _, .ref _, h => by simp [beq] at h
  | .tup _, .non, h | .tup _, .bl _, h | .tup _, .int _, h | .tup _, .str _, h | .tup _, .frl _, h | .tup _, .ref _, h => by simp [beq] at h
  | .frl _, .non, h | .frl _, .bl _, h | .frl _, .int _, h | .frl _, .str _, h | .frl _, .tup _, h | .frl _, .ref _, h => by simp [beq] at h
  | .ref _, .non, h | .ref _, .bl _, h | .ref _, .int _, h | .ref _, .str _, h | .ref _, .tup _, h | .ref _, .frl _, h => by simp [beq] at h
theorem eq_of_beqs : ∀ a b : List D, beqs a b = true → a = b
  | [], [], _ => rfl
  | a :: as, b :: bs, h => by
    rw [beqs, Bool.and_eq_true] at h
    rw [eq_of_beq a b h.1, eq_of_beqs as bs h.2]
  | [], _ :: _, h => by simp [beqs] at h
  | _ :: _, [], h => by simp [beqs] at h
end
instance : DecidableEq D := fun a b => if h : beq a b = true then .isTrue (eq_of_beq a b h) else .isFalse fun e => h (e ▸ beq_self a)
end D
/-- an object: a list, a dict, an instance of the module's class C -/
inductive O where
  | lst (xs : List D) | dict (kvs : List (D × D)) (lk : Bool) | ins (C : Str) (fs : List (Str × D))
  deriving DecidableEq
abbrev MH := List O
/-- an end: a value; an exception of the class C with the fields fs; no promise -/
inductive Out (α : Type) where
  | ok (a : α) (μ : MH) | exc (C : Str) (fs : List (Str × D)) (μ : MH) | bad
def Out.bind {α β : Type} : Out α → (α → MH → Out β) → Out β
  | .ok a μ, f => f a μ
  | .exc C fs μ, _ => .exc C fs μ
  | .bad, _ => .bad
@[simp] theorem Out.bind_ok {α β : Type} (a : α) (μ : MH) (f : α → MH → Out β) : (Out.ok a μ).bind f = f a μ := rfl
@[simp] theorem Out.bind_exc {α β : Type} (C : Str) (fs) (μ : MH) (f : α → MH → Out β) : (Out.exc C fs μ).bind f = .exc C fs μ := rfl
@[simp] theorem Out.bind_bad {α β : Type} (f : α → MH → Out β) : Out.bad.bind f = .bad := rfl
abbrev MSt := List (Option D)
inductive Fl where
  | nx (σ : MSt) | ret (d : D) | bk (σ : MSt) | ct (σ : MSt) | ex (C : Str) (fs : List (Str × D)) (σ : MSt)
abbrev Mx := MSt → MH → Out D
abbrev Mt := MSt → MH → Out Bool
abbrev Ma := MSt → MH → Out (List D)
abbrev Ms := MSt → MH → Out Fl
abbrev Fn := List D → MH → Out D

/-! ### how the data stand in the abstract heap -/
/-- a list that nobody changes: the script, a list of the module's own -/
def FzL (K : PySem.W.Frag) (H : Hp) (a : Addr) (xs : List V) : Prop := (∃ o, H a = some (.frz o (.lst xs))) ∨
  ∃ (o : Obj) (its : Array Value) (n : Nat), K.lookup a = some o ∧ o.cls = .type "list" ∧ o.dict = none ∧ o.data = .seq its n ∧ its.size ≤ sizeLine ∧ Vals xs its.toList
theorem FzL.seq {K : PySem.W.Frag} {H : Hp} {a : Addr} {xs : List V} (h : FzL K H a xs) : SqL K H a xs := h.elim (fun ⟨o, e⟩ => .inl (.inr ⟨o, e⟩)) .inr
mutual
inductive RV (K : PySem.W.Frag) (al : List Addr) (H : Hp) : D → V → Prop where
  | non : RV K al H .non .non
  | bl (b : Bool) : RV K al H (.bl b) (.bl b)
  | int (i : Int) : RV K al H (.int i) (.int i)
  | str (s : Str) : RV K al H (.str s) (.str s)
  | ref {i : Nat} {a : Addr} : al[i]? = some a → RV K al H (.ref i) (.ref a)
  | tup {a : Addr} {xs : List D} {vs : List V} : SqT K H a vs → RVs K al H xs vs → RV K al H (.tup xs) (.ref a)
  | frl {a : Addr} {xs : List D} {vs : List V} : FzL K H a vs → RVs K al H xs vs → RV K al H (.frl xs) (.ref a)
inductive RVs (K : PySem.W.Frag) (al : List Addr) (H : Hp) : List D → List V → Prop where
  | nil : RVs K al H [] []
  | cons {d : D} {v : V} {ds : List D} {vs : List V} : RV K al H d v → RVs K al H ds vs → RVs K al H (d :: ds) (v :: vs)
end
/-- the heap has grown or changed: old tuples stay, the objects' places are kept -/
structure Ext (K : PySem.W.Frag) (al : List Addr) (H : Hp) (al' : List Addr) (H' : Hp) : Prop where
  pre : ∃ r, al' = al ++ r
  tup : ∀ b ys, SqT K H b ys → SqT K H' b ys
  frl : ∀ b ys, FzL K H b ys → FzL K H' b ys
  frz : ∀ b o u, H b = some (.frz o u) → H' b = some (.frz o u)
/-- the same, but a lock may have been let go -/
structure ExtW (K : PySem.W.Frag) (al : List Addr) (H : Hp) (al' : List Addr) (H' : Hp) : Prop where
  pre : ∃ r, al' = al ++ r
  tup : ∀ b ys, SqT K H b ys → SqT K H' b ys
  frl : ∀ b ys, FzL K H b ys → FzL K H' b ys
section
variable {K : PySem.W.Frag} {al al' al'' : List Addr} {H H' H'' : Hp}
theorem Ext.refl : Ext K al H al H := ⟨⟨[], by simp⟩, fun _ _ h => h, fun _ _ h => h, fun _ _ _ h => h⟩
theorem Ext.w (a : Ext K al H al' H') : ExtW K al H al' H' := ⟨a.pre, a.tup, a.frl⟩
theorem Ext.trans (a : Ext K al H al' H') (b : Ext K al' H' al'' H'') : Ext K al H al'' H'' := by
  obtain ⟨⟨r, rfl⟩, t, u, f⟩ := a
  obtain ⟨⟨r', rfl⟩, t', u', f'⟩ := b
  exact ⟨⟨r ++ r', by simp⟩, fun b ys h => t' b ys (t b ys h), fun b ys h => u' b ys (u b ys h), fun b o v h => f' b o v (f b o v h)⟩
theorem ExtW.get (e : ExtW K al H al' H') {i : Nat} {a : Addr} (h : al[i]? = some a) : al'[i]? = some a := by
  obtain ⟨⟨r, rfl⟩, _, _⟩ := e
  have := (List.getElem?_eq_some_iff.mp h).1
  rw [List.getElem?_append_left this]; exact h
theorem Ext.get (e : Ext K al H al' H') {i : Nat} {a : Addr} (h : al[i]? = some a) : al'[i]? = some a := e.w.get h
mutual
theorem RV.monoW (e : ExtW K al H al' H') : ∀ {d : D} {v : V}, RV K al H d v → RV K al' H' d v
  | _, _, .non => .non
  | _, _, .bl b => .bl b
  | _, _, .int i => .int i
  | _, _, .str s => .str s
  | _, _, .ref h => .ref (e.get h)
  | _, _, .tup h r => .tup (e.tup _ _ h) (RVs.monoW e r)
  | _, _, .frl h r => .frl (e.frl _ _ h) (RVs.monoW e r)
theorem RVs.monoW (e : ExtW K al H al' H') : ∀ {ds : List D} {vs : List V}, RVs K al H ds vs → RVs K al' H' ds vs
  | _, _, .nil => .nil
  | _, _, .cons a r => .cons (RV.monoW e a) (RVs.monoW e r)
end
theorem RV.mono (e : Ext K al H al' H') {d : D} {v : V} (h : RV K al H d v) : RV K al' H' d v := h.monoW e.w
theorem RVs.mono (e : Ext K al H al' H') {d : List D} {v : List V} (h : RVs K al H d v) : RVs K al' H' d v := h.monoW e.w
theorem RVs.length : ∀ {ds : List D} {vs : List V}, RVs K al H ds vs → ds.length = vs.length
  | _, _, .nil => rfl
  | _, _, .cons _ r => by simp [RVs.length r]
theorem RVs.get : ∀ {ds : List D} {vs : List V} {i : Nat} {d : D}, RVs K al H ds vs → ds[i]? = some d → ∃ v, vs[i]? = some v ∧ RV K al H d v
  | _, _, _, _, .nil, h => by simp at h
  | _, _, 0, _, .cons a _, h => by simp at h; subst h; exact ⟨_, rfl, a⟩
  | _, _, i + 1, d, .cons _ r, h => by
    obtain ⟨v, h1, h2⟩ := RVs.get (i := i) (d := d) r (by simpa using h)
    exact ⟨v, by simpa using h1, h2⟩
theorem RVs.getV : ∀ {ds : List D} {vs : List V} {i : Nat} {v : V}, RVs K al H ds vs → vs[i]? = some v → ∃ d, ds[i]? = some d ∧ RV K al H d v
  | _, _, _, _, .nil, h => by simp at h
  | _, _, 0, _, .cons a _, h => by simp at h; subst h; exact ⟨_, rfl, a⟩
  | _, _, i + 1, d, .cons _ r, h => by
    obtain ⟨v, h1, h2⟩ := RVs.getV (i := i) (v := d) r (by simpa using h)
    exact ⟨v, by simpa using h1, h2⟩
theorem RVs.append : ∀ {a b : List D} {x y : List V}, RVs K al H a x → RVs K al H b y → RVs K al H (a ++ b) (x ++ y)
  | _, _, _, _, .nil, s => s
  | _, _, _, _, .cons r t, s => .cons r (RVs.append t s)
theorem RVs.set {d : D} {v : V} (r : RV K al H d v) : ∀ {ds : List D} {vs : List V} (i : Nat), RVs K al H ds vs → RVs K al H (ds.set i d) (vs.set i v)
  | _, _, _, .nil => .nil
  | _, _, 0, .cons _ t => .cons r t
  | _, _, i + 1, .cons q t => .cons q (RVs.set r i t)
theorem RVs.take : ∀ {ds : List D} {vs : List V} (n : Nat), RVs K al H ds vs → RVs K al H (ds.take n) (vs.take n)
  | _, _, 0, _ => by simpa using RVs.nil
  | _, _, _ + 1, .nil => by simpa using RVs.nil
  | _, _, n + 1, .cons q t => by simpa using RVs.cons q (RVs.take n t)
theorem RVs.drop : ∀ {ds : List D} {vs : List V} (n : Nat), RVs K al H ds vs → RVs K al H (ds.drop n) (vs.drop n)
  | _, _, 0, r => by simpa using r
  | _, _, _ + 1, .nil => by simpa using RVs.nil
  | _, _, n + 1, .cons q t => by simpa using RVs.drop n t
theorem RVs.reverse : ∀ {ds : List D} {vs : List V}, RVs K al H ds vs → RVs K al H ds.reverse vs.reverse
  | _, _, .nil => .nil
  | _, _, .cons q t => by simpa using (RVs.reverse t).append (.cons q .nil)
theorem RVs.ints : ∀ ns : List Int, RVs K al H (ns.map D.int) (ns.map V.int)
  | [] => .nil
  | n :: ns => .cons (.int n) (RVs.ints ns)
end
/-- what is written at a changes no tuple and no list that nobody changes -/
theorem Ext.ofUpd {K : PySem.W.Frag} {al : List Addr} {H : Hp} {a : Addr} (h : H a = none ∨ ∃ o, H a = some o ∧ Mut (some o)) (r : List Addr) (o' : HO) : Ext K al H (al ++ r) (upd H a o') := by
  have ne : ∀ b u, H b = some u → ¬ Mut (some u) → b ≠ a := fun b u e n q => by
    subst q
    rcases h with h | ⟨o, h, m⟩
    · rw [h] at e; cases e
    · rw [h] at e; cases e; exact n m
  refine ⟨⟨r, rfl⟩, fun b ys t => ?_, fun b ys t => ?_, fun b o u t => by rw [upd_ne (ne _ _ t fun z => z)]; exact t⟩
  · rcases t with t | t
    · refine .inl ?_
      rcases t with t | ⟨ob, t⟩
      · exact .inl (by rw [upd_ne (ne _ _ t fun z => z)]; exact t)
      · exact .inr ⟨ob, by rw [upd_ne (ne _ _ t fun z => z)]; exact t⟩
    · exact .inr t
  · rcases t with ⟨ob, t⟩ | t
    · exact .inl ⟨ob, by rw [upd_ne (ne _ _ t fun z => z)]; exact t⟩
    · exact .inr t
/-! ### dicts: the raw entries -/
def DRaw (a : Addr) (es : List DictEntry) (h : Heap) : Prop := ∃ o ep, h.get? a = some o ∧ o.ExactDict ∧ o.data = .dict es.toArray ep
end MM
namespace MM
open PySem PySem.Spec PyProof.Rows L2

/-! ### keys -/
def fk : D → Option Key
  | .int i => some (.inl i)
  | .str x => some (.inr x)
  | _ => none
mutual
def nk : D → Option NestedKey
  | .non => some .none
  | .int i => some (.num i)
  | .str x => some (.text x)
  | .tup ds => (nks ds).map .tup
  | .bl _ => none
  | .frl _ => none
  | .ref _ => none
def nks : List D → Option (List NestedKey)
  | [] => some []
  | d :: ds => match nk d, nks ds with
    | some k, some ks => some (k :: ks)
    | _, _ => none
end
/-- a tuple that may be a key -/
def tk (d : D) : Option NestedKey := match d with
  | .tup ds => match nk (.tup ds) with
    | some k => if k.depth ≤ 8 then some k else none
    | none => none
  | _ => none
/-- a key, as it stands in a dict's entry -/
def KeyR (w : World) (K : PySem.W.Frag) (al : List Addr) (H : Hp) (k : D) (e : DictEntry) : Prop :=
  (∃ f, fk k = some f ∧ keyIs f e.key = true ∧ e.hash = keyH w f) ∨ (∃ n b, tk k = some n ∧ e.key = .ref b ∧ RV K al H k (.ref b) ∧ e.hash = n.hash w)
def EntR (w : World) (K : PySem.W.Frag) (al : List Addr) (H : Hp) (p : D × D) (e : DictEntry) : Prop := KeyR w K al H p.1 e ∧ ∃ v, RelV v e.val ∧ RV K al H p.2 v
/-- all keys are of one sort -/
def Hom (kvs : List (D × D)) : Prop := (∀ p ∈ kvs, (fk p.1).isSome = true) ∨ (∀ p ∈ kvs, (tk p.1).isSome = true)

/-- fields -/
abbrev FsR (K : PySem.W.Frag) (al : List Addr) (H : Hp) : List (Str × D) → List (Str × V) → Prop := Paired fun p q => p.1 = q.1 ∧ RV K al H p.2 q.2
/-- where a dict stands: a locked one is frozen -/
def DAt (H : Hp) (a : Addr) : Bool → List DictEntry → Prop
  | false, es => H a = some (.ext (DRaw a es))
  | true, es => ∃ od, H a = some (.frz od (.ext (DRaw a es)))
def O.free : O → Bool
  | .lst _ => true
  | .dict _ l => !l
  | .ins _ _ => true
def ObjR (w : World) (K : PySem.W.Frag) (al : List Addr) (H : Hp) (a : Addr) : O → Prop
  | .lst xs => ∃ vs, H a = some (.lst vs) ∧ RVs K al H xs vs
  | .dict kvs l => (a == sysModules) = false ∧ kvs.length ≤ sizeLine ∧ (kvs.map (·.1)).Nodup ∧ Hom kvs ∧ ∃ es, DAt H a l es ∧ Paired (EntR w K al H) kvs es
  | .ins C fs => ∃ dx vs, H a = some (.ins (He.ga K C) dx vs) ∧ FsR K al H fs vs
structure Rep (w : World) (K : PySem.W.Frag) (al : List Addr) (H : Hp) (μ : MH) : Prop where
  nd : al.Nodup
  len : al.length = μ.length
  obj : ∀ (i : Nat) (a : Addr) (o : O), al[i]? = some a → μ[i]? = some o → ObjR w K al H a o

section
variable {w : World} {K : PySem.W.Frag} {al al' : List Addr} {H H' : Hp} {a : Addr} {μ : MH}
theorem KeyR.mono (e : Ext K al H al' H') {k : D} {x : DictEntry} (h : KeyR w K al H k x) : KeyR w K al' H' k x := by
  rcases h with h | ⟨n, b, h1, h2, h3, h4⟩
  · exact .inl h
  · exact .inr ⟨n, b, h1, h2, h3.mono e, h4⟩
theorem EntR.mono (e : Ext K al H al' H') {p : D × D} {x : DictEntry} (h : EntR w K al H p x) : EntR w K al' H' p x :=
  let ⟨h1, v, h2, h3⟩ := h; ⟨h1.mono e, v, h2, h3.mono e⟩
theorem ObjR.mono (e : Ext K al H al' H') (ha : H' a = H a) {o : O} (h : ObjR w K al H a o) : ObjR w K al' H' a o := by
  cases o with
  | lst xs => obtain ⟨vs, h1, h2⟩ := h; exact ⟨vs, by rw [ha]; exact h1, h2.mono e⟩
  | dict kvs l =>
    obtain ⟨h1, h2, h3, h4, es, h5, h6⟩ := h
    exact ⟨h1, h2, h3, h4, es, by cases l <;> (unfold DAt at h5 ⊢; rw [ha]; exact h5), L2.Paired.mapP h6 fun _ _ q => q.mono e⟩
  | ins C fs => obtain ⟨dx, vs, h1, h2⟩ := h; exact ⟨dx, vs, by rw [ha]; exact h1, L2.Paired.mapP h2 fun _ _ q => ⟨q.1, q.2.mono e⟩⟩
theorem ObjR.there {o : O} (h : ObjR w K al H a o) : ∃ u, H a = some u ∧ (o.free = true → Mut (some u)) := by
  cases o with
  | lst xs => obtain ⟨vs, h1, h2⟩ := h; exact ⟨_, h1, fun _ => True.intro⟩
  | dict kvs l =>
    obtain ⟨h1, h2, h3, h4, es, h5, h6⟩ := h
    cases l with
    | false => exact ⟨_, h5, fun _ => True.intro⟩
    | true => obtain ⟨od, h5⟩ := h5; exact ⟨_, h5, fun z => nomatch z⟩
  | ins C fs => obtain ⟨dx, vs, h1, h2⟩ := h; exact ⟨_, h1, fun _ => True.intro⟩
theorem Rep.at (r : Rep w K al H μ) {i : Nat} {o : O} (h : μ[i]? = some o) : ∃ a, al[i]? = some a ∧ ObjR w K al H a o := by
  have hi : i < al.length := by rw [r.len]; exact (List.getElem?_eq_some_iff.mp h).1
  exact ⟨al[i], by simp [hi], r.obj i _ o (by simp [hi]) h⟩
theorem Rep.of (r : Rep w K al H μ) {i : Nat} {a : Addr} {o : O} (ha : al[i]? = some a) (h : μ[i]? = some o) : ObjR w K al H a o := r.obj i a o ha h
theorem Rep.mem (r : Rep w K al H μ) {i : Nat} {a : Addr} (ha : al[i]? = some a) : ∃ u, H a = some u ∧ True := by
  have hi : i < μ.length := by rw [← r.len]; exact (List.getElem?_eq_some_iff.mp ha).1
  obtain ⟨u, h, _⟩ := (r.obj i a μ[i] ha (by simp [hi])).there
  exact ⟨u, h, True.intro⟩
theorem Rep.mut (r : Rep w K al H μ) {i : Nat} {a : Addr} (ha : al[i]? = some a) {o : O} (ho : μ[i]? = some o) (hf : o.free = true) : ∃ u, H a = some u ∧ Mut (some u) := by
  obtain ⟨u, h, m⟩ := (r.obj i a o ha ho).there
  exact ⟨u, h, m hf⟩
/-- a new object is laid -/
theorem Rep.new (r : Rep w K al H μ) {p : Addr} (hp : H p = none) {o : O} {ho : HO} (hn : ObjR w K (al ++ [p]) (upd H p ho) p o) : Rep w K (al ++ [p]) (upd H p ho) (μ ++ [o]) := by
  have ex : Ext K al H (al ++ [p]) (upd H p ho) := Ext.ofUpd (.inl hp) [p] ho
  have np : ∀ {i : Nat} {a : Addr}, al[i]? = some a → a ≠ p := fun {i a} h e => by
    obtain ⟨u, hu, _⟩ := r.mem h
    rw [e, hp] at hu; cases hu
  refine ⟨?_, by simp [r.len], fun i a o' ha ho' => ?_⟩
  · rw [List.nodup_append]
    refine ⟨r.nd, by simp, fun x hx y hy => ?_⟩
    obtain ⟨i, hi⟩ := List.getElem?_of_mem hx
    have : y = p := by simpa using hy
    subst this
    exact np hi
  · by_cases hi : i < al.length
    · rw [List.getElem?_append_left hi] at ha
      rw [List.getElem?_append_left (by rw [← r.len]; exact hi)] at ho'
      exact (r.obj i a o' ha ho').mono ex (upd_ne (np ha))
    · have h1 := (List.getElem?_eq_some_iff.mp ha).1
      have e : i = al.length := by simp at h1; omega
      subst e
      rw [List.getElem?_append_right (Nat.le_refl _)] at ha
      rw [r.len, List.getElem?_append_right (Nat.le_refl _)] at ho'
      simp at ha ho'
      subst ha ho'
      exact hn
/-- an object is changed -/
theorem Rep.write (r : Rep w K al H μ) {i : Nat} (ha : al[i]? = some a) {o0 : O} (hx : μ[i]? = some o0) (hf : o0.free = true) {o : O} {ho : HO} (hn : ObjR w K al (upd H a ho) a o) : Rep w K al (upd H a ho) (μ.set i o) := by
  have ex : Ext K al H al (upd H a ho) := by
    have := Ext.ofUpd (K := K) (al := al) (a := a) (.inr (r.mut ha hx hf)) [] ho
    simpa using this
  refine ⟨r.nd, by simp [r.len], fun j b o' hb ho' => ?_⟩
  by_cases hj : j = i
  · subst hj
    rw [ha] at hb; cases hb
    have hl : j < μ.length := by rw [← r.len]; exact (List.getElem?_eq_some_iff.mp ha).1
    rw [List.getElem?_set_self hl] at ho'
    cases ho'
    exact hn
  · rw [List.getElem?_set_ne (Ne.symm hj)] at ho'
    have ne : b ≠ a := fun e => by
      subst e
      obtain ⟨h1, e1⟩ := List.getElem?_eq_some_iff.mp ha
      obtain ⟨h2, e2⟩ := List.getElem?_eq_some_iff.mp hb
      exact hj ((List.getElem_inj r.nd).mp (e2.trans e1.symm))
    exact (r.obj j b o' hb ho').mono ex (upd_ne ne)
theorem Ext.write (r : Rep w K al H μ) {i : Nat} (ha : al[i]? = some a) {o0 : O} (hx : μ[i]? = some o0) (hf : o0.free = true) (ho : HO) : Ext K al H al (upd H a ho) := by
  have := Ext.ofUpd (K := K) (al := al) (a := a) (.inr (r.mut ha hx hf)) [] ho
  simpa using this
theorem Ext.new {p : Addr} (hp : H p = none) (ho : HO) : Ext K al H (al ++ [p]) (upd H p ho) := Ext.ofUpd (.inl hp) [p] ho
theorem Ext.tup1 {p : Addr} (hp : H p = none) (ho : HO) : Ext K al H al (upd H p ho) := by
  have := Ext.ofUpd (K := K) (al := al) (H := H) (a := p) (.inl hp) [] ho
  simpa using this
theorem RV.newTup {p : Addr} {xs : List D} {vs : List V} (hp : H p = none) (r : RVs K al H xs vs) : RV K al (upd H p (.tup vs)) (.tup xs) (.ref p) :=
  .tup (SqT.of upd_same) (r.mono (Ext.tup1 hp _))
theorem Rep.tup1 (r : Rep w K al H μ) {p : Addr} (hp : H p = none) (vs : List V) : Rep w K al (upd H p (.tup vs)) μ :=
  ⟨r.nd, r.len, fun i a o ha ho => (r.obj i a o ha ho).mono (Ext.tup1 hp _) (upd_ne fun e => by
    obtain ⟨u, hu, _⟩ := r.mem ha
    rw [e, hp] at hu; cases hu)⟩
end

/-! ### slots -/
def OV (K : PySem.W.Frag) (al : List Addr) (H : Hp) : Option D → Option V → Prop
  | none, _ => True
  | some d, some v => RV K al H d v
  | some _, none => False
abbrev SR (K : PySem.W.Frag) (al : List Addr) (H : Hp) : MSt → L2.St → Prop := Paired (OV K al H)
section
variable {w : World} {K : PySem.W.Frag} {al al' : List Addr} {H H' : Hp} {a : Addr} {μ : MH} {σ : L2.St} {τ : MSt}
theorem OV.mono (e : Ext K al H al' H') : ∀ {d : Option D} {v : Option V}, OV K al H d v → OV K al' H' d v
  | none, _, _ => True.intro
  | some _, some _, h => RV.mono e h
theorem SR.mono (e : Ext K al H al' H') (h : SR K al H τ σ) : SR K al' H' τ σ := L2.Paired.mapP h fun _ _ q => q.mono e
theorem SR.get : ∀ {τ : MSt} {σ : L2.St} {i : Nat} {d : D}, SR K al H τ σ → τ[i]? = some (some d) → ∃ v, σ[i]? = some (some v) ∧ RV K al H d v
  | _, _, _, _, .nil, h => by simp at h
  | _, _, 0, d, .cons (b := b) r _, h => by
    simp at h; subst h
    cases b with
    | none => exact r.elim
    | some v => exact ⟨v, rfl, r⟩
  | _, _, i + 1, d, .cons _ t, h => by
    obtain ⟨v, h1, h2⟩ := SR.get (i := i) (d := d) t (by simpa using h)
    exact ⟨v, by simpa using h1, h2⟩
theorem SR.set {d : Option D} {v : Option V} (r : OV K al H d v) : ∀ {τ : MSt} {σ : L2.St} (i : Nat), SR K al H τ σ → SR K al H (τ.set i d) (σ.set i v)
  | _, _, _, .nil => .nil
  | _, _, 0, .cons _ t => .cons r t
  | _, _, i + 1, .cons q t => .cons q (SR.set r i t)
theorem SR.length (h : SR K al H τ σ) : τ.length = σ.length := PySem.Paired.length h
/-- forgetting slots -/
def wipeM (τ : MSt) : List Nat → MSt
  | [] => τ
  | v :: vs => (wipeM τ vs).set v none
theorem SR.wipe (h : SR K al H τ σ) : ∀ vs : List Nat, SR K al H (wipeM τ vs) (wipe σ vs)
  | [] => h
  | v :: vs => SR.set (d := none) (v := none) True.intro v (SR.wipe h vs)
end

/-! ### ends -/
/-- what is wanted of an exception: its class, its own dict, the heap -/
abbrev XW := Value → Option Addr → Hp → Prop
def XR (K : PySem.W.Frag) (al : List Addr) (H : Hp) (C : Str) (fs : List (Str × D)) (cls : Value) (od : Option Addr) : Prop :=
  cls = .ref (He.ga K C) ∧ ((fs = [] ∧ od = none) ∨ ∃ d vs, od = some d ∧ H d = some (.xd vs) ∧ FsR K al H fs vs)
def gEnd {α β : Type} (w : World) (K : PySem.W.Frag) (al : List Addr) (H : Hp) (RR : List Addr → Hp → α → β → Prop) (E : XW) (Q : β → Hp → Prop) : Out α → Prop
  | .ok d μ' => ∀ al' H' v, Ext K al H al' H' → Rep w K al' H' μ' → RR al' H' d v → Q v H'
  | .exc C fs μ' => ∀ al' H' cls od, Ext K al H al' H' → Rep w K al' H' μ' → XR K al' H' C fs cls od → E cls od H'
  | .bad => False
abbrev gV (w : World) (K : PySem.W.Frag) (al : List Addr) (H : Hp) (E : XW) (Q : VK) (r : Out D) : Prop := gEnd w K al H (fun al' H' d v => RV K al' H' d v) E Q r
abbrev gB (w : World) (K : PySem.W.Frag) (al : List Addr) (H : Hp) (E : XW) (Q : Bool → Hp → Prop) (r : Out Bool) : Prop := gEnd w K al H (fun _ _ d v => d = v) E Q r
abbrev gL (w : World) (K : PySem.W.Frag) (al : List Addr) (H : Hp) (E : XW) (Q : List V → Hp → Prop) (r : Out (List D)) : Prop := gEnd w K al H (fun al' H' d v => RVs K al' H' d v) E Q r
section
variable {w : World} {K : PySem.W.Frag} {al al' : List Addr} {H H' : Hp} {μ : MH} {α β γ δ : Type} {RR : List Addr → Hp → α → β → Prop} {RS : List Addr → Hp → γ → δ → Prop} {E : XW} {Q : β → Hp → Prop}
theorem gEnd.rebase {r : Out α} (h : gEnd w K al H RR E Q r) (e : Ext K al H al' H') : gEnd w K al' H' RR E Q r := by
  cases r with
  | ok d μ' => exact fun a b v e' => h a b v (e.trans e')
  | exc C fs μ' => exact fun a b c d e' => h a b c d (e.trans e')
  | bad => exact h
/-- in a row -/
theorem gEnd.bind {r : Out γ} {k : γ → MH → Out α} {R : δ → Hp → Prop} (h : gEnd w K al H RR E Q (r.bind k))
    (hk : ∀ d μ1 al1 H1 v, Ext K al H al1 H1 → Rep w K al1 H1 μ1 → RS al1 H1 d v → gEnd w K al1 H1 RR E Q (k d μ1) → R v H1) : gEnd w K al H RS E R r := by
  cases r with
  | ok d μ1 => exact fun al1 H1 v e rp rv => hk d μ1 al1 H1 v e rp rv (h.rebase e)
  | exc C fs μ1 => exact h
  | bad => exact h
theorem gEnd.ok {d : α} {μ : MH} {v : β} (h : gEnd w K al H RR E Q (.ok d μ)) (rp : Rep w K al H μ) (r : RR al H d v) : Q v H := h al H v Ext.refl rp r
theorem gEnd.ok' {d : α} {μ : MH} {v : β} (h : gEnd w K al H RR E Q (.ok d μ)) (e : Ext K al H al' H') (rp : Rep w K al' H' μ) (r : RR al' H' d v) : Q v H' := h al' H' v e rp r
end

/-! ### judgements -/
def tM (w : World) (K : PySem.W.Frag) (W : WX) (m : Mx) : TE := fun σ H Q => ∃ al τ μ, SR K al H τ σ ∧ Rep w K al H μ ∧ gV w K al H (fun c d H' => W c d σ H') Q (m τ μ)
def tMT (w : World) (K : PySem.W.Frag) (W : WX) (m : Mt) : TT := fun σ H Q => ∃ al τ μ, SR K al H τ σ ∧ Rep w K al H μ ∧ gB w K al H (fun c d H' => W c d σ H') Q (m τ μ)
def tMA (w : World) (K : PySem.W.Frag) (W : WX) (m : Ma) : TA := fun σ H Q => ∃ al τ μ, SR K al H τ σ ∧ Rep w K al H μ ∧ gL w K al H (fun c d H' => W c d σ H') Q (m τ μ)
def gS (w : World) (K : PySem.W.Frag) (al : List Addr) (H : Hp) (W : WX) (D : Ends) : Out Fl → Prop
  | .ok (.nx τ) μ => ∀ al' H' σ', Ext K al H al' H' → Rep w K al' H' μ → SR K al' H' τ σ' → D.nx σ' H'
  | .ok (.bk τ) μ => ∀ al' H' σ', Ext K al H al' H' → Rep w K al' H' μ → SR K al' H' τ σ' → D.bk σ' H'
  | .ok (.ct τ) μ => ∀ al' H' σ', Ext K al H al' H' → Rep w K al' H' μ → SR K al' H' τ σ' → D.ct σ' H'
  | .ok (.ret d) μ => ∀ al' H' v, Ext K al H al' H' → Rep w K al' H' μ → RV K al' H' d v → D.rt v H'
  | .ok (.ex C fs τ) μ => ∀ al' H' cls od σ', Ext K al H al' H' → Rep w K al' H' μ → SR K al' H' τ σ' → XR K al' H' C fs cls od → W cls od σ' H'
  | .exc _ _ _ => False
  | .bad => False
def tMS (w : World) (K : PySem.W.Frag) (W : WX) (m : Ms) : TS := fun D σ H => ∃ al τ μ, SR K al H τ σ ∧ Rep w K al H μ ∧ gS w K al H W D (m τ μ)
def PEm (X : Cx) (e : Expr) (m : Mx) : Prop := ∀ W, Takes X W → PE X e (tM X.w X.K W m)
def PTm (X : Cx) (e : Expr) (m : Mt) : Prop := ∀ W, Takes X W → PT X e (tMT X.w X.K W m)
def PAm (X : Cx) (es : List Expr) (m : Ma) : Prop := ∀ W, Takes X W → PA X es (tMA X.w X.K W m)
def PSm (X : Cx) (st : Stmt) (m : Ms) : Prop := ∀ W, Takes X W → PS X st (tMS X.w X.K W m)
def PSsm (X : Cx) (st : List Stmt) (m : Ms) : Prop := ∀ W, Takes X W → PSs X st (tMS X.w X.K W m)
end MM
namespace MM
open PySem PySem.Spec PyProof.Rows L2

/-! ### weakening -/
theorem PE.imp {X : Cx} {e : Expr} {t t' : TE} (h : PE X e t) (i : ∀ σ H Q, t' σ H Q → t σ H Q) : PE X e t' := ⟨fun pins s σ H Q I q => h.run pins s σ H Q I (i σ H Q q)⟩
theorem PT.imp {X : Cx} {e : Expr} {t t' : TT} (h : PT X e t) (i : ∀ σ H Q, t' σ H Q → t σ H Q) : PT X e t' := ⟨fun pins s σ H Q I q => h.run pins s σ H Q I (i σ H Q q)⟩
theorem PA.imp {X : Cx} {e : List Expr} {t t' : TA} (h : PA X e t) (i : ∀ σ H Q, t' σ H Q → t σ H Q) : PA X e t' := ⟨fun pos pins s σ H Q I q => h.run pos pins s σ H Q I (i σ H Q q)⟩
theorem PS.imp {X : Cx} {st : Stmt} {t t' : TS} (h : PS X st t) (i : ∀ D σ H, t' D σ H → t D σ H) : PS X st t' := ⟨fun pins s σ H D I q => h.run pins s σ H D I (i D σ H q)⟩
theorem PSs.imp {X : Cx} {st : List Stmt} {t t' : TS} (h : PSs X st t) (i : ∀ D σ H, t' D σ H → t D σ H) : PSs X st t' := ⟨fun pins s σ H D I q => h.run pins s σ H D I (i D σ H q)⟩

/-! ### the mirror's words -/
def eBad : Mx := fun _ _ => .bad
def eVar (i : Nat) : Mx := fun τ μ => match τ[i]? with
  | some (some d) => .ok d μ
  | _ => .bad
def eCon (d : D) : Mx := fun _ μ => .ok d μ
def e1 (f : D → MH → Out D) (a : Mx) : Mx := fun τ μ => (a τ μ).bind f
def e2 (f : D → D → MH → Out D) (a b : Mx) : Mx := fun τ μ => (a τ μ).bind fun x μ => (b τ μ).bind fun y μ => f x y μ
def aNil : Ma := fun _ μ => .ok [] μ
def aCons (a : Mx) (r : Ma) : Ma := fun τ μ => (a τ μ).bind fun x μ => (r τ μ).bind fun xs μ => .ok (x :: xs) μ
def eN (f : Fn) (a : Ma) : Mx := fun τ μ => (a τ μ).bind f
/-- a op1 b op2 c -/
def eChain (f g : D → D → MH → Out D) (a b c : Mx) : Mx := fun τ μ => (a τ μ).bind fun x μ => (b τ μ).bind fun y μ => (f x y μ).bind fun z μ => match z with
  | .bl true => (c τ μ).bind fun w μ => g y w μ
  | .bl false => .ok (.bl false) μ
  | _ => .bad
/-- tests -/
def tBl (a : Mx) : Mt := fun τ μ => (a τ μ).bind fun x μ => match x with
  | .bl b => .ok b μ
  | _ => .bad
/-- truth -/
def opTru (x : D) (μ : MH) : Out Bool := match x with
  | .non => .ok false μ
  | .bl b => .ok b μ
  | .int i => .ok (i != 0) μ
  | .str y => if y.length ≤ sizeLine then .ok ((y.length : Int) != 0) μ else .bad
  | .tup xs => .ok (!xs.isEmpty) μ
  | .frl xs => .ok (!xs.isEmpty) μ
  | .ref i => match μ[i]? with
    | some (.lst xs) => .ok (!xs.isEmpty) μ
    | _ => .bad
def tTru (a : Mx) : Mt := fun τ μ => (a τ μ).bind opTru
def tAndM (a b : Mt) : Mt := fun τ μ => (a τ μ).bind fun x μ => if x = true then b τ μ else .ok false μ
def tOrM (a b : Mt) : Mt := fun τ μ => (a τ μ).bind fun x μ => if x = true then .ok true μ else b τ μ
def tNotM (a : Mt) : Mt := fun τ μ => (a τ μ).bind fun x μ => .ok (!x) μ
/-- and, or, not as values, of truth values -/
def eAnd (a b : Mx) : Mx := fun τ μ => (a τ μ).bind fun x μ => match x with
  | .bl true => b τ μ
  | .bl false => .ok (.bl false) μ
  | _ => .bad
def eOr (a b : Mx) : Mx := fun τ μ => (a τ μ).bind fun x μ => match x with
  | .bl true => .ok (.bl true) μ
  | .bl false => b τ μ
  | _ => .bad
def eNot (a : Mx) : Mx := fun τ μ => (a τ μ).bind fun x μ => match x with
  | .bl b => .ok (.bl (!b)) μ
  | _ => .bad
def eIf (t : Mt) (a b : Mx) : Mx := fun τ μ => (t τ μ).bind fun x μ => if x = true then a τ μ else b τ μ
def eTup (a : Ma) : Mx := fun τ μ => (a τ μ).bind fun xs μ => if xs.length ≤ sizeLine then .ok (.tup xs) μ else .bad
def eLst (a : Ma) : Mx := fun τ μ => (a τ μ).bind fun xs μ => if xs.length ≤ sizeLine then .ok (.ref μ.length) (μ ++ [.lst xs]) else .bad

section
variable {X : Cx} {x : Str} {pos : Pos} {a b c : Expr} {ma mb mc : Mx} {W : WX}
theorem tM_var {w : World} {K : PySem.W.Frag} {i : Nat} {σ : L2.St} {H : Hp} {Q : VK} (h : tM w K W (eVar i) σ H Q) : tVar i σ H Q := by
  obtain ⟨al, τ, μ, sr, rp, g⟩ := h
  unfold eVar at g
  split at g
  · rename_i d e
    obtain ⟨v, e1, r⟩ := sr.get e
    exact ⟨v, e1, g.ok rp r⟩
  · exact g.elim
theorem pem_bad {e : Expr} : PEm X e eBad := fun W tk => ⟨fun pins s σ H Q I ⟨_, _, _, _, _, g⟩ => g.elim⟩
theorem pem_var {i : Nat} (hN : X.N[i]? = some x) (hv : Vis X.env.scope x) (hd : (x == ("__debug__" : Str)) = false) (hcd : (x == ("__classdict__" : Str)) = false) : PEm X (.Name x pos) (eVar i) :=
  fun W tk => PE.imp (pe_var hN hv hd hcd) fun σ H Q h => tM_var h
theorem pem_con {e : Expr} {v : V} {d : D} (h : PE X e (tC v)) (r : ∀ al H, RV X.K al H d v) : PEm X e (eCon d) := fun W tk => PE.imp h fun σ H Q ⟨al, τ, μ, sr, rp, g⟩ => g.ok rp (r al H)
theorem pem_int {i : Int} {j} : PEm X (.Constant (.int i) j pos) (eCon (.int i)) := pem_con pe_int fun _ _ => .int i
theorem pem_bl {i : Bool} {j} : PEm X (.Constant (.bool i) j pos) (eCon (.bl i)) := pem_con pe_bl fun _ _ => .bl i
theorem pem_non {j} : PEm X (.Constant .none j pos) (eCon .non) := pem_con pe_non fun _ _ => .non
theorem pem_str {i : Str} {j} : PEm X (.Constant (.str i) j pos) (eCon (.str i)) := pem_con pe_str fun _ _ => .str i

/-! ### operations by values -/
def rM1 (w : World) (K : PySem.W.Frag) (f : D → MH → Out D) : V → Hp → VK → Prop := fun x H Q => ∃ al μ d, Rep w K al H μ ∧ RV K al H d x ∧ gV w K al H (fun _ _ _ => False) Q (f d μ)
def rM2 (w : World) (K : PySem.W.Frag) (f : D → D → MH → Out D) : R2 := fun x y H Q => ∃ al μ d e, Rep w K al H μ ∧ RV K al H d x ∧ RV K al H e y ∧ gV w K al H (fun _ _ _ => False) Q (f d e μ)
def rMN (w : World) (K : PySem.W.Frag) (f : Fn) : List V → Hp → VK → Prop := fun xs H Q => ∃ al μ ds, Rep w K al H μ ∧ RVs K al H ds xs ∧ gV w K al H (fun _ _ _ => False) Q (f ds μ)
/-- such an operation raises nothing -/
def Mild1 (f : D → MH → Out D) : Prop := ∀ d μ C fs μ', f d μ ≠ .exc C fs μ'
def Mild2 (f : D → D → MH → Out D) : Prop := ∀ d e μ C fs μ', f d e μ ≠ .exc C fs μ'
def MildN (f : Fn) : Prop := ∀ ds μ C fs μ', f ds μ ≠ .exc C fs μ'
theorem gEnd.mild {α β : Type} {w : World} {K : PySem.W.Frag} {al : List Addr} {H : Hp} {RR : List Addr → Hp → α → β → Prop} {E E' : XW} {Q : β → Hp → Prop} {r : Out α} (hr : ∀ C fs μ', r ≠ .exc C fs μ') (h : gEnd w K al H RR E Q r) : gEnd w K al H RR E' Q r := by
  cases r with
  | ok d μ => exact h
  | exc C fs μ => exact absurd rfl (hr C fs μ)
  | bad => exact h
theorem tM_e1 {f : D → MH → Out D} (hf : Mild1 f) {σ : L2.St} {H : Hp} {Q : VK} (h : tM X.w X.K W (e1 f ma) σ H Q) : tUn (rM1 X.w X.K f) (tM X.w X.K W ma) σ H Q := by
  obtain ⟨al, τ, μ, sr, rp, g⟩ := h
  exact ⟨al, τ, μ, sr, rp, gEnd.bind (k := f) g fun d μ1 al1 H1 v e rp1 r g1 => ⟨al1, μ1, d, rp1, r, g1.mild (hf d μ1)⟩⟩
theorem tM_e2 {f : D → D → MH → Out D} (hf : Mild2 f) {σ : L2.St} {H : Hp} {Q : VK} (h : tM X.w X.K W (e2 f ma mb) σ H Q) : tOp (rM2 X.w X.K f) (tM X.w X.K W ma) (tM X.w X.K W mb) σ H Q := by
  obtain ⟨al, τ, μ, sr, rp, g⟩ := h
  refine ⟨al, τ, μ, sr, rp, gEnd.bind (k := fun x μ => (mb τ μ).bind fun y μ => f x y μ) g fun d μ1 al1 H1 v e rp1 r g1 => ?_⟩
  refine ⟨al1, τ, μ1, sr.mono e, rp1, gEnd.bind (k := fun y μ => f d y μ) g1 fun d2 μ2 al2 H2 v2 e2 rp2 r2 g2 => ?_⟩
  exact ⟨al2, μ2, d, d2, rp2, r.mono e2, r2, g2.mild (hf d d2 μ2)⟩
theorem pem_bin {op : Operator} {f : D → D → MH → Out D} (hf : Mild2 f) (ho : OpR X (binaryOp op) (rM2 X.w X.K f)) (ha : PEm X a ma) (hb : PEm X b mb) : PEm X (.BinOp a op b pos) (e2 f ma mb) :=
  fun W tk => PE.imp (pe_op ho (ha W tk) (hb W tk)) fun σ H Q h => tM_e2 hf h
theorem pem_un {op : UnaryOp} {f : D → MH → Out D} (hf : Mild1 f) (ho : UnR X (unaryOp op) (rM1 X.w X.K f)) (ha : PEm X a ma) : PEm X (.UnaryOp op a pos) (e1 f ma) :=
  fun W tk => PE.imp (pe_un ho (ha W tk)) fun σ H Q h => tM_e1 hf h
theorem pem_cmp {op : CmpOp} {f : D → D → MH → Out D} (hf : Mild2 f) (ho : OpR X (compareOp op) (rM2 X.w X.K f)) (ha : PEm X a ma) (hb : PEm X b mb) (hm : behindInMarks op b = false) : PEm X (.Compare a [op] [b] pos) (e2 f ma mb) :=
  fun W tk => PE.imp (pe_cmpR ho (ha W tk) (hb W tk) hm) fun σ H Q h => tM_e2 hf h
/-- a comparison's answer is a truth value -/
def Blt2 (f : D → D → MH → Out D) : Prop := ∀ d e μ v μ', f d e μ = .ok v μ' → ∃ b, v = .bl b
theorem tMT_bl {m : Mx} {σ : L2.St} {H : Hp} {Q : Bool → Hp → Prop} (h : tMT X.w X.K W (tBl m) σ H Q) : tM X.w X.K W m σ H (fun x H' => ∃ k, x = .bl k ∧ Q k H') := by
  obtain ⟨al, τ, μ, sr, rp, g⟩ := h
  refine ⟨al, τ, μ, sr, rp, gEnd.bind (k := fun x μ => match x with | .bl b => .ok b μ | _ => .bad) g fun d μ1 al1 H1 v e rp1 r g1 => ?_⟩
  cases r with
  | bl b => exact ⟨b, rfl, g1.ok rp1 rfl⟩
  | _ => exact g1.elim
theorem ptm_cmp {op : CmpOp} {f : D → D → MH → Out D} (hf : Mild2 f) (ho : OpR X (compareOp op) (rM2 X.w X.K f)) (ha : PEm X a ma) (hb : PEm X b mb) (hm : behindInMarks op b = false) : PTm X (.Compare a [op] [b] pos) (tBl (e2 f ma mb)) :=
  fun W tk => PT.imp (pt_cmpR ho (ha W tk) (hb W tk) hm) fun σ H Q h => tM_e2 hf (tMT_bl h)
theorem tM_chain {f g : D → D → MH → Out D} (hf : Mild2 f) (hg : Mild2 g) {σ : L2.St} {H : Hp} {Q : VK} (h : tM X.w X.K W (eChain f g ma mb mc) σ H Q) :
    tChain (rM2 X.w X.K f) (rM2 X.w X.K g) (tM X.w X.K W ma) (tM X.w X.K W mb) (tM X.w X.K W mc) σ H Q := by
  obtain ⟨al, τ, μ, sr, rp, G⟩ := h
  refine ⟨al, τ, μ, sr, rp, gEnd.bind (k := fun x μ => (mb τ μ).bind fun y μ => (f x y μ).bind fun z μ => match z with | .bl true => (mc τ μ).bind fun w μ => g y w μ | .bl false => .ok (.bl false) μ | _ => .bad) G fun d μ1 al1 H1 v e rp1 r g1 => ?_⟩
  refine ⟨al1, τ, μ1, sr.mono e, rp1, gEnd.bind (k := fun y μ => (f d y μ).bind fun z μ => match z with | .bl true => (mc τ μ).bind fun w μ => g y w μ | .bl false => .ok (.bl false) μ | _ => .bad) g1 fun d2 μ2 al2 H2 v2 e2 rp2 r2 g2 => ?_⟩
  refine ⟨al2, μ2, d, d2, rp2, r.mono e2, r2, ?_⟩
  cases hz : f d d2 μ2 with
  | bad => rw [hz] at g2; exact g2
  | exc C fs μ' => exact absurd hz (hf _ _ _ _ _ _)
  | ok z μ3 =>
    rw [hz] at g2
    intro al3 H3 v3 e3 rp3 r3
    cases r3 with
    | bl k =>
      refine ⟨k, rfl, ?_⟩
      cases k with
      | false => exact gEnd.ok' (d := D.bl false) g2 e3 rp3 (.bl false)
      | true =>
        refine ⟨al3, τ, μ3, ((sr.mono e).mono e2).mono e3, rp3, gEnd.bind (k := fun w μ => g d2 w μ) (gEnd.rebase g2 e3) fun d4 μ4 al4 H4 v4 e4 rp4 r4 g4 => ?_⟩
        exact ⟨al4, μ4, d2, d4, rp4, (r2.mono e3).mono e4, r4, g4.mild (hg d2 d4 μ4)⟩
    | _ => exact g2.elim
theorem pem_chain {op op' : CmpOp} {f g : D → D → MH → Out D} (hf : Mild2 f) (hg : Mild2 g) (ho : OpR X (compareOp op) (rM2 X.w X.K f)) (ho' : OpR X (compareOp op') (rM2 X.w X.K g)) (ha : PEm X a ma) (hb : PEm X b mb) (hc : PEm X c mc)
    (hm : lastMarks [op, op'] [b, c] = false) : PEm X (.Compare a [op, op'] [b, c] pos) (eChain f g ma mb mc) :=
  fun W tk => PE.imp (pe_chain ho ho' (ha W tk) (hb W tk) (hc W tk) hm) fun σ H Q h => tM_chain hf hg h
theorem ptm_chain {op op' : CmpOp} {f g : D → D → MH → Out D} (hf : Mild2 f) (hg : Mild2 g) (ho : OpR X (compareOp op) (rM2 X.w X.K f)) (ho' : OpR X (compareOp op') (rM2 X.w X.K g)) (ha : PEm X a ma) (hb : PEm X b mb) (hc : PEm X c mc)
    (hm : lastMarks [op, op'] [b, c] = false) : PTm X (.Compare a [op, op'] [b, c] pos) (tBl (eChain f g ma mb mc)) :=
  fun W tk => PT.imp (pt_chain ho ho' (ha W tk) (hb W tk) (hc W tk) hm) fun σ H Q h => tM_chain hf hg (tMT_bl h)

/-! ### truth, and, or, not -/
theorem ptm_truth (ha : PEm X a ma) (he : ∀ whole, isTrue a X.env whole = (do let v ← whole; standAt a.pos; holding [v] (truthy v))) : PTm X a (tTru ma) := fun W tk => PT.imp (pt_truth (ha W tk) he) fun σ H Q h => by
  obtain ⟨al, τ, μ, sr, rp, g⟩ := h
  refine ⟨al, τ, μ, sr, rp, gEnd.bind (k := opTru) g fun d μ1 al1 H1 v e rp1 r g1 => ?_⟩
  cases r with
  | non => exact ⟨false, rfl, g1.ok rp1 rfl⟩
  | bl b => exact ⟨b, rfl, g1.ok rp1 rfl⟩
  | int i => exact ⟨i != 0, rfl, g1.ok rp1 rfl⟩
  | str y =>
    dsimp only [opTru] at g1
    by_cases hy : y.length ≤ sizeLine
    · rw [if_pos hy] at g1; exact ⟨_, ⟨hy, rfl⟩, g1.ok rp1 rfl⟩
    · rw [if_neg hy] at g1; exact g1.elim
  | @tup p xs vs hs hr =>
    refine ⟨!xs.isEmpty, .inr (.inl ⟨vs, hs, ?_⟩), g1.ok rp1 rfl⟩
    cases hr <;> rfl
  | @frl p xs vs hs hr =>
    refine ⟨!xs.isEmpty, .inl ⟨vs, hs.seq, ?_⟩, g1.ok rp1 rfl⟩
    cases hr <;> rfl
  | @ref i p hp =>
    dsimp only [opTru] at g1
    split at g1
    · rename_i xs hx
      obtain ⟨vs, h1, h2⟩ := rp1.of hp hx
      refine ⟨!xs.isEmpty, .inl ⟨vs, SqL.of h1, ?_⟩, g1.ok rp1 rfl⟩
      cases h2 <;> rfl
    · exact g1.elim
theorem tMT_and {ta tb : Mt} {σ : L2.St} {H : Hp} {Q : Bool → Hp → Prop} (h : tMT X.w X.K W (tAndM ta tb) σ H Q) : tAnd (tMT X.w X.K W ta) (tMT X.w X.K W tb) σ H Q := by
  obtain ⟨al, τ, μ, sr, rp, g⟩ := h
  refine ⟨al, τ, μ, sr, rp, gEnd.bind (k := fun x μ => if x = true then tb τ μ else .ok false μ) g fun d μ1 al1 H1 v e rp1 r g1 => ?_⟩
  subst r
  cases d with
  | true => rw [if_pos rfl] at g1 ⊢; exact ⟨al1, τ, μ1, sr.mono e, rp1, g1⟩
  | false => rw [if_neg Bool.false_ne_true] at g1 ⊢; exact g1.ok rp1 rfl
theorem tMT_or {ta tb : Mt} {σ : L2.St} {H : Hp} {Q : Bool → Hp → Prop} (h : tMT X.w X.K W (tOrM ta tb) σ H Q) : tOr (tMT X.w X.K W ta) (tMT X.w X.K W tb) σ H Q := by
  obtain ⟨al, τ, μ, sr, rp, g⟩ := h
  refine ⟨al, τ, μ, sr, rp, gEnd.bind (k := fun x μ => if x = true then .ok true μ else tb τ μ) g fun d μ1 al1 H1 v e rp1 r g1 => ?_⟩
  subst r
  cases d with
  | false => rw [if_neg Bool.false_ne_true] at g1 ⊢; exact ⟨al1, τ, μ1, sr.mono e, rp1, g1⟩
  | true => rw [if_pos rfl] at g1 ⊢; exact g1.ok rp1 rfl
def PWm (X : Cx) (e : Expr) (m : Mt) : Prop := ∀ W, Takes X W → PW X e (tMT X.w X.K W m)
theorem PW.imp {X : Cx} {e : Expr} {t t' : TT} (h : PW X e t) (i : ∀ σ H Q, t' σ H Q → t σ H Q) : PW X e t' := ⟨fun whole pins s σ H Q I q => h.run whole pins s σ H Q I (i σ H Q q)⟩
theorem pwm_and1 {ta : Mt} (h : PTm X a ta) : PWm X (.BoolOp .And [a] pos) ta := fun W tk => pw_and1 (h W tk)
theorem pwm_or1 {ta : Mt} (h : PTm X a ta) : PWm X (.BoolOp .Or [a] pos) ta := fun W tk => pw_or1 (h W tk)
theorem pwm_and {rest : List Expr} {ta tb : Mt} (h : PTm X a ta) (hb : PWm X (.BoolOp .And (b :: rest) pos) tb) : PWm X (.BoolOp .And (a :: b :: rest) pos) (tAndM ta tb) := fun W tk => PW.imp (pw_and (h W tk) (hb W tk)) fun σ H Q h => tMT_and h
theorem pwm_or {rest : List Expr} {ta tb : Mt} (h : PTm X a ta) (hb : PWm X (.BoolOp .Or (b :: rest) pos) tb) : PWm X (.BoolOp .Or (a :: b :: rest) pos) (tOrM ta tb) := fun W tk => PW.imp (pw_or (h W tk) (hb W tk)) fun σ H Q h => tMT_or h
theorem PWm.pt {ta : Mt} (h : PWm X a ta) : PTm X a ta := fun W tk => (h W tk).pt
theorem ptm_not {ta : Mt} (h : PTm X a ta) : PTm X (.UnaryOp .Not a pos) (tNotM ta) := fun W tk => PT.imp (pt_not (h W tk)) fun σ H Q h => by
  obtain ⟨al, τ, μ, sr, rp, g⟩ := h
  refine ⟨al, τ, μ, sr, rp, gEnd.bind (k := fun x μ => .ok (!x) μ) g fun d μ1 al1 H1 v e rp1 r g1 => ?_⟩
  subst r
  exact g1.ok rp1 rfl
theorem pem_one {op : BoolOp} (h : PEm X a ma) : PEm X (.BoolOp op [a] pos) ma := fun W tk => pe_one (h W tk)
theorem pem_and {rest : List Expr} (ha : PEm X a ma) (hb : PEm X (.BoolOp .And (b :: rest) pos) mb) : PEm X (.BoolOp .And (a :: b :: rest) pos) (eAnd ma mb) := fun W tk => PE.imp (pe_and (ha W tk) (hb W tk)) fun σ H Q h => by
  obtain ⟨al, τ, μ, sr, rp, g⟩ := h
  refine ⟨al, τ, μ, sr, rp, gEnd.bind (k := fun x μ => match x with | .bl true => mb τ μ | .bl false => .ok (.bl false) μ | _ => .bad) g fun d μ1 al1 H1 v e rp1 r g1 => ?_⟩
  cases r with
  | bl k =>
    refine ⟨k, rfl, ?_⟩
    cases k with
    | true => exact ⟨al1, τ, μ1, sr.mono e, rp1, g1⟩
    | false => exact gEnd.ok (d := D.bl false) g1 rp1 (.bl false)
  | _ => exact g1.elim
theorem pem_or {rest : List Expr} (ha : PEm X a ma) (hb : PEm X (.BoolOp .Or (b :: rest) pos) mb) : PEm X (.BoolOp .Or (a :: b :: rest) pos) (eOr ma mb) := fun W tk => PE.imp (pe_or (ha W tk) (hb W tk)) fun σ H Q h => by
  obtain ⟨al, τ, μ, sr, rp, g⟩ := h
  refine ⟨al, τ, μ, sr, rp, gEnd.bind (k := fun x μ => match x with | .bl true => .ok (.bl true) μ | .bl false => mb τ μ | _ => .bad) g fun d μ1 al1 H1 v e rp1 r g1 => ?_⟩
  cases r with
  | bl k =>
    refine ⟨k, rfl, ?_⟩
    cases k with
    | false => exact ⟨al1, τ, μ1, sr.mono e, rp1, g1⟩
    | true => exact gEnd.ok (d := D.bl true) g1 rp1 (.bl true)
  | _ => exact g1.elim
theorem pem_not (ha : PEm X a ma) : PEm X (.UnaryOp .Not a pos) (eNot ma) := fun W tk => PE.imp (pe_not (ha W tk)) fun σ H Q h => by
  obtain ⟨al, τ, μ, sr, rp, g⟩ := h
  refine ⟨al, τ, μ, sr, rp, gEnd.bind (k := fun x μ => match x with | .bl b => .ok (D.bl (!b)) μ | _ => .bad) g fun d μ1 al1 H1 v e rp1 r g1 => ?_⟩
  cases r with
  | bl k => exact ⟨k, rfl, gEnd.ok (d := D.bl (!k)) g1 rp1 (.bl _)⟩
  | _ => exact g1.elim
theorem pem_if {t : Mt} (hc : PTm X c t) (ha : PEm X a ma) (hb : PEm X b mb) : PEm X (.IfExp c a b pos) (eIf t ma mb) := fun W tk => PE.imp (pe_ifExp (hc W tk) (ha W tk) (hb W tk)) fun σ H Q h => by
  obtain ⟨al, τ, μ, sr, rp, g⟩ := h
  refine ⟨al, τ, μ, sr, rp, gEnd.bind (k := fun x μ => if x = true then ma τ μ else mb τ μ) g fun d μ1 al1 H1 v e rp1 r g1 => ?_⟩
  subst r
  cases d with
  | true => rw [if_pos rfl] at g1 ⊢; exact ⟨al1, τ, μ1, sr.mono e, rp1, g1⟩
  | false => rw [if_neg Bool.false_ne_true] at g1 ⊢; exact ⟨al1, τ, μ1, sr.mono e, rp1, g1⟩

/-! ### arguments, displays -/
def notStar : Expr → Bool
  | .Starred _ _ => false
  | _ => true
theorem starEach_cons {e : Expr} {es : List Expr} {env : Env} (h : notStar e = true) : starEach (e :: es) env = (false, eval e env) :: starEach es env := by
  cases e <;> first | rfl | cases h
theorem star_plain (pos : Pos) (env : Env) : ∀ es : List Expr, es.all notStar = true → (backTo pos (starEach es env)).any (·.1) = false
  | [], _ => rfl
  | e :: es, h => by
    simp only [List.all_cons, Bool.and_eq_true] at h
    rw [starEach_cons h.1]
    show (false || (backTo pos (starEach es env)).any (·.1)) = false
    rw [star_plain pos env es h.2] <;> rfl
theorem pam_nil : PAm X [] aNil := fun W tk => PA.imp pa_nil fun σ H Q ⟨al, τ, μ, sr, rp, g⟩ => g.ok rp .nil
theorem pam_cons {es : List Expr} {r : Ma} (ha : PEm X a ma) (hr : PAm X es r) (hs : notStar a = true) : PAm X (a :: es) (aCons ma r) := fun W tk => PA.imp (pa_cons (ha W tk) (hr W tk) (starEach_cons hs)) fun σ H Q h => by
  obtain ⟨al, τ, μ, sr, rp, g⟩ := h
  refine ⟨al, τ, μ, sr, rp, gEnd.bind (k := fun x μ => (r τ μ).bind fun xs μ => .ok (x :: xs) μ) g fun d μ1 al1 H1 v e rp1 r1 g1 => ?_⟩
  refine ⟨al1, τ, μ1, sr.mono e, rp1, gEnd.bind (k := fun xs μ => .ok (d :: xs) μ) g1 fun ds μ2 al2 H2 vs e2 rp2 r2 g2 => ?_⟩
  exact g2.ok rp2 (.cons (r1.mono e2) r2)
theorem pem_tup {es : List Expr} {r : Ma} {x1 : Nat} (h : PAm X es r) : PEm X (.Tuple es x1 pos) (eTup r) := fun W tk => PE.imp (pe_tup (h W tk)) fun σ H Q h => by
  obtain ⟨al, τ, μ, sr, rp, g⟩ := h
  refine ⟨al, τ, μ, sr, rp, gEnd.bind (k := fun xs μ => if xs.length ≤ sizeLine then .ok (D.tup xs) μ else .bad) g fun ds μ1 al1 H1 vs e rp1 r1 g1 => ?_⟩
  by_cases hl : ds.length ≤ sizeLine
  · rw [if_pos hl] at g1
    refine ⟨by rw [← r1.length]; exact hl, fun p hp => ?_⟩
    exact g1.ok' (Ext.tup1 hp _) (rp1.tup1 hp _) (.newTup hp r1)
  · rw [if_neg hl] at g1; exact g1.elim
/-- a new list -/
theorem gV.newL {w : World} {K : PySem.W.Frag} {al : List Addr} {H : Hp} {E : XW} {Q : VK} {μ : MH} {xs : List D} {vs : List V} (g : gV w K al H E Q (.ok (.ref μ.length) (μ ++ [.lst xs]))) (rp : Rep w K al H μ) (r : RVs K al H xs vs) {p : Addr} (hp : H p = none) :
    Q (.ref p) (upd H p (.lst vs)) := by
  have ex : Ext K al H (al ++ [p]) (upd H p (.lst vs)) := Ext.new hp _
  refine g.ok' ex (rp.new hp ⟨vs, upd_same, r.mono ex⟩) (.ref ?_)
  rw [← rp.len, List.getElem?_append_right (Nat.le_refl _)]
  simp
theorem pem_lst {es : List Expr} {r : Ma} (h : PAm X es r) : PEm X (.List es pos) (eLst r) := fun W tk => PE.imp (pe_lst (h W tk)) fun σ H Q h => by
  obtain ⟨al, τ, μ, sr, rp, g⟩ := h
  refine ⟨al, τ, μ, sr, rp, gEnd.bind (k := fun xs μ => if xs.length ≤ sizeLine then .ok (D.ref μ.length) (μ ++ [.lst xs]) else .bad) g fun ds μ1 al1 H1 vs e rp1 r1 g1 => ?_⟩
  by_cases hl : ds.length ≤ sizeLine
  · rw [if_pos hl] at g1
    exact ⟨by rw [← r1.length]; exact hl, fun p hp => gV.newL g1 rp1 r1 hp⟩
  · rw [if_neg hl] at g1; exact g1.elim
end
end MM
namespace MM
open PySem PySem.Spec PyProof.Rows L2

/-! ### tables -/
def dget (kvs : List (D × D)) (k : D) : Option D := (kvs.find? fun p => decide (p.1 = k)).map (·.2)
def dput (kvs : List (D × D)) (k v : D) : List (D × D) := if (kvs.any fun p => decide (p.1 = k)) = true then kvs.map (fun p => if p.1 = k then (p.1, v) else p) else kvs ++ [(k, v)]
def ddrop (kvs : List (D × D)) (k : D) : List (D × D) := kvs.filter fun p => decide (p.1 ≠ k)
/-- the key is of the sort of the dict's keys -/
def keyOk (kvs : List (D × D)) (k : D) : Bool := match kvs with
  | [] => (fk k).isSome || (tk k).isSome
  | p :: _ => ((fk p.1).isSome && (fk k).isSome) || ((tk p.1).isSome && (tk k).isSome)

theorem fk_inj : ∀ {a b : D} {k : Key}, fk a = some k → fk b = some k → a = b := by
  intro a b k h1 h2
  cases a <;> simp only [fk, Option.some.injEq, reduceCtorEq] at h1 <;> subst h1 <;> cases b <;> simp only [fk, Option.some.injEq, reduceCtorEq, Sum.inl.injEq, Sum.inr.injEq] at h2 <;> rw [h2]
mutual
theorem nk_inj : ∀ (a b : D) (k : NestedKey), nk a = some k → nk b = some k → a = b
  | .non, b, k, h1, h2 => by
    simp only [nk, Option.some.injEq] at h1; subst h1
    cases b <;> simp [nk] at h2 <;> rfl
  | .int i, b, k, h1, h2 => by
    simp only [nk, Option.some.injEq] at h1; subst h1
    cases b <;> simp [nk] at h2 <;> rw [h2]
  | .str x, b, k, h1, h2 => by
    simp only [nk, Option.some.injEq] at h1; subst h1
    cases b <;> simp [nk] at h2 <;> rw [h2]
  | .tup ds, b, k, h1, h2 => by
    simp only [nk, Option.map_eq_some_iff] at h1
    obtain ⟨ks, e1, rfl⟩ := h1
    cases b with
    | tup es =>
      simp only [nk, Option.map_eq_some_iff] at h2
      obtain ⟨ks', e2, e3⟩ := h2
      cases e3
      rw [nks_inj ds es ks e1 e2]
    | _ => simp [nk] at h2
  | .bl _, _, _, h1, _ => by simp [nk] at h1
  | .frl _, _, _, h1, _ => by simp [nk] at h1
  | .ref _, _, _, h1, _ => by simp [nk] at h1
theorem nks_inj : ∀ (a b : List D) (k : List NestedKey), nks a = some k → nks b = some k → a = b
  | [], b, k, h1, h2 => by
    simp only [nks, Option.some.injEq] at h1; subst h1
    cases b with
    | nil => rfl
    | cons d ds => simp only [nks] at h2; split at h2 <;> simp at h2
  | a :: as, b, k, h1, h2 => by
    simp only [nks] at h1
    split at h1
    · rename_i k1 ks1 e1 e2
      cases h1
      cases b with
      | nil => simp [nks] at h2
      | cons d ds =>
        simp only [nks] at h2
        split at h2
        · rename_i k2 ks2 e3 e4
          cases h2
          rw [nk_inj a d _ e1 e3, nks_inj as ds _ e2 e4]
        · cases h2
    · cases h1
end
theorem tk_some {d : D} {n : NestedKey} (h : tk d = some n) : (∃ ds, d = .tup ds) ∧ nk d = some n ∧ n.depth ≤ 8 := by
  unfold tk at h
  split at h
  · rename_i ds
    split at h
    · rename_i k e
      split at h
      · rename_i hd
        cases h
        exact ⟨⟨ds, rfl⟩, e, hd⟩
      · cases h
    · cases h
  · cases h
theorem tk_inj {a b : D} {k : NestedKey} (h1 : tk a = some k) (h2 : tk b = some k) : a = b := nk_inj a b k (tk_some h1).2.1 (tk_some h2).2.1
theorem fk_tk {d : D} {k : Key} (h : fk d = some k) : tk d = none := by
  cases d <;> simp [fk] at h <;> rfl
theorem tk_fk {d : D} {n : NestedKey} (h : tk d = some n) : fk d = none := by
  obtain ⟨⟨ds, rfl⟩, _⟩ := tk_some h
  rfl

/-! ### lists side by side -/
section
variable {A B : Type} {R : A → B → Prop} {a : A → Bool} {b : B → Bool}
theorem paired_find (hab : ∀ p q, R p q → a p = b q) : ∀ {xs : List A} {ys : List B}, Paired R xs ys → (xs.find? a = none ∧ ys.find? b = none) ∨ ∃ p q, xs.find? a = some p ∧ ys.find? b = some q ∧ R p q
  | _, _, .nil => .inl ⟨rfl, rfl⟩
  | x :: xs, y :: ys, .cons r t => by
    rw [List.find?_cons, List.find?_cons, ← hab _ _ r]
    cases a x with
    | true => exact .inr ⟨_, _, rfl, rfl, r⟩
    | false => exact paired_find hab t
theorem paired_any (hab : ∀ p q, R p q → a p = b q) : ∀ {xs : List A} {ys : List B}, Paired R xs ys → xs.any a = ys.any b
  | _, _, .nil => rfl
  | _, _, .cons r t => by rw [List.any_cons, List.any_cons, hab _ _ r, paired_any hab t]
theorem paired_filter (hab : ∀ p q, R p q → a p = b q) : ∀ {xs : List A} {ys : List B}, Paired R xs ys → Paired R (xs.filter a) (ys.filter b)
  | _, _, .nil => .nil
  | x :: xs, y :: ys, .cons r t => by
    rw [List.filter_cons, List.filter_cons, ← hab _ _ r]
    cases a x with
    | true => exact .cons r (paired_filter hab t)
    | false => exact paired_filter hab t
theorem paired_map {A' B' : Type} {R' : A' → B' → Prop} {f : A → A'} {g : B → B'} (hfg : ∀ p q, R p q → R' (f p) (g q)) : ∀ {xs : List A} {ys : List B}, Paired R xs ys → Paired R' (xs.map f) (ys.map g)
  | _, _, .nil => .nil
  | _, _, .cons r t => .cons (hfg _ _ r) (paired_map hfg t)
theorem paired_append : ∀ {xs xs' : List A} {ys ys' : List B}, Paired R xs ys → Paired R xs' ys' → Paired R (xs ++ xs') (ys ++ ys')
  | _, _, _, _, .nil, s => s
  | _, _, _, _, .cons r t, s => .cons r (paired_append t s)
theorem paired_get : ∀ {xs : List A} {ys : List B} {i : Nat} {x : A}, Paired R xs ys → xs[i]? = some x → ∃ y, ys[i]? = some y ∧ R x y
  | _, _, _, _, .nil, h => by simp at h
  | _, _, 0, _, .cons r _, h => by simp at h; subst h; exact ⟨_, rfl, r⟩
  | _, _, i + 1, x, .cons _ t, h => by
    obtain ⟨y, h1, h2⟩ := paired_get (i := i) (x := x) t (by simpa using h)
    exact ⟨y, by simpa using h1, h2⟩
end
theorem ddrop_le (kvs : List (D × D)) (k : D) : (ddrop kvs k).length ≤ kvs.length := List.length_filter_le _ _
theorem dput_le (kvs : List (D × D)) (k v : D) : (dput kvs k v).length ≤ kvs.length + 1 := by
  unfold dput; split <;> simp
theorem dput_keys (kvs : List (D × D)) (k v : D) : (dput kvs k v).map (·.1) = if (kvs.any fun p => decide (p.1 = k)) = true then kvs.map (·.1) else kvs.map (·.1) ++ [k] := by
  unfold dput
  split
  · rw [List.map_map]
    refine List.map_congr_left fun p _ => ?_
    show (if p.1 = k then (p.1, v) else p).1 = p.1
    split <;> rfl
  · simp
theorem dput_nodup {kvs : List (D × D)} (h : (kvs.map (·.1)).Nodup) (k v : D) : ((dput kvs k v).map (·.1)).Nodup := by
  rw [dput_keys]
  split
  · exact h
  · rename_i hn
    rw [List.nodup_append]
    refine ⟨h, by simp, fun a ha b hb e => hn ?_⟩
    have : b = k := by simpa using hb
    subst this; subst e
    obtain ⟨p, hp, rfl⟩ := List.mem_map.mp ha
    exact List.any_eq_true.mpr ⟨p, hp, by simp⟩
theorem dput_mem {kvs : List (D × D)} {k v : D} {p : D × D} (h : p ∈ dput kvs k v) : p.1 = k ∨ ∃ q ∈ kvs, q.1 = p.1 := by
  have : p.1 ∈ (dput kvs k v).map (·.1) := List.mem_map.mpr ⟨p, h, rfl⟩
  rw [dput_keys] at this
  split at this
  · obtain ⟨q, h1, h2⟩ := List.mem_map.mp this
    exact .inr ⟨q, h1, h2⟩
  · rcases List.mem_append.mp this with h | h
    · obtain ⟨q, h1, h2⟩ := List.mem_map.mp h
      exact .inr ⟨q, h1, h2⟩
    · exact .inl (by simpa using h)
theorem dput_hom {kvs : List (D × D)} {k : D} (v : D) (h : Hom kvs) (o : keyOk kvs k = true) : Hom (dput kvs k v) := by
  cases kvs with
  | nil =>
    have e : dput [] k v = [(k, v)] := rfl
    rw [e]
    have o' : (fk k).isSome = true ∨ (tk k).isSome = true := by simpa [keyOk] using o
    rcases o' with o' | o'
    · exact .inl fun p hp => by have : p = (k, v) := by simpa using hp
                                subst this; exact o'
    · exact .inr fun p hp => by have : p = (k, v) := by simpa using hp
                                subst this; exact o'
  | cons p r =>
    have o' : ((fk p.1).isSome = true ∧ (fk k).isSome = true) ∨ ((tk p.1).isSome = true ∧ (tk k).isSome = true) := by simpa [keyOk] using o
    rcases h with h | h
    · have h0 := h p (by simp)
      have hk : (fk k).isSome = true := by
        rcases o' with o' | o'
        · exact o'.2
        · obtain ⟨f, hf⟩ := Option.isSome_iff_exists.mp h0
          rw [fk_tk hf] at o'; simp at o'
      refine .inl fun q hq => ?_
      rcases dput_mem hq with e | ⟨q', h1, h2⟩
      · rw [e]; exact hk
      · rw [← h2]; exact h q' h1
    · have h0 := h p (by simp)
      have hk : (tk k).isSome = true := by
        rcases o' with o' | o'
        · obtain ⟨f, hf⟩ := Option.isSome_iff_exists.mp h0
          rw [tk_fk hf] at o'; simp at o'
        · exact o'.2
      refine .inr fun q hq => ?_
      rcases dput_mem hq with e | ⟨q', h1, h2⟩
      · rw [e]; exact hk
      · rw [← h2]; exact h q' h1
theorem ddrop_hom {kvs : List (D × D)} {k : D} (h : Hom kvs) : Hom (ddrop kvs k) := by
  rcases h with h | h
  · exact .inl fun p hp => h p (List.mem_filter.mp hp).1
  · exact .inr fun p hp => h p (List.mem_filter.mp hp).1
theorem ddrop_nodup {kvs : List (D × D)} (h : (kvs.map (·.1)).Nodup) (k : D) : ((ddrop kvs k).map (·.1)).Nodup := h.sublist (List.filter_sublist.map _)
theorem dget_keyOk {kvs : List (D × D)} {k d : D} (h : Hom kvs) (g : dget kvs k = some d) : ((fk k).isSome = true ∧ ∀ p ∈ kvs, (fk p.1).isSome = true) ∨ ((tk k).isSome = true ∧ ∀ p ∈ kvs, (tk p.1).isSome = true) := by
  unfold dget at g
  obtain ⟨p, hp, _⟩ := Option.map_eq_some_iff.mp g
  have hm := List.mem_of_find?_eq_some hp
  have he : p.1 = k := by simpa using List.find?_some hp
  rcases h with h | h
  · exact .inl ⟨by rw [← he]; exact h p hm, h⟩
  · exact .inr ⟨by rw [← he]; exact h p hm, h⟩
theorem keyOk_sort {kvs : List (D × D)} {k : D} (h : Hom kvs) (o : keyOk kvs k = true) : ((fk k).isSome = true ∧ ∀ p ∈ kvs, (fk p.1).isSome = true) ∨ ((tk k).isSome = true ∧ ∀ p ∈ kvs, (tk p.1).isSome = true) := by
  cases kvs with
  | nil =>
    have o' : (fk k).isSome = true ∨ (tk k).isSome = true := by simpa [keyOk] using o
    rcases o' with o' | o'
    · exact .inl ⟨o', by simp⟩
    · exact .inr ⟨o', by simp⟩
  | cons p r =>
    have o' : ((fk p.1).isSome = true ∧ (fk k).isSome = true) ∨ ((tk p.1).isSome = true ∧ (tk k).isSome = true) := by simpa [keyOk] using o
    rcases h with h | h
    · refine .inl ⟨?_, h⟩
      rcases o' with o' | o'
      · exact o'.2
      · obtain ⟨f, hf⟩ := Option.isSome_iff_exists.mp (h p (by simp))
        rw [fk_tk hf] at o'; simp at o'
    · refine .inr ⟨?_, h⟩
      rcases o' with o' | o'
      · obtain ⟨f, hf⟩ := Option.isSome_iff_exists.mp (h p (by simp))
        rw [tk_fk hf] at o'; simp at o'
      · exact o'.2

/-! ### a dict as the library has it -/
def FV (K : PySem.W.Frag) (al : List Addr) (H : Hp) (p : D × D) (q : Key × Value) : Prop := fk p.1 = some q.1 ∧ ∃ v, RelV v q.2 ∧ RV K al H p.2 v
def TVx (K : PySem.W.Frag) (al : List Addr) (H : Hp) (p : D × D) (q : NestedKey × Addr × Value) : Prop := tk p.1 = some q.1 ∧ RV K al H p.1 (.ref q.2.1) ∧ ∃ v, RelV v q.2.2 ∧ RV K al H p.2 v
section
variable {X : Cx} {pins : List (Addr × Obj)} {σ : L2.St} {H : Hp} {s : Shared} {al : List Addr} {μ : MH}
mutual
theorem RV.nested (I : Inv X pins σ H s) : ∀ (d : D) (v : V) (u : Value) (k : NestedKey), RV X.K al H d v → nk d = some k → RelV v u → NestedIs s.heap k u
  | .non, _, _, k, h, e, r => by
    cases h; cases r; simp only [nk, Option.some.injEq] at e; subst e; exact .none
  | .int i, _, _, k, h, e, r => by
    cases h; obtain ⟨t, rfl⟩ := r; simp only [nk, Option.some.injEq] at e; subst e; exact .int _ _
  | .str x, _, _, k, h, e, r => by
    cases h; obtain ⟨t, rfl⟩ := r; simp only [nk, Option.some.injEq] at e; subst e; exact .text _ _
  | .tup ds, _, _, k, h, e, r => by
    cases h with
    | tup hs hr =>
      cases r
      simp only [nk, Option.map_eq_some_iff] at e
      obtain ⟨ks, e, rfl⟩ := e
      obtain ⟨its, rv, ⟨o, h1, h2, n, h3⟩, _⟩ := I.tuple hs
      exact .tup h1 h2 h3 (RVs.nested I ds _ its ks hr e rv)
  | .bl _, _, _, _, _, e, _ => by simp [nk] at e
  | .frl _, _, _, _, _, e, _ => by simp [nk] at e
  | .ref _, _, _, _, _, e, _ => by simp [nk] at e
theorem RVs.nested (I : Inv X pins σ H s) : ∀ (ds : List D) (vs : List V) (us : List Value) (ks : List NestedKey), RVs X.K al H ds vs → nks ds = some ks → Vals vs us → NestedAll s.heap ks us
  | [], _, _, ks, h, e, r => by
    cases h; cases r; simp only [nks, Option.some.injEq] at e; subst e; exact .nil
  | d :: ds, _, _, ks, h, e, r => by
    cases h with
    | cons h1 h2 =>
      cases r with
      | cons r1 r2 =>
        simp only [nks] at e
        split at e
        · rename_i k ks' e1 e2
          cases e
          exact .cons (RV.nested I d _ _ k h1 e1 r1) (RVs.nested I ds _ _ ks' h2 e2 r2)
        · cases e
end
theorem RV.isKey (I : Inv X pins σ H s) {d : D} {b : Addr} {k : NestedKey} (h : RV X.K al H d (.ref b)) (e : tk d = some k) : (nestedKind X.prog X.w).is s.heap k b :=
  ⟨RV.nested I d _ _ k h (tk_some e).2.1 rfl, (tk_some e).2.2⟩
theorem RV.flat {K : PySem.W.Frag} {d : D} {v : V} {u : Value} {f : Key} (h : RV K al H d v) (e : fk d = some f) (r : RelV v u) : keyIs f u = true := by
  cases h with
  | int i => simp only [fk, Option.some.injEq] at e; subst e; obtain ⟨t, rfl⟩ := r; exact keyIs_int _ _
  | str i => simp only [fk, Option.some.injEq] at e; subst e; obtain ⟨t, rfl⟩ := r; exact keyIs_str _ _
  | _ => simp [fk] at e
theorem RV.tkRef {K : PySem.W.Frag} {d : D} {v : V} {n : NestedKey} (h : RV K al H d v) (e : tk d = some n) : ∃ b, v = .ref b := by
  obtain ⟨⟨ds, rfl⟩, _⟩ := tk_some e
  cases h with
  | tup _ _ => exact ⟨_, rfl⟩

theorem ents_flat {w : World} {K : PySem.W.Frag} {P : Program} : ∀ {kvs : List (D × D)} {es : List DictEntry}, Paired (EntR w K al H) kvs es → (∀ p ∈ kvs, (fk p.1).isSome = true) →
    ∃ vs, Paired (FV K al H) kvs vs ∧ Pairs (mixKind P w) es vs ∧ ∀ e ∈ es, ∃ k, (mixKind P w).is k e.key = true ∧ e.hash = (mixKind P w).hash k
  | _, _, .nil, _ => ⟨[], .nil, .nil, by simp⟩
  | p :: _, e :: _, .cons r t, h => by
    obtain ⟨vs, h1, h2, h3⟩ := ents_flat (P := P) t fun q hq => h q (List.mem_cons_of_mem _ hq)
    obtain ⟨kr, v, rv, rd⟩ := r
    obtain ⟨f, hf⟩ := Option.isSome_iff_exists.mp (h p (by simp))
    rcases kr with ⟨f', e1, e2, e3⟩ | ⟨n, b, e1, _⟩
    · have : f' = f := Option.some.inj (e1.symm.trans hf)
      subst this
      refine ⟨(f', e.val) :: vs, .cons ⟨hf, v, rv, rd⟩ h1, .cons e2 rfl h2, fun x hx => ?_⟩
      rcases List.mem_cons.mp hx with rfl | hx
      · exact ⟨f', e2, e3⟩
      · exact h3 x hx
    · rw [fk_tk hf] at e1; cases e1
theorem flat_ents {w : World} {K : PySem.W.Frag} {P : Program} : ∀ {kvs : List (D × D)} {vs : List (Key × Value)} {es : List DictEntry}, Paired (FV K al H) kvs vs → Pairs (mixKind P w) es vs → (∀ e ∈ es, ∃ k, (mixKind P w).is k e.key = true ∧ e.hash = (mixKind P w).hash k) → Paired (EntR w K al H) kvs es
  | _, _, _, .nil, .nil, _ => .nil
  | _, _, _, .cons r t, .cons (e := e) h1 h2 h3, hk => by
    refine .cons ⟨.inl ⟨_, r.1, h1, ?_⟩, ?_⟩ (flat_ents t h3 fun x hx => hk x (List.mem_cons_of_mem _ hx))
    · obtain ⟨k, k1, k2⟩ := hk e (by simp)
      have := (mixKind P w).inj _ _ _ k1 h1
      subst this
      exact k2
    · obtain ⟨_, v, rv, rd⟩ := r
      exact ⟨v, by rw [h2]; exact rv, rd⟩
theorem ents_tup {w : World} {K : PySem.W.Frag} {P : Program} : ∀ {kvs : List (D × D)} {es : List DictEntry}, Paired (EntR w K al H) kvs es → (∀ p ∈ kvs, (tk p.1).isSome = true) →
    ∃ xs, Paired (TVx K al H) kvs xs ∧ es = xs.map (entryOfKey (nestedKind P w))
  | _, _, .nil, _ => ⟨[], .nil, rfl⟩
  | p :: _, e :: _, .cons r t, h => by
    obtain ⟨xs, h1, h2⟩ := ents_tup (P := P) t fun q hq => h q (List.mem_cons_of_mem _ hq)
    obtain ⟨kr, v, rv, rd⟩ := r
    obtain ⟨n, hn⟩ := Option.isSome_iff_exists.mp (h p (by simp))
    rcases kr with ⟨f', e1, _⟩ | ⟨n', b, e1, e2, e3, e4⟩
    · rw [tk_fk hn] at e1; cases e1
    · refine ⟨(n', b, e.val) :: xs, .cons ⟨e1, e3, v, rv, rd⟩ h1, ?_⟩
      rw [List.map_cons, ← h2]
      congr 1
      obtain ⟨eh, ek, ev⟩ := e
      simp only at e2 e4
      subst e2 e4
      rfl
theorem tup_ents {w : World} {K : PySem.W.Frag} {P : Program} : ∀ {kvs : List (D × D)} {xs : List (NestedKey × Addr × Value)}, Paired (TVx K al H) kvs xs → Paired (EntR w K al H) kvs (xs.map (entryOfKey (nestedKind P w)))
  | _, _, .nil => .nil
  | _, _, .cons r t => .cons ⟨.inr ⟨_, _, r.1, rfl, r.2.1, rfl⟩, r.2.2⟩ (tup_ents t)

/-- the raw entries of a tracked dict -/
theorem inv_raw (I : Inv X pins σ H s) {a : Addr} {l : Bool} {es : List DictEntry} (h : DAt H a l es) : DRaw a es s.heap := by
  cases l with
  | false => exact (I.hok a _ h).1
  | true => obtain ⟨od, h⟩ := h; exact (I.hok a _ h).2.1
theorem fv_nodup {K : PySem.W.Frag} {kvs : List (D × D)} {vs : List (Key × Value)} (r : Paired (FV K al H) kvs vs) (n : (kvs.map (·.1)).Nodup) : (vs.map (·.1)).Nodup := by
  induction r with
  | nil => exact .nil
  | @cons p q ps qs h t ih =>
    rw [List.map_cons, List.nodup_cons] at n ⊢
    refine ⟨fun hm => n.1 ?_, ih n.2⟩
    obtain ⟨q', h1, h2⟩ := List.mem_map.mp hm
    have : ∀ {kvs : List (D × D)} {vs : List (Key × Value)}, Paired (FV K al H) kvs vs → ∀ q' ∈ vs, ∃ p' ∈ kvs, FV K al H p' q' := by
      intro kvs vs r
      induction r with
      | nil => intro _ h; cases h
      | cons h t ih =>
        intro q hq
        rcases List.mem_cons.mp hq with rfl | hq
        · exact ⟨_, List.mem_cons_self, h⟩
        · obtain ⟨p, a, b⟩ := ih q hq
          exact ⟨p, List.mem_cons_of_mem _ a, b⟩
    obtain ⟨p', a, b⟩ := this t q' h1
    have : p'.1 = p.1 := fk_inj b.1 (by rw [h2]; exact h.1)
    exact List.mem_map.mpr ⟨p', a, this⟩
theorem tv_nodup {K : PySem.W.Frag} {kvs : List (D × D)} {vs : List (NestedKey × Addr × Value)} (r : Paired (TVx K al H) kvs vs) (n : (kvs.map (·.1)).Nodup) : (vs.map (·.1)).Nodup := by
  induction r with
  | nil => exact .nil
  | @cons p q ps qs h t ih =>
    rw [List.map_cons, List.nodup_cons] at n ⊢
    refine ⟨fun hm => n.1 ?_, ih n.2⟩
    obtain ⟨q', h1, h2⟩ := List.mem_map.mp hm
    have : ∀ {kvs : List (D × D)} {vs : List (NestedKey × Addr × Value)}, Paired (TVx K al H) kvs vs → ∀ q' ∈ vs, ∃ p' ∈ kvs, TVx K al H p' q' := by
      intro kvs vs r
      induction r with
      | nil => intro _ h; cases h
      | cons h t ih =>
        intro q hq
        rcases List.mem_cons.mp hq with rfl | hq
        · exact ⟨_, List.mem_cons_self, h⟩
        · obtain ⟨p, a, b⟩ := ih q hq
          exact ⟨p, List.mem_cons_of_mem _ a, b⟩
    obtain ⟨p', a, b⟩ := this t q' h1
    have : p'.1 = p.1 := tk_inj b.1 (by rw [h2]; exact h.1)
    exact List.mem_map.mpr ⟨p', a, this⟩
theorem dictOf_flat (I : Inv X pins σ H s) {a : Addr} {kvs : List (D × D)} {l : Bool} (r : ObjR X.w X.K al H a (.dict kvs l)) (f : ∀ p ∈ kvs, (fk p.1).isSome = true) : ∃ vs, Paired (FV X.K al H) kvs vs ∧ s.heap.DictOf (mixKind X.prog X.w) a vs := by
  obtain ⟨_, _, n, _, es, he, re⟩ := r
  obtain ⟨vs, h1, h2, h3⟩ := ents_flat (P := X.prog) re f
  obtain ⟨o, ep, g1, g2, g3⟩ := inv_raw I he
  exact ⟨vs, h1, o, es.toArray, ep, g1, g2, g3, fun e he => h3 e (by simpa using he), by simpa using h2, fv_nodup h1 n⟩
theorem dictOf_tup (I : Inv X pins σ H s) {a : Addr} {kvs : List (D × D)} {l : Bool} (r : ObjR X.w X.K al H a (.dict kvs l)) (f : ∀ p ∈ kvs, (tk p.1).isSome = true) : ∃ xs, Paired (TVx X.K al H) kvs xs ∧ s.heap.DictOfH (nestedKind X.prog X.w) a xs := by
  obtain ⟨_, _, n, _, es, he, re⟩ := r
  obtain ⟨xs, h1, h2⟩ := ents_tup (P := X.prog) re f
  obtain ⟨o, ep, g1, g2, g3⟩ := inv_raw I he
  refine ⟨xs, h1, o, es.toArray, ep, g1, g2, g3, by simpa using h2, fun x hx => ?_, tv_nodup h1 n⟩
  have : ∀ {kvs : List (D × D)} {vs : List (NestedKey × Addr × Value)}, Paired (TVx X.K al H) kvs vs → ∀ q' ∈ vs, ∃ p' ∈ kvs, TVx X.K al H p' q' := by
    intro kvs vs r
    induction r with
    | nil => intro _ h; cases h
    | cons h t ih =>
      intro q hq
      rcases List.mem_cons.mp hq with rfl | hq
      · exact ⟨_, List.mem_cons_self, h⟩
      · obtain ⟨p, a, b⟩ := ih q hq
        exact ⟨p, List.mem_cons_of_mem _ a, b⟩
  obtain ⟨p', _, b⟩ := this h1 x hx
  exact RV.isKey I b.2.1 b.1
/-- a dict's object is written: back from the library's form -/
theorem raw_flat {w : World} {K : PySem.W.Frag} {P : Program} {h' : Heap} {a : Addr} {kvs : List (D × D)} {vs : List (Key × Value)} (d : h'.DictOf (mixKind P w) a vs) (r : Paired (FV K al H) kvs vs) : ∃ es, DRaw a es h' ∧ Paired (EntR w K al H) kvs es := by
  obtain ⟨o, es, ep, g1, g2, g3, g4, g5, _⟩ := d
  exact ⟨es.toList, ⟨o, ep, g1, g2, by rw [g3]⟩, flat_ents r g5 fun e he => g4 e (by simpa using he)⟩
theorem raw_tup {w : World} {K : PySem.W.Frag} {P : Program} {h' : Heap} {a : Addr} {kvs : List (D × D)} {xs : List (NestedKey × Addr × Value)} (d : h'.DictOfH (nestedKind P w) a xs) (r : Paired (TVx K al H) kvs xs) : ∃ es, DRaw a es h' ∧ Paired (EntR w K al H) kvs es := by
  obtain ⟨o, es, ep, g1, g2, g3, g4, _⟩ := d
  refine ⟨es.toList, ⟨o, ep, g1, g2, by rw [g3]⟩, ?_⟩
  rw [g4]
  exact tup_ents r
theorem raw_ok {P : Program} {w : World} {H' : Hp} {h' : Heap} {a : Addr} {es : List DictEntry} (r : DRaw a es h') : ObjOk P w H' h' a (.ext (DRaw a es)) := by
  refine ⟨r, let ⟨o, _, e, _⟩ := r; ⟨o, e⟩, fun h1 h2 ⟨o, ep, e, x⟩ k => ⟨o, ep, k o e, x⟩⟩
/-- the state behind a dict's change -/
theorem inv_dwrite (I : Inv X pins σ H s) (rp : Rep X.w X.K al H μ) {i : Nat} {a : Addr} {kvs kvs' : List (D × D)} (ha : al[i]? = some a) (hi : μ[i]? = some (.dict kvs false)) {h' : Heap} {t' : Nat} (hs : Heap.SameBut a s.heap h')
    {es : List DictEntry} (hr : DRaw a es h') (he : Paired (EntR X.w X.K al H) kvs' es) (hl : kvs'.length ≤ sizeLine) (hn : (kvs'.map (·.1)).Nodup) (hh : Hom kvs') :
    Inv X pins σ (upd H a (.ext (DRaw a es))) { s with heap := h', toks := t' } ∧ Rep X.w X.K al (upd H a (.ext (DRaw a es))) (μ.set i (.dict kvs' false)) ∧ Ext X.K al H al (upd H a (.ext (DRaw a es))) := by
  obtain ⟨sm, _, _, _, es0, h0, _⟩ := rp.of ha hi
  have h0 : H a = some (.ext (DRaw a es0)) := h0
  have ex := Ext.write rp ha hi rfl (.ext (DRaw a es))
  refine ⟨I.write (x := a) (e := a) (by rw [h0]; exact True.intro) (.inl rfl) (fun b q hb z => (hs.2 b hb).trans z) (let ⟨o, _, e, _⟩ := hr; ⟨o, e⟩) (raw_ok hr), ?_, ex⟩
  exact rp.write ha hi rfl ⟨sm, hl, hn, hh, es, upd_same, L2.Paired.mapP he fun _ _ q => q.mono ex⟩
end
end MM
namespace MM
open PySem PySem.Spec PyProof.Rows L2

/-! ### operators -/
instance : ∀ i j, Decidable (CMul i j) := fun i j => by unfold CMul; infer_instance
instance : ∀ i j, Decidable (CMulW i j) := fun i j => by unfold CMulW; infer_instance
instance : ∀ i j, Decidable (CDivW i j) := fun i j => by unfold CDivW; infer_instance
instance : ∀ i j, Decidable (CPow i j) := fun i j => by unfold CPow; infer_instance
def mulOk (i j : Int) : Prop := CMul i j ∨ CMulW i j
instance : ∀ i j, Decidable (mulOk i j) := fun i j => by unfold mulOk; infer_instance
def opAdd (x y : D) (μ : MH) : Out D := match x, y with
  | .int i, .int j => .ok (.int (i + j)) μ
  | .str a, .str b => if a.length + b.length ≤ sizeLine then .ok (.str (a ++ b)) μ else .bad
  | .tup a, .tup b => if a.length + b.length ≤ sizeLine then .ok (.tup (a ++ b)) μ else .bad
  | .ref i, .ref j => match μ[i]?, μ[j]? with
    | some (.lst a), some (.lst b) => if a.length + b.length ≤ sizeLine then .ok (.ref μ.length) (μ ++ [.lst (a ++ b)]) else .bad
    | _, _ => .bad
  | _, _ => .bad
def opSub (x y : D) (μ : MH) : Out D := match x, y with
  | .int i, .int j => .ok (.int (i - j)) μ
  | _, _ => .bad
def opMul (x y : D) (μ : MH) : Out D := match x, y with
  | .int i, .int j => if mulOk i j then .ok (.int (i * j)) μ else .bad
  | _, _ => .bad
def opDiv (x y : D) (μ : MH) : Out D := match x, y with
  | .int i, .int j => if CDivW i j then .ok (.int (i / j)) μ else .bad
  | _, _ => .bad
def opMod (x y : D) (μ : MH) : Out D := match x, y with
  | .int i, .int j => if 0 < j then .ok (.int (i % j)) μ else .bad
  | _, _ => .bad
def opPow (x y : D) (μ : MH) : Out D := match x, y with
  | .int i, .int j => if CPow i j then .ok (.int (i ^ j.toNat)) μ else .bad
  | _, _ => .bad
def opNeg (x : D) (μ : MH) : Out D := match x with
  | .int i => .ok (.int (-i)) μ
  | _ => .bad
def opLt (x y : D) (μ : MH) : Out D := match x, y with
  | .int i, .int j => .ok (.bl (decide (i < j))) μ
  | _, _ => .bad
def opLe (x y : D) (μ : MH) : Out D := match x, y with
  | .int i, .int j => .ok (.bl (decide (i ≤ j))) μ
  | _, _ => .bad
def opGt (x y : D) (μ : MH) : Out D := match x, y with
  | .int i, .int j => .ok (.bl (decide (j < i))) μ
  | _, _ => .bad
def opGe (x y : D) (μ : MH) : Out D := match x, y with
  | .int i, .int j => .ok (.bl (decide (j ≤ i))) μ
  | _, _ => .bad
def opIs (x y : D) (μ : MH) : Out D := match y with
  | .non => .ok (.bl (decide (x = .non))) μ
  | _ => .bad
def opIsNot (x y : D) (μ : MH) : Out D := match y with
  | .non => .ok (.bl (!decide (x = .non))) μ
  | _ => .bad

section
variable {X : Cx}
theorem mild2_add : Mild2 opAdd := fun d e μ C fs μ' h => by
  unfold opAdd at h
  split at h <;> first | (cases h; done) | (split at h <;> first | (cases h; done) | (split at h <;> cases h))
theorem mild2_sub : Mild2 opSub := fun d e μ C fs μ' h => by unfold opSub at h; split at h <;> cases h
theorem mild2_mul : Mild2 opMul := fun d e μ C fs μ' h => by unfold opMul at h; split at h <;> first | (cases h; done) | (split at h <;> cases h)
theorem mild2_div : Mild2 opDiv := fun d e μ C fs μ' h => by unfold opDiv at h; split at h <;> first | (cases h; done) | (split at h <;> cases h)
theorem mild2_mod : Mild2 opMod := fun d e μ C fs μ' h => by unfold opMod at h; split at h <;> first | (cases h; done) | (split at h <;> cases h)
theorem mild2_pow : Mild2 opPow := fun d e μ C fs μ' h => by unfold opPow at h; split at h <;> first | (cases h; done) | (split at h <;> cases h)
theorem mild1_neg : Mild1 opNeg := fun d μ C fs μ' h => by unfold opNeg at h; split at h <;> cases h
theorem mild2_lt : Mild2 opLt := fun d e μ C fs μ' h => by unfold opLt at h; split at h <;> cases h
theorem mild2_le : Mild2 opLe := fun d e μ C fs μ' h => by unfold opLe at h; split at h <;> cases h
theorem mild2_gt : Mild2 opGt := fun d e μ C fs μ' h => by unfold opGt at h; split at h <;> cases h
theorem mild2_ge : Mild2 opGe := fun d e μ C fs μ' h => by unfold opGe at h; split at h <;> cases h
theorem mild2_is : Mild2 opIs := fun d e μ C fs μ' h => by unfold opIs at h; split at h <;> cases h
theorem mild2_isnot : Mild2 opIsNot := fun d e μ C fs μ' h => by unfold opIsNot at h; split at h <;> cases h

theorem opr_add : OpR X (binaryOp .Add) (rM2 X.w X.K opAdd) := by
  intro pins s σ H x y v u Q I rx ry h
  obtain ⟨al, μ, d, e, rp, r1, r2, g⟩ := h
  unfold opAdd at g
  split at g
  · cases r1; cases r2
    exact op_add pins s σ H _ _ v u Q I rx ry ⟨_, _, rfl, rfl, g.ok rp (.int _)⟩
  · split at g
    · rename_i hz
      cases r1; cases r2
      exact op_add_str pins s σ H _ _ v u Q I rx ry ⟨_, _, rfl, rfl, hz, g.ok rp (.str _)⟩
    · exact g.elim
  · split at g
    · rename_i a b hz
      cases r1 with
      | tup h1 k1 =>
        cases r2 with
        | tup h2 k2 =>
          refine op_catA pins s σ H _ _ v u Q I rx ry ⟨_, _, _, _, rfl, rfl, h1, h2, by rw [← k1.length, ← k2.length]; exact hz, fun e => ?_, fun _ e => ?_, fun _ _ p hp => ?_⟩
          · subst e; cases k1
            exact g.ok rp (.tup h2 (by simpa using k2))
          · subst e; cases k2
            exact g.ok rp (.tup h1 (by simpa using k1))
          · exact g.ok' (Ext.tup1 hp _) (rp.tup1 hp _) (.newTup hp (k1.append k2))
    · exact g.elim
  · rename_i i j
    split at g
    · rename_i a b ha hb
      split at g
      · rename_i hz
        cases r1 with
        | ref h1 =>
          cases r2 with
          | ref h2 =>
            obtain ⟨vs, e1, k1⟩ := rp.of h1 ha
            obtain ⟨ws, e2, k2⟩ := rp.of h2 hb
            exact op_cat pins s σ H _ _ v u Q I rx ry ⟨_, _, _, _, rfl, rfl, e1, e2, by rw [← k1.length, ← k2.length]; exact hz, fun p hp => gV.newL g rp (k1.append k2) hp⟩
      · exact g.elim
    · exact g.elim
  · exact g.elim
theorem opr_sub : OpR X (binaryOp .Sub) (rM2 X.w X.K opSub) := by
  intro pins s σ H x y v u Q I rx ry h
  obtain ⟨al, μ, d, e, rp, r1, r2, g⟩ := h
  unfold opSub at g
  split at g
  · cases r1; cases r2
    exact op_sub pins s σ H _ _ v u Q I rx ry ⟨_, _, rfl, rfl, g.ok rp (.int _)⟩
  · exact g.elim
theorem opr_mul : OpR X (binaryOp .Mult) (rM2 X.w X.K opMul) := by
  intro pins s σ H x y v u Q I rx ry h
  obtain ⟨al, μ, d, e, rp, r1, r2, g⟩ := h
  unfold opMul at g
  split at g
  · split at g
    · rename_i hc
      cases r1; cases r2
      rcases hc with hc | hc
      · exact op_mul pins s σ H _ _ v u Q I rx ry ⟨_, _, rfl, rfl, hc, g.ok rp (.int _)⟩
      · exact op_mulW pins s σ H _ _ v u Q I rx ry ⟨_, _, rfl, rfl, hc, g.ok rp (.int _)⟩
    · exact g.elim
  · exact g.elim
theorem opr_div : OpR X (binaryOp .FloorDiv) (rM2 X.w X.K opDiv) := by
  intro pins s σ H x y v u Q I rx ry h
  obtain ⟨al, μ, d, e, rp, r1, r2, g⟩ := h
  unfold opDiv at g
  split at g
  · split at g
    · rename_i hc
      cases r1; cases r2
      exact op_fdivW pins s σ H _ _ v u Q I rx ry ⟨_, _, rfl, rfl, hc, g.ok rp (.int _)⟩
    · exact g.elim
  · exact g.elim
theorem opr_mod : OpR X (binaryOp .Mod) (rM2 X.w X.K opMod) := by
  intro pins s σ H x y v u Q I rx ry h
  obtain ⟨al, μ, d, e, rp, r1, r2, g⟩ := h
  unfold opMod at g
  split at g
  · split at g
    · rename_i hc
      cases r1; cases r2
      exact op_mod pins s σ H _ _ v u Q I rx ry ⟨_, _, rfl, rfl, hc, g.ok rp (.int _)⟩
    · exact g.elim
  · exact g.elim
theorem opr_pow : OpR X (binaryOp .Pow) (rM2 X.w X.K opPow) := by
  intro pins s σ H x y v u Q I rx ry h
  obtain ⟨al, μ, d, e, rp, r1, r2, g⟩ := h
  unfold opPow at g
  split at g
  · split at g
    · rename_i hc
      cases r1; cases r2
      exact op_pow pins s σ H _ _ v u Q I rx ry ⟨_, _, rfl, rfl, hc, g.ok rp (.int _)⟩
    · exact g.elim
  · exact g.elim
theorem unr_neg : UnR X (unaryOp .USub) (rM1 X.w X.K opNeg) := by
  intro pins s σ H x v Q I rx h
  obtain ⟨al, μ, d, rp, r1, g⟩ := h
  unfold opNeg at g
  split at g
  · cases r1
    exact un_neg pins s σ H _ v Q I rx ⟨_, rfl, g.ok rp (.int _)⟩
  · exact g.elim
theorem opr_lt : OpR X (compareOp .Lt) (rM2 X.w X.K opLt) := by
  intro pins s σ H x y v u Q I rx ry h
  obtain ⟨al, μ, d, e, rp, r1, r2, g⟩ := h
  unfold opLt at g
  split at g
  · cases r1; cases r2
    exact op_lt pins s σ H _ _ v u Q I rx ry ⟨_, _, rfl, rfl, g.ok rp (.bl _)⟩
  · exact g.elim
theorem opr_le : OpR X (compareOp .LtE) (rM2 X.w X.K opLe) := by
  intro pins s σ H x y v u Q I rx ry h
  obtain ⟨al, μ, d, e, rp, r1, r2, g⟩ := h
  unfold opLe at g
  split at g
  · cases r1; cases r2
    exact op_le pins s σ H _ _ v u Q I rx ry ⟨_, _, rfl, rfl, g.ok rp (.bl _)⟩
  · exact g.elim
theorem opr_gt : OpR X (compareOp .Gt) (rM2 X.w X.K opGt) := by
  intro pins s σ H x y v u Q I rx ry h
  obtain ⟨al, μ, d, e, rp, r1, r2, g⟩ := h
  unfold opGt at g
  split at g
  · cases r1; cases r2
    exact op_gt pins s σ H _ _ v u Q I rx ry ⟨_, _, rfl, rfl, g.ok rp (.bl _)⟩
  · exact g.elim
theorem opr_ge : OpR X (compareOp .GtE) (rM2 X.w X.K opGe) := by
  intro pins s σ H x y v u Q I rx ry h
  obtain ⟨al, μ, d, e, rp, r1, r2, g⟩ := h
  unfold opGe at g
  split at g
  · cases r1; cases r2
    exact op_ge pins s σ H _ _ v u Q I rx ry ⟨_, _, rfl, rfl, g.ok rp (.bl _)⟩
  · exact g.elim
theorem RV.non_iff {K : PySem.W.Frag} {al : List Addr} {H : Hp} {d : D} {x : V} (r : RV K al H d x) : decide (x = .non) = decide (d = .non) := by
  cases r <;> simp
theorem opr_is : OpR X (compareOp .Is) (rM2 X.w X.K opIs) := by
  intro pins s σ H x y v u Q I rx ry h
  obtain ⟨al, μ, d, e, rp, r1, r2, g⟩ := h
  unfold opIs at g
  split at g
  · cases r2
    exact op_isN pins s σ H _ _ v u Q I rx ry ⟨rfl, by rw [r1.non_iff]; exact g.ok rp (.bl _)⟩
  · exact g.elim
theorem opr_isnot : OpR X (compareOp .IsNot) (rM2 X.w X.K opIsNot) := by
  intro pins s σ H x y v u Q I rx ry h
  obtain ⟨al, μ, d, e, rp, r1, r2, g⟩ := h
  unfold opIsNot at g
  split at g
  · cases r2
    exact op_notN pins s σ H _ _ v u Q I rx ry ⟨rfl, by rw [r1.non_iff]; exact g.ok rp (.bl _)⟩
  · exact g.elim
end

/-! ### == of data -/
def pdata : Nat → MH → D → Option PyData
  | 0, _, _ => none
  | n + 1, μ, d => match d with
    | .non => some .none
    | .bl b => some (.bool b)
    | .int i => some (.int i)
    | .str x => some (.str x)
    | .tup ds => (ds.mapM (pdata n μ)).map .tuple
    | .frl ds => (ds.mapM (pdata n μ)).map .list
    | .ref i => match μ[i]? with
      | some (.lst ds) => (ds.mapM (pdata n μ)).map .list
      | _ => none
theorem dpAll_of {K : PySem.W.Frag} {al : List Addr} {H : Hp} {f : D → Option PyData} (hf : ∀ d p v, f d = some p → RV K al H d v → Dp K H v p) : ∀ {ds : List D} {vs : List V} {ps : List PyData}, ds.mapM f = some ps → RVs K al H ds vs → DpAll K H vs ps
  | [], _, ps, h, r => by
    cases r
    simp at h; subst h; exact .nil
  | d :: ds, _, ps, h, r => by
    cases r with
    | cons r1 r2 =>
      rw [List.mapM_cons] at h
      cases e : f d with
      | none => rw [e] at h; cases h
      | some p =>
        rw [e] at h
        cases e2 : ds.mapM f with
        | none => rw [e2] at h; cases h
        | some qs =>
          rw [e2] at h
          cases h
          exact .cons (hf _ _ _ e r1) (dpAll_of hf e2 r2)
theorem dp_of {w : World} {K : PySem.W.Frag} {al : List Addr} {H : Hp} {μ : MH} (rp : Rep w K al H μ) : ∀ (n : Nat) (d : D) (p : PyData) (v : V), pdata n μ d = some p → RV K al H d v → Dp K H v p
  | 0, _, _, _, h, _ => by cases h
  | n + 1, d, p, v, h, r => by
    have ih : ∀ d p v, pdata n μ d = some p → RV K al H d v → Dp K H v p := dp_of rp n
    cases r with
    | non => cases h; exact .non
    | bl b => cases h; exact .bl b
    | int i => cases h; exact .int i
    | str x => cases h; exact .str x
    | tup hs hr =>
      obtain ⟨ps, e, rfl⟩ := Option.map_eq_some_iff.mp (show _ = some p from h)
      exact .tup hs (dpAll_of ih e hr)
    | frl hs hr =>
      obtain ⟨ps, e, rfl⟩ := Option.map_eq_some_iff.mp (show _ = some p from h)
      exact .lst hs.seq (dpAll_of ih e hr)
    | @ref i a ha =>
      have h' : (match μ[i]? with | some (.lst ds) => (ds.mapM (pdata n μ)).map PyData.list | _ => none) = some p := h
      split at h'
      · rename_i ds hd
        obtain ⟨ps, e, rfl⟩ := Option.map_eq_some_iff.mp h'
        obtain ⟨vs, h1, h2⟩ := rp.of ha hd
        exact .lst (SqL.of h1) (dpAll_of ih e h2)
      · cases h'
/-- scalars that == tells apart as data does -/
def scalD : D → D → Bool
  | .non, .non => true | .non, .int _ => true | .int _, .non => true | .non, .bl _ => true | .bl _, .non => true | .non, .str _ => true | .str _, .non => true
  | .int _, .int _ => true | .bl _, .bl _ => true | .str _, .str _ => true
  | .int _, .str _ => true | .str _, .int _ => true | .bl _, .str _ => true | .str _, .bl _ => true
  | _, _ => false
def eqData (x y : D) (μ : MH) : Option Bool :=
  if scalD x y = true then some (decide (x = y)) else
  match pdata 60 μ x, pdata 60 μ y with
  | some a, some b => if SeqAt.shaped a = true ∧ SeqAt.shaped b = true then some (PyData.eqv a b) else none
  | _, _ => none
def opEq (x y : D) (μ : MH) : Out D := match eqData x y μ with
  | some b => .ok (.bl b) μ
  | none => .bad
def opNe (x y : D) (μ : MH) : Out D := match eqData x y μ with
  | some b => .ok (.bl (!b)) μ
  | none => .bad
theorem mild2_eq : Mild2 opEq := fun d e μ C fs μ' h => by unfold opEq at h; split at h <;> cases h
theorem mild2_ne : Mild2 opNe := fun d e μ C fs μ' h => by unfold opNe at h; split at h <;> cases h
section
variable {X : Cx}
theorem scal_of {K : PySem.W.Frag} {al : List Addr} {H : Hp} {d e : D} {x y : V} (h : scalD d e = true) (r1 : RV K al H d x) (r2 : RV K al H e y) : scal x y = true ∧ decide (x = y) = decide (d = e) := by
  cases r1 <;> cases r2 <;> first | (cases h; done) | exact ⟨rfl, by simp⟩
theorem opr_eq (hu : X.A.units + 64 < cLine) : OpR X (compareOp .Eq) (rM2 X.w X.K opEq) := by
  intro pins s σ H x y v u Q I rx ry h
  obtain ⟨al, μ, d, e, rp, r1, r2, g⟩ := h
  unfold opEq eqData at g
  split at g
  · rename_i b hb
    split at hb
    · rename_i hs
      cases hb
      obtain ⟨h1, h2⟩ := scal_of hs r1 r2
      exact op_eq pins s σ H _ _ v u Q I rx ry ⟨h1, by rw [h2]; exact g.ok rp (.bl _)⟩
    · split at hb
      · rename_i a b' ea eb
        split at hb
        · rename_i hs
          cases hb
          exact op_eqD hu pins s σ H _ _ v u Q I rx ry ⟨_, _, dp_of rp _ _ _ _ ea r1, dp_of rp _ _ _ _ eb r2, hs.1, hs.2, g.ok rp (.bl _)⟩
        · cases hb
      · cases hb
  · exact g.elim
theorem opr_ne (hu : X.A.units + 64 < cLine) : OpR X (compareOp .NotEq) (rM2 X.w X.K opNe) := by
  intro pins s σ H x y v u Q I rx ry h
  obtain ⟨al, μ, d, e, rp, r1, r2, g⟩ := h
  unfold opNe eqData at g
  split at g
  · rename_i b hb
    split at hb
    · rename_i hs
      cases hb
      obtain ⟨h1, h2⟩ := scal_of hs r1 r2
      exact op_ne pins s σ H _ _ v u Q I rx ry ⟨h1, by rw [h2]; exact g.ok rp (.bl _)⟩
    · split at hb
      · rename_i a b' ea eb
        split at hb
        · rename_i hs
          cases hb
          exact op_neD hu pins s σ H _ _ v u Q I rx ry ⟨_, _, dp_of rp _ _ _ _ ea r1, dp_of rp _ _ _ _ eb r2, hs.1, hs.2, g.ok rp (.bl _)⟩
        · cases hb
      · cases hb
  · exact g.elim
end
end MM
namespace MM
open PySem PySem.Spec PyProof.Rows L2

/-! ### in, not in -/
def flatD : D → Bool
  | .non => true | .bl _ => true | .int _ => true | .str _ => true
  | _ => false
def eqF : D → D → Bool
  | .non, .non => true
  | .bl a, .bl b => a == b
  | .bl a, .int b => (if a then 1 else 0) == b
  | .int a, .bl b => a == (if b then 1 else 0)
  | .int a, .int b => a == b
  | .str a, .str b => a == b
  | _, _ => false
def inFlat (k : D) (ys : List D) : Option Bool := if flatD k = true ∧ ys.all flatD = true then some (ys.any fun y => eqF y k) else none
def inData (k c : D) (μ : MH) : Option Bool := match pdata 30 μ k, pdata 30 μ c with
  | some a, some (.list bs) => if SeqAt.shaped a = true ∧ SeqAt.shaped (.list bs) = true then some (bs.any fun z => PyData.eqv z a) else none
  | _, _ => none
def inD (k c : D) (μ : MH) : Option Bool := match c with
  | .str s => match k with
    | .str t => some (!(Builtin.Str.occurrences s t 0 s.length 1).isEmpty)
    | _ => none
  | .tup ys => inFlat k ys
  | .frl ys => inFlat k ys
  | .ref j => match μ[j]? with
    | some (.lst ys) => (inFlat k ys).orElse fun _ => inData k c μ
    | some (.dict kvs _) => if keyOk kvs k = true then some (dget kvs k).isSome else none
    | _ => none
  | _ => none
def opIn (k c : D) (μ : MH) : Out D := match inD k c μ with
  | some b => .ok (.bl b) μ
  | none => .bad
def opNotIn (k c : D) (μ : MH) : Out D := match inD k c μ with
  | some b => .ok (.bl (!b)) μ
  | none => .bad
theorem mild2_in : Mild2 opIn := fun d e μ C fs μ' h => by unfold opIn at h; split at h <;> cases h
theorem mild2_notIn : Mild2 opNotIn := fun d e μ C fs μ' h => by unfold opNotIn at h; split at h <;> cases h

section
variable {X : Cx} {pins : List (Addr × Obj)} {σ : L2.St} {H : Hp} {s : Shared} {al : List Addr} {μ : MH} {A : Around} {E : Value → Shared → Prop}
theorem flat_of {K : PySem.W.Frag} {d : D} {v : V} (r : RV K al H d v) (h : flatD d = true) : flatV v = true := by
  cases r <;> first | rfl | cases h
theorem flats_of {K : PySem.W.Frag} : ∀ {ds : List D} {vs : List V}, RVs K al H ds vs → ds.all flatD = true → vs.all flatV = true
  | _, _, .nil, _ => rfl
  | _, _, .cons r t, h => by
    rw [List.all_cons, Bool.and_eq_true] at h ⊢
    exact ⟨flat_of r h.1, flats_of t h.2⟩
theorem eqF_of {K : PySem.W.Frag} {d e : D} {x y : V} (r : RV K al H d x) (r' : RV K al H e y) (h : flatD d = true) (h' : flatD e = true) : eqV x y = eqF d e := by
  cases r <;> cases r' <;> first | rfl | (cases h; done) | cases h'
theorem anyF_of {K : PySem.W.Frag} {e : D} {y : V} (r' : RV K al H e y) (h' : flatD e = true) : ∀ {ds : List D} {vs : List V}, RVs K al H ds vs → ds.all flatD = true → inV y vs = ds.any fun d => eqF d e
  | _, _, .nil, _ => rfl
  | d :: ds, v :: vs, .cons r t, h => by
    rw [List.all_cons, Bool.and_eq_true] at h
    have ih := anyF_of r' h' t h.2
    show (eqV v y || inV y vs) = (eqF d e || ds.any fun d => eqF d e)
    rw [eqF_of r r' h.1 h', ih]
/-- what is asked of a dict at a key -/
theorem dm_in (hu : A.units + 10 < cLine) (I : Inv X pins σ H s) (rp : Rep X.w X.K al H μ) {i : Nat} {a : Addr} {kvs : List (D × D)} {lk : Bool} (ha : al[i]? = some a) (hi : μ[i]? = some (.dict kvs lk)) {k : D} {y : V} {u : Value} (rk : RV X.K al H k y) (ry : RelV y u)
    (ok : keyOk kvs k = true) {Q : Value → Shared → Prop} (h : ∀ s', Inv X pins σ H s' → Q (.bool (dget kvs k).isSome) s') : wpAny (model X.prog X.w) A (compareOp .In u (.ref a)) Q E s := by
  have ob := rp.of ha hi
  obtain ⟨sm, _, _, hh, _⟩ := id ob
  rcases keyOk_sort hh ok with ⟨hk, hf⟩ | ⟨hk, hf⟩
  · obtain ⟨f, ef⟩ := Option.isSome_iff_exists.mp hk
    obtain ⟨vs, r, d⟩ := dictOf_flat I ob hf
    refine wpAny_in_of (rk.flat ef ry) sm d.mapOf ?_
    have e : (dget kvs k).isSome = (valueAt vs f).isSome := by
      rcases paired_find (a := fun p => decide (p.1 = k)) (b := fun q => decide (q.1 = f)) (fun p q r => by
        have : p.1 = k ↔ q.1 = f := ⟨fun e => by subst e; exact Option.some.inj (r.1.symm.trans ef), fun e => fk_inj (e ▸ r.1) ef⟩
        simp [this]) r with ⟨e1, e2⟩ | ⟨p, q, e1, e2, _⟩
      · simp [dget, valueAt, e1, e2]
      · simp [dget, valueAt, e1, e2]
    rw [← e]
    exact h _ (I.tok _)
  · obtain ⟨n, en⟩ := Option.isSome_iff_exists.mp hk
    obtain ⟨b, rfl⟩ := rk.tkRef en
    cases (show u = Value.ref b from ry)
    obtain ⟨xs, r, d⟩ := dictOf_tup I ob hf
    refine wpAny_in_heap (knd := nestedKind X.prog X.w) (by show A.units + 1 + 8 < cLine; omega) (RV.isKey I rk en) sm d ?_
    have e : (dget kvs k).isSome = (atKey xs n).isSome := by
      rcases paired_find (a := fun p => decide (p.1 = k)) (b := fun q => decide (q.1 = n)) (fun p q r => by
        have : p.1 = k ↔ q.1 = n := ⟨fun e => by subst e; exact Option.some.inj (r.1.symm.trans en), fun e => tk_inj (e ▸ r.1) en⟩
        simp [this]) r with ⟨e1, e2⟩ | ⟨p, q, e1, e2, _⟩
      · simp [dget, atKey, e1, e2]
      · simp [dget, atKey, e1, e2]
    rw [← e]
    exact h _ (I.tok _)
theorem dm_notIn (hu : A.units + 10 < cLine) (I : Inv X pins σ H s) (rp : Rep X.w X.K al H μ) {i : Nat} {a : Addr} {kvs : List (D × D)} {lk : Bool} (ha : al[i]? = some a) (hi : μ[i]? = some (.dict kvs lk)) {k : D} {y : V} {u : Value} (rk : RV X.K al H k y) (ry : RelV y u)
    (ok : keyOk kvs k = true) {Q : Value → Shared → Prop} (h : ∀ s', Inv X pins σ H s' → Q (.bool (!(dget kvs k).isSome)) s') : wpAny (model X.prog X.w) A (compareOp .NotIn u (.ref a)) Q E s := by
  have ob := rp.of ha hi
  obtain ⟨sm, _, _, hh, _⟩ := id ob
  rcases keyOk_sort hh ok with ⟨hk, hf⟩ | ⟨hk, hf⟩
  · obtain ⟨f, ef⟩ := Option.isSome_iff_exists.mp hk
    obtain ⟨vs, r, d⟩ := dictOf_flat I ob hf
    refine wpAny_notIn_of (rk.flat ef ry) sm d.mapOf ?_
    have e : (dget kvs k).isSome = (valueAt vs f).isSome := by
      rcases paired_find (a := fun p => decide (p.1 = k)) (b := fun q => decide (q.1 = f)) (fun p q r => by
        have : p.1 = k ↔ q.1 = f := ⟨fun e => by subst e; exact Option.some.inj (r.1.symm.trans ef), fun e => fk_inj (e ▸ r.1) ef⟩
        simp [this]) r with ⟨e1, e2⟩ | ⟨p, q, e1, e2, _⟩
      · simp [dget, valueAt, e1, e2]
      · simp [dget, valueAt, e1, e2]
    rw [← e]
    exact h _ (I.tok _)
  · obtain ⟨n, en⟩ := Option.isSome_iff_exists.mp hk
    obtain ⟨b, rfl⟩ := rk.tkRef en
    cases (show u = Value.ref b from ry)
    obtain ⟨xs, r, d⟩ := dictOf_tup I ob hf
    refine wpAny_notIn_heap (knd := nestedKind X.prog X.w) (by show A.units + 1 + 8 < cLine; omega) (RV.isKey I rk en) sm d ?_
    have e : (dget kvs k).isSome = (atKey xs n).isSome := by
      rcases paired_find (a := fun p => decide (p.1 = k)) (b := fun q => decide (q.1 = n)) (fun p q r => by
        have : p.1 = k ↔ q.1 = n := ⟨fun e => by subst e; exact Option.some.inj (r.1.symm.trans en), fun e => tk_inj (e ▸ r.1) en⟩
        simp [this]) r with ⟨e1, e2⟩ | ⟨p, q, e1, e2, _⟩
      · simp [dget, atKey, e1, e2]
      · simp [dget, atKey, e1, e2]
    rw [← e]
    exact h _ (I.tok _)
theorem dm_getItem (hu : A.units + 10 < cLine) (I : Inv X pins σ H s) (rp : Rep X.w X.K al H μ) {i : Nat} {a : Addr} {kvs : List (D × D)} {lk : Bool} (ha : al[i]? = some a) (hi : μ[i]? = some (.dict kvs lk)) {k d : D} {y : V} {u : Value} (rk : RV X.K al H k y) (ry : RelV y u)
    (g : dget kvs k = some d) {Q : Value → Shared → Prop} (h : ∀ s' w' v, Inv X pins σ H s' → RelV v w' → RV X.K al H d v → Q w' s') : wpAny (model X.prog X.w) A (getItem (.ref a) u) Q E s := by
  have ob := rp.of ha hi
  obtain ⟨sm, _, _, hh, _⟩ := id ob
  rcases dget_keyOk hh g with ⟨hk, hf⟩ | ⟨hk, hf⟩
  · obtain ⟨f, ef⟩ := Option.isSome_iff_exists.mp hk
    obtain ⟨vs, r, dd⟩ := dictOf_flat I ob hf
    rcases paired_find (a := fun p => decide (p.1 = k)) (b := fun q => decide (q.1 = f)) (fun p q r => by
        have : p.1 = k ↔ q.1 = f := ⟨fun e => by subst e; exact Option.some.inj (r.1.symm.trans ef), fun e => fk_inj (e ▸ r.1) ef⟩
        simp [this]) r with ⟨e1, e2⟩ | ⟨p, q, e1, e2, r'⟩
    · simp [dget, e1] at g
    · obtain ⟨_, v, rv, rd⟩ := r'
      have : p.2 = d := by simpa [dget, e1] using g
      subst this
      exact wpAny_getItem_of (rk.flat ef ry) dd.mapOf (v := q.2) (by simp [valueAt, e2]) (h _ _ _ (I.tok _) rv rd)
  · obtain ⟨n, en⟩ := Option.isSome_iff_exists.mp hk
    obtain ⟨b, rfl⟩ := rk.tkRef en
    cases (show u = Value.ref b from ry)
    obtain ⟨xs, r, dd⟩ := dictOf_tup I ob hf
    rcases paired_find (a := fun p => decide (p.1 = k)) (b := fun q => decide (q.1 = n)) (fun p q r => by
        have : p.1 = k ↔ q.1 = n := ⟨fun e => by subst e; exact Option.some.inj (r.1.symm.trans en), fun e => tk_inj (e ▸ r.1) en⟩
        simp [this]) r with ⟨e1, e2⟩ | ⟨p, q, e1, e2, r'⟩
    · simp [dget, e1] at g
    · obtain ⟨_, _, v, rv, rd⟩ := r'
      have : p.2 = d := by simpa [dget, e1] using g
      subst this
      exact wpAny_getItem_heap (knd := nestedKind X.prog X.w) (p := q.2) (by show A.units + 1 + 8 < cLine; omega) (RV.isKey I rk en) dd (by simp [atKey, e2]) (h _ _ _ (I.tok _) rv rd)
theorem fv_put {K : PySem.W.Frag} {kvs : List (D × D)} {vs : List (Key × Value)} {k d : D} {f : Key} {v : V} {w' : Value} (r : Paired (FV K al H) kvs vs) (ef : fk k = some f) (rv : RelV v w') (rd : RV K al H d v) : Paired (FV K al H) (dput kvs k d) (stored vs f w') := by
  have hab : ∀ p q, FV K al H p q → decide (p.1 = k) = decide (q.1 = f) := fun p q r => by
    have : p.1 = k ↔ q.1 = f := ⟨fun e => by subst e; exact Option.some.inj (r.1.symm.trans ef), fun e => fk_inj (e ▸ r.1) ef⟩
    simp [this]
  unfold dput stored
  have ea : (kvs.any fun p => decide (p.1 = k)) = (vs.any fun q => decide (q.1 = f)) := paired_any (fun p q h => hab p q h) r
  rw [ea]
  by_cases hb : (vs.any fun q => decide (q.1 = f)) = true
  · rw [if_pos hb, if_pos hb]
    refine paired_map (fun p q h => ?_) r
    have e := hab p q h
    by_cases hp : p.1 = k
    · have hq : q.1 = f := by simpa [hp] using e
      rw [if_pos hp, if_pos hq]
      exact ⟨h.1, v, rv, rd⟩
    · have hq : ¬ q.1 = f := by simpa [hp] using e
      rw [if_neg hp, if_neg hq]
      exact h
  · rw [if_neg hb, if_neg hb]
    exact paired_append r (.cons ⟨ef, v, rv, rd⟩ .nil)
theorem tv_put {K : PySem.W.Frag} {kvs : List (D × D)} {xs : List (NestedKey × Addr × Value)} {k d : D} {n : NestedKey} {b : Addr} {v : V} {w' : Value} (r : Paired (TVx K al H) kvs xs) (en : tk k = some n) (rk : RV K al H k (.ref b)) (rv : RelV v w') (rd : RV K al H d v) :
    Paired (TVx K al H) (dput kvs k d) (storedH xs n b w') := by
  have hab : ∀ p q, TVx K al H p q → decide (p.1 = k) = decide (q.1 = n) := fun p q r => by
    have : p.1 = k ↔ q.1 = n := ⟨fun e => by subst e; exact Option.some.inj (r.1.symm.trans en), fun e => tk_inj (e ▸ r.1) en⟩
    simp [this]
  unfold dput storedH
  have ea : (kvs.any fun p => decide (p.1 = k)) = (xs.any fun q => decide (q.1 = n)) := paired_any (fun p q h => hab p q h) r
  have eb : (xs.any fun q => decide (q.1 = n)) = (atKey xs n).isSome := by
    unfold atKey
    rw [Option.isSome_map, Bool.eq_iff_iff, List.find?_isSome, List.any_eq_true]
  rw [ea, eb]
  by_cases hb : (atKey xs n).isSome = true
  · rw [if_pos hb, if_pos hb]
    refine paired_map (fun p q h => ?_) r
    have e := hab p q h
    unfold putAt
    by_cases hp : p.1 = k
    · have hq : q.1 = n := by simpa [hp] using e
      rw [if_pos hp, if_pos hq]
      exact ⟨h.1, h.2.1, v, rv, rd⟩
    · have hq : ¬ q.1 = n := by simpa [hp] using e
      rw [if_neg hp, if_neg hq]
      exact h
  · rw [if_neg hb, if_neg hb]
    exact paired_append r (.cons ⟨en, rk, v, rv, rd⟩ .nil)
end
end MM
namespace MM
open PySem PySem.Spec PyProof.Rows L2

section
variable {X : Cx}
theorem opr_in (hu : X.A.units + 70 < cLine) : OpR X (compareOp .In) (rM2 X.w X.K opIn) := by
  intro pins s σ H x y v u Q I rx ry h
  obtain ⟨al, μ, k, c, rp, r1, r2, g⟩ := h
  unfold opIn at g
  split at g
  · rename_i b hb
    have fl : ∀ {ys : List D} {p : Addr} {ws : List V}, inFlat k ys = some b → RVs X.K al H ys ws → y = .ref p → (SqL X.K H p ws ∨ SqT X.K H p ws) → wpAny (model X.prog X.w) X.A (compareOp .In v u) (EP X pins σ Q) X.xe s := by
      intro ys p ws hf r ey hs
      unfold inFlat at hf
      split at hf
      · rename_i hc
        cases hf
        refine op_in_seq pins s σ H _ _ v u Q I rx ry ⟨p, ws, ey, hs, flat_of r1 hc.1, flats_of r hc.2, ?_⟩
        rw [if_neg Bool.false_ne_true, anyF_of r1 hc.1 r hc.2]
        exact g.ok rp (.bl _)
      · cases hf
    unfold inD at hb
    split at hb
    · split at hb
      · cases hb
        cases r1; cases r2
        exact op_in_str pins s σ H _ _ v u Q I rx ry ⟨_, _, rfl, rfl, g.ok rp (.bl _)⟩
      · cases hb
    · cases r2 with
      | tup hs hr => exact fl hb hr rfl (.inr hs)
    · cases r2 with
      | frl hs hr => exact fl hb hr rfl (.inl hs.seq)
    · rename_i j
      cases r2 with
      | @ref _ p hp =>
        split at hb
        · rename_i ys hy
          obtain ⟨ws, h1, h2⟩ := rp.of hp hy
          cases hf : inFlat k ys with
          | some b' =>
            rw [hf] at hb
            have : b' = b := Option.some.inj hb
            subst this
            exact fl hf h2 rfl (.inl (SqL.of h1))
          | none =>
            rw [hf] at hb
            have hb : inData k (.ref j) μ = some b := hb
            unfold inData at hb
            split at hb
            · rename_i a bs ea eb
              split at hb
              · rename_i hs
                cases hb
                exact op_inD (by omega) pins s σ H _ _ v u Q I rx ry ⟨a, bs, dp_of rp _ _ _ _ ea r1, dp_of rp _ _ _ _ eb (.ref hp), hs.1, hs.2, g.ok rp (.bl _)⟩
              · cases hb
            · cases hb
        · rename_i kvs lk hy
          split at hb
          · rename_i ok
            cases hb
            cases (show u = Value.ref p from ry)
            exact dm_in (by omega) I rp hp hy r1 rx ok fun s' I' => ⟨.bl _, H, I', rfl, g.ok rp (.bl _)⟩
          · cases hb
        · cases hb
    · cases hb
  · exact g.elim
theorem opr_notIn (hu : X.A.units + 70 < cLine) : OpR X (compareOp .NotIn) (rM2 X.w X.K opNotIn) := by
  intro pins s σ H x y v u Q I rx ry h
  obtain ⟨al, μ, k, c, rp, r1, r2, g⟩ := h
  unfold opNotIn at g
  split at g
  · rename_i b hb
    have fl : ∀ {ys : List D} {p : Addr} {ws : List V}, inFlat k ys = some b → RVs X.K al H ys ws → y = .ref p → (SqL X.K H p ws ∨ SqT X.K H p ws) → wpAny (model X.prog X.w) X.A (compareOp .NotIn v u) (EP X pins σ Q) X.xe s := by
      intro ys p ws hf r ey hs
      unfold inFlat at hf
      split at hf
      · rename_i hc
        cases hf
        refine op_notIn_seq pins s σ H _ _ v u Q I rx ry ⟨p, ws, ey, hs, flat_of r1 hc.1, flats_of r hc.2, ?_⟩
        rw [if_pos rfl, anyF_of r1 hc.1 r hc.2]
        exact g.ok rp (.bl _)
      · cases hf
    unfold inD at hb
    split at hb
    · split at hb
      · cases hb
        cases r1; cases r2
        exact op_notin_str pins s σ H _ _ v u Q I rx ry ⟨_, _, rfl, rfl, g.ok rp (.bl _)⟩
      · cases hb
    · cases r2 with
      | tup hs hr => exact fl hb hr rfl (.inr hs)
    · cases r2 with
      | frl hs hr => exact fl hb hr rfl (.inl hs.seq)
    · rename_i j
      cases r2 with
      | @ref _ p hp =>
        split at hb
        · rename_i ys hy
          obtain ⟨ws, h1, h2⟩ := rp.of hp hy
          cases hf : inFlat k ys with
          | some b' =>
            rw [hf] at hb
            have : b' = b := Option.some.inj hb
            subst this
            exact fl hf h2 rfl (.inl (SqL.of h1))
          | none =>
            rw [hf] at hb
            have hb : inData k (.ref j) μ = some b := hb
            unfold inData at hb
            split at hb
            · rename_i a bs ea eb
              split at hb
              · rename_i hs
                cases hb
                exact op_notInD (by omega) pins s σ H _ _ v u Q I rx ry ⟨a, bs, dp_of rp _ _ _ _ ea r1, dp_of rp _ _ _ _ eb (.ref hp), hs.1, hs.2, g.ok rp (.bl _)⟩
              · cases hb
            · cases hb
        · rename_i kvs lk hy
          split at hb
          · rename_i ok
            cases hb
            cases (show u = Value.ref p from ry)
            exact dm_notIn (by omega) I rp hp hy r1 rx ok fun s' I' => ⟨.bl _, H, I', rfl, g.ok rp (.bl _)⟩
          · cases hb
        · cases hb
    · cases hb
  · exact g.elim
end

/-! ### o[i] -/
def seqIx (xs : List D) (i : D) (μ : MH) : Out D := match i with
  | .int n => match atI xs n with
    | some v => .ok v μ
    | none => .bad
  | _ => .bad
def opIx (o i : D) (μ : MH) : Out D := match o with
  | .tup xs => seqIx xs i μ
  | .frl xs => seqIx xs i μ
  | .str z => match i with
    | .int n => if z.length ≤ sizeLine then (match atI z.cps.toList n with
      | some c => .ok (.str ⟨#[c]⟩) μ
      | none => .bad) else .bad
    | _ => .bad
  | .ref j => match μ[j]? with
    | some (.lst xs) => seqIx xs i μ
    | some (.dict kvs _) => match dget kvs i with
      | some d => .ok d μ
      | none => .bad
    | _ => .bad
  | _ => .bad
theorem mild_seqIx (xs : List D) (i : D) (μ : MH) (C : Str) (fs) (μ' : MH) : seqIx xs i μ ≠ .exc C fs μ' := fun h => by
  unfold seqIx at h
  split at h
  · split at h <;> cases h
  · cases h
theorem mild2_ix : Mild2 opIx := fun o i μ C fs μ' h => by
  unfold opIx at h
  split at h
  · exact mild_seqIx _ _ _ _ _ _ h
  · exact mild_seqIx _ _ _ _ _ _ h
  · split at h
    · split at h
      · split at h <;> cases h
      · cases h
    · cases h
  · split at h
    · exact mild_seqIx _ _ _ _ _ _ h
    · split at h <;> cases h
    · cases h
  · cases h
section
variable {X : Cx} {pos : Pos}
theorem atI_rv {K : PySem.W.Frag} {al : List Addr} {H : Hp} {ds : List D} {vs : List V} {i : Int} {d : D} (r : RVs K al H ds vs) (h : atI ds i = some d) : ∃ v, atI vs i = some v ∧ RV K al H d v := by
  unfold atI at h ⊢
  rw [← r.length]
  obtain ⟨j, h1, h2⟩ := Option.bind_eq_some_iff.mp h
  obtain ⟨v, h3, h4⟩ := r.get h2
  exact ⟨v, by rw [h1]; exact h3, h4⟩
theorem ixr_ix (hu : X.A.units + 10 < cLine) : IxR X (rM2 X.w X.K opIx) := by
  intro value slice pins s σ H x y v u Q I rx ry h hs
  obtain ⟨al, μ, o, i, rp, r1, r2, g⟩ := h
  have sq : ∀ {xs : List D} {p : Addr} {ws : List V}, gV X.w X.K al H (fun _ _ _ => False) Q (seqIx xs i μ) → RVs X.K al H xs ws → x = .ref p → (SqL X.K H p ws ∨ SqT X.K H p ws) → wpAny (model X.prog X.w) X.A (subscriptTail value slice v u) (EP X pins σ Q) X.xe s := by
    intro xs p ws g r ex hq
    unfold seqIx at g
    split at g
    · split at g
      · rename_i d hd
        cases r2
        obtain ⟨w, h1, h2⟩ := atI_rv r hd
        rcases hq with hq | hq
        · exact ix_list value slice pins s σ H _ _ v u Q I rx ry ⟨p, ws, _, w, ex, rfl, hq, h1, g.ok rp h2⟩ hs
        · exact ix_tup value slice pins s σ H _ _ v u Q I rx ry ⟨p, ws, _, w, ex, rfl, hq, h1, g.ok rp h2⟩ hs
      · exact g.elim
    · exact g.elim
  unfold opIx at g
  split at g
  · cases r1 with
    | tup h1 h2 => exact sq g h2 rfl (.inr h1)
  · cases r1 with
    | frl h1 h2 => exact sq g h2 rfl (.inl h1.seq)
  · split at g
    · split at g
      · rename_i hz
        split at g
        · rename_i c hc
          cases r1; cases r2
          exact ix_str value slice pins s σ H _ _ v u Q I rx ry ⟨_, _, c, rfl, rfl, hz, hc, g.ok rp (.str _)⟩ hs
        · exact g.elim
      · exact g.elim
    · exact g.elim
  · cases r1 with
    | @ref j p hp =>
      split at g
      · rename_i xs hx
        obtain ⟨ws, h1, h2⟩ := rp.of hp hx
        exact sq g h2 rfl (.inl (SqL.of h1))
      · rename_i kvs lk hk
        split at g
        · rename_i d hd
          cases (show v = Value.ref p from rx)
          have ob := rp.of hp hk
          obtain ⟨_, _, _, _, es, he, _⟩ := id ob
          obtain ⟨od, ep, g1, g2, g3⟩ := inv_raw I he
          refine tail_any (T := "dict") ⟨od, g1, g2.1⟩ PySem.F.slot_dict_getitem.lookup ?_ hs
          exact dm_getItem hu I rp hp hk r2 ry hd fun s' w' v' I' rv rd => ⟨v', H, I', rv, g.ok rp rd⟩
        · exact g.elim
      · exact g.elim
  · exact g.elim
theorem pem_ix {a b : Expr} {ma mb : Mx} (hu : X.A.units + 10 < cLine) (ha : PEm X a ma) (hb : PEm X b mb) (hs : PlainIx b) : PEm X (.Subscript a b pos) (e2 opIx ma mb) :=
  fun W tk => PE.imp (pe_ix (ixr_ix hu) (ha W tk) (hb W tk) hs) fun σ H Q h => tM_e2 mild2_ix h
end

/-! ### o[lo:hi] -/
def cutD (xs : List D) (lo hi : Option Int) : List D := (xs.drop (HT.sIx xs.length 0 lo)).take (HT.sIx xs.length xs.length hi - HT.sIx xs.length 0 lo)
def opSl (o : D) (lo hi : Option Int) (μ : MH) : Out D := match o with
  | .tup xs => .ok (.tup (cutD xs lo hi)) μ
  | .frl xs => .ok (.ref μ.length) (μ ++ [.lst (cutD xs lo hi)])
  | .str z => if z.length ≤ sizeLine then .ok (.str (cutS z lo hi)) μ else .bad
  | .ref j => match μ[j]? with
    | some (.lst xs) => .ok (.ref μ.length) (μ ++ [.lst (cutD xs lo hi)])
    | _ => .bad
  | _ => .bad
abbrev Mp := MSt → MH → Out (Option Int)
def pNone : Mp := fun _ μ => .ok none μ
def pSome (a : Mx) : Mp := fun τ μ => (a τ μ).bind fun x μ => match x with
  | .int i => .ok (some i) μ
  | _ => .bad
def eSl (a : Mx) (l h : Mp) : Mx := fun τ μ => (a τ μ).bind fun x μ => (l τ μ).bind fun lo μ => (h τ μ).bind fun hi μ => opSl x lo hi μ
def tMO (w : World) (K : PySem.W.Frag) (W : WX) (m : Mp) : TO := fun σ H Q => ∃ al τ μ, SR K al H τ σ ∧ Rep w K al H μ ∧ gEnd w K al H (fun _ _ d v => d = v) (fun c d H' => W c d σ H') Q (m τ μ)
def POm (X : Cx) (e : Option Expr) (m : Mp) : Prop := ∀ W, Takes X W → PO X e (tMO X.w X.K W m)
section
variable {X : Cx} {pos p2 : Pos}
theorem PO.imp {e : Option Expr} {t t' : TO} (h : PO X e t) (i : ∀ σ H Q, t' σ H Q → t σ H Q) : PO X e t' := ⟨fun pins s σ H Q I q => h.run pins s σ H Q I (i σ H Q q)⟩
theorem pom_none : POm X none pNone := fun W tk => PO.imp po_none fun σ H Q ⟨al, τ, μ, sr, rp, g⟩ => g.ok rp rfl
theorem pom_some {e : Expr} {m : Mx} (h : PEm X e m) : POm X (some e) (pSome m) := fun W tk => PO.imp (po_some (h W tk)) fun σ H Q h => by
  obtain ⟨al, τ, μ, sr, rp, g⟩ := h
  refine ⟨al, τ, μ, sr, rp, gEnd.bind (k := fun x μ => match x with | .int i => .ok (some i) μ | _ => .bad) g fun d μ1 al1 H1 v e rp1 r g1 => ?_⟩
  cases r with
  | int i => exact ⟨i, rfl, g1.ok rp1 rfl⟩
  | _ => exact g1.elim
theorem cut_rv {K : PySem.W.Frag} {al : List Addr} {H : Hp} {ds : List D} {vs : List V} (lo hi : Option Int) (r : RVs K al H ds vs) : RVs K al H (cutD ds lo hi) (cutV vs lo hi) := by
  unfold cutD cutV
  rw [r.length]
  exact (r.drop _).take _
theorem pem_sl {a : Expr} {ma : Mx} {lo hi : Option Expr} {l h : Mp} (ha : PEm X a ma) (hl : POm X lo l) (hh : POm X hi h) : PEm X (.Subscript a (.Slice lo hi none p2) pos) (eSl ma l h) := fun W tk =>
  PE.imp (pe_slice (sl_str.or (sl_list.or sl_tupA)) (ha W tk) (hl W tk) (hh W tk)) fun σ H Q hq => by
    obtain ⟨al, τ, μ, sr, rp, g⟩ := hq
    refine ⟨al, τ, μ, sr, rp, gEnd.bind (k := fun x μ => (l τ μ).bind fun lo μ => (h τ μ).bind fun hi μ => opSl x lo hi μ) g fun d μ1 al1 H1 v e rp1 r g1 => ?_⟩
    refine ⟨al1, τ, μ1, sr.mono e, rp1, gEnd.bind (k := fun lo μ => (h τ μ).bind fun hi μ => opSl d lo hi μ) g1 fun lo' μ2 al2 H2 lo2 e2 rp2 r2 g2 => ?_⟩
    subst r2
    refine ⟨al2, τ, μ2, (sr.mono e).mono e2, rp2, gEnd.bind (k := fun hi μ => opSl d lo' hi μ) g2 fun hi' μ3 al3 H3 hi2 e3 rp3 r3 g3 => ?_⟩
    subst r3
    have r' := (r.mono e2).mono e3
    unfold opSl at g3
    split at g3
    · rename_i xs
      cases r' with
      | @tup p _ vs hs hr =>
        refine .inr (.inr ⟨p, vs, rfl, hs, fun hw => ?_, fun hw q hq => ?_⟩)
        · have e0 : cutD xs lo' hi' = xs := by
            unfold cutD
            rw [hr.length, hw.1, hw.2]
            simp [← hr.length]
          rw [e0] at g3
          exact g3.ok rp3 (.tup hs hr)
        · exact g3.ok' (Ext.tup1 hq _) (rp3.tup1 hq _) (.newTup hq (cut_rv lo' hi' hr))
    · cases r' with
      | @frl p _ vs hs hr => exact .inr (.inl ⟨p, vs, rfl, hs.seq, fun q hq => gV.newL g3 rp3 (cut_rv lo' hi' hr) hq⟩)
    · split at g3
      · rename_i hz
        cases r'
        exact .inl ⟨_, rfl, hz, g3.ok rp3 (.str _)⟩
      · exact g3.elim
    · cases r' with
      | @ref j p hp =>
        split at g3
        · rename_i xs hx
          obtain ⟨vs, h1, h2⟩ := rp3.of hp hx
          exact .inr (.inl ⟨p, vs, rfl, SqL.of h1, fun q hq => gV.newL g3 rp3 (cut_rv lo' hi' h2) hq⟩)
        · exact g3.elim
    · exact g3.elim
end

/-! ### built-in functions -/
section
variable {X : Cx}
/-- a call of a built-in by values -/
abbrev CallM (X : Cx) (f : Value) (g : Fn) : Prop := CallR X f (rMN X.w X.K g)
theorem tM_eN {f : Fn} (hf : MildN f) {ma : Ma} {W : WX} {σ : L2.St} {H : Hp} {Q : VK} (h : tM X.w X.K W (eN f ma) σ H Q) : tCB (rMN X.w X.K f) (tMA X.w X.K W ma) σ H Q := by
  obtain ⟨al, τ, μ, sr, rp, g⟩ := h
  exact ⟨al, τ, μ, sr, rp, gEnd.bind (k := f) g fun d μ1 al1 H1 v e rp1 r g1 => ⟨al1, μ1, d, rp1, r, g1.mild (hf d μ1)⟩⟩
theorem pem_callB {f : Fn} {id : String} {x : Str} {p pos : Pos} {e : Expr} {es : List Expr} {ma : Ma} (hf : MildN f) (hc : CallM X (.builtin id) f) (hg : Gl X x) (hm : X.mg x = none) (hv : bootBuiltins x = some (.builtin id)) (ha : PAm X (e :: es) ma)
    (hs : (e :: es).all notStar = true) (hn : x ≠ "__name__") (hdb : (x == ("__debug__" : Str)) = false) : PEm X (.Call (.Name x p) (e :: es) [] pos) (eN f ma) := fun W tk => by
  simp only [List.all_cons, Bool.and_eq_true] at hs
  exact PE.imp (pe_callB hc hg hm hv (ha W tk) hn hdb (starEach_cons hs.1) (star_plain _ _ _ hs.2)) fun σ H Q h => tM_eN hf h
theorem pem_callTy {f : Fn} {id : String} {x : Str} {p pos : Pos} {e : Expr} {es : List Expr} {ma : Ma} (hf : MildN f) (hc : CallM X (.type id) f) (hg : Gl X x) (hm : X.mg x = none) (hv : bootBuiltins x = some (.type id)) (ha : PAm X (e :: es) ma)
    (hs : (e :: es).all notStar = true) (hn : x ≠ "__name__") (hdb : (x == ("__debug__" : Str)) = false) : PEm X (.Call (.Name x p) (e :: es) [] pos) (eN f ma) := fun W tk => by
  simp only [List.all_cons, Bool.and_eq_true] at hs
  exact PE.imp (pe_callTy hc hg hm hv (ha W tk) hn hdb (starEach_cons hs.1) (star_plain _ _ _ hs.2)) fun σ H Q h => tM_eN hf h
end
def seqOf (d : D) (μ : MH) : Option (List D) := match d with
  | .tup xs => some xs
  | .frl xs => some xs
  | .ref j => match μ[j]? with
    | some (.lst xs) => some xs
    | _ => none
  | _ => none
def fLen : Fn := fun ds μ => match ds with
  | [d] => match seqOf d μ with
    | some xs => .ok (.int xs.length) μ
    | none => match d with
      | .str z => if z.length ≤ sizeLine then .ok (.int z.length) μ else .bad
      | .ref j => match μ[j]? with
        | some (.dict kvs _) => .ok (.int kvs.length) μ
        | _ => .bad
      | _ => .bad
  | _ => .bad
def fList : Fn := fun ds μ => match ds with
  | [d] => match seqOf d μ with
    | some xs => .ok (.ref μ.length) (μ ++ [.lst xs])
    | none => .bad
  | _ => .bad
def fTuple : Fn := fun ds μ => match ds with
  | [d] => match seqOf d μ with
    | some xs => .ok (.tup xs) μ
    | none => .bad
  | _ => .bad
def fInt : Fn := fun ds μ => match ds with
  | [.int i] => .ok (.int i) μ
  | [.bl b] => .ok (.int (if b then 1 else 0)) μ
  | _ => .bad
def fStr : Fn := fun ds μ => match ds with
  | [.int i] => if i.natAbs.log2 < 1920 then .ok (.str (toString i)) μ else .bad
  | _ => .bad
def fMax : Fn := fun ds μ => match ds with
  | [.int i, .int j] => .ok (.int (if j > i then j else i)) μ
  | _ => .bad
def fMin : Fn := fun ds μ => match ds with
  | [.int i, .int j] => .ok (.int (if j < i then j else i)) μ
  | _ => .bad
theorem mildN_len : MildN fLen := fun ds μ C fs μ' h => by
  unfold fLen at h
  split at h
  · split at h
    · cases h
    · split at h
      · split at h <;> cases h
      · split at h <;> cases h
      · cases h
  · cases h
theorem mildN_list : MildN fList := fun ds μ C fs μ' h => by
  unfold fList at h
  split at h
  · split at h <;> cases h
  · cases h
theorem mildN_tuple : MildN fTuple := fun ds μ C fs μ' h => by
  unfold fTuple at h
  split at h
  · split at h <;> cases h
  · cases h
theorem mildN_int : MildN fInt := fun ds μ C fs μ' h => by unfold fInt at h; split at h <;> cases h
theorem mildN_str : MildN fStr := fun ds μ C fs μ' h => by
  unfold fStr at h
  split at h
  · split at h <;> cases h
  · cases h
theorem mildN_max : MildN fMax := fun ds μ C fs μ' h => by unfold fMax at h; split at h <;> cases h
theorem mildN_min : MildN fMin := fun ds μ C fs μ' h => by unfold fMin at h; split at h <;> cases h
section
variable {X : Cx}
theorem RVs.one {K : PySem.W.Frag} {al : List Addr} {H : Hp} {d : D} {vs : List V} (r : RVs K al H [d] vs) : ∃ v, vs = [v] ∧ RV K al H d v := by
  cases r with
  | cons a b => cases b; exact ⟨_, rfl, a⟩
theorem RVs.two {K : PySem.W.Frag} {al : List Addr} {H : Hp} {d e : D} {vs : List V} (r : RVs K al H [d, e] vs) : ∃ v u, vs = [v, u] ∧ RV K al H d v ∧ RV K al H e u := by
  cases r with
  | cons a b =>
    obtain ⟨u, rfl, h⟩ := b.one
    exact ⟨_, u, rfl, a, h⟩
theorem seqOf_rv {w : World} {K : PySem.W.Frag} {al : List Addr} {H : Hp} {μ : MH} {d : D} {v : V} {xs : List D} (rp : Rep w K al H μ) (r : RV K al H d v) (h : seqOf d μ = some xs) : ∃ p vs, v = .ref p ∧ (SqL K H p vs ∨ SqT K H p vs) ∧ RVs K al H xs vs ∧ ((∃ ys, d = .tup ys) → SqT K H p vs) ∧ ((¬ ∃ ys, d = .tup ys) → SqL K H p vs) := by
  unfold seqOf at h
  split at h
  · cases h
    cases r with
    | tup hs hr => exact ⟨_, _, rfl, .inr hs, hr, fun _ => hs, fun n => (n ⟨_, rfl⟩).elim⟩
  · cases h
    cases r with
    | frl hs hr => exact ⟨_, _, rfl, .inl hs.seq, hr, fun ⟨_, n⟩ => (nomatch n), fun _ => hs.seq⟩
  · cases r with
    | ref hp =>
      split at h
      · rename_i hx
        cases h
        obtain ⟨vs, h1, h2⟩ := rp.of hp hx
        exact ⟨_, _, rfl, .inl (SqL.of h1), h2, fun ⟨_, n⟩ => (nomatch n), fun _ => SqL.of h1⟩
      · cases h
  · cases h
theorem cm_len : CallM X (.builtin "len") fLen := by
  intro pins s σ H xs us Q I r h
  obtain ⟨al, μ, ds, rp, rs, g⟩ := h
  unfold fLen at g
  split at g
  · rename_i d
    obtain ⟨v, rfl, rd⟩ := rs.one
    split at g
    · rename_i ys hy
      obtain ⟨p, vs, rfl, hq, hr, _⟩ := seqOf_rv rp rd hy
      exact call_len_seq pins s σ H _ us Q I r ⟨p, vs, rfl, hq, by rw [← hr.length]; exact g.ok rp (.int _)⟩
    · split at g
      · split at g
        · rename_i hz
          cases rd
          exact call_len_str pins s σ H _ us Q I r ⟨_, rfl, hz, g.ok rp (.int _)⟩
        · exact g.elim
      · cases rd with
        | @ref j p hp =>
          split at g
          · rename_i kvs lk hk
            obtain ⟨u, rfl, ru⟩ := vals1 r
            cases (show u = Value.ref p from ru)
            have ob := rp.of hp hk
            obtain ⟨sm, hl, _, hh, _⟩ := id ob
            rw [sizeLine_eq] at hl
            rcases hh with hf | hf
            · obtain ⟨vs, rr, dd⟩ := dictOf_flat I ob hf
              have e := PySem.Paired.length rr
              refine call_len_dict sm dd (by omega) ?_
              rw [← e]
              exact ⟨.int kvs.length, H, I.tok _, ⟨_, rfl⟩, g.ok rp (.int _)⟩
            · obtain ⟨xs, rr, dd⟩ := dictOf_tup I ob hf
              have e := PySem.Paired.length rr
              have dk : s.heap.DictKeyed (nestedKind X.prog X.w) p (pairsH xs) := ⟨xs, dd, rfl⟩
              refine PyProof.Rows.call_len_slot (n := kvs.length) dk.typeIs F.slot_dict_len (fun Q' hq => len_keyed sm dk (by rw [pairsH_length, ← e]; exact hq)) (by omega) (by omega) ?_
              exact ⟨.int kvs.length, H, I.tok _, ⟨_, rfl⟩, g.ok rp (.int _)⟩
          · exact g.elim
      · exact g.elim
  · exact g.elim
theorem cm_list : CallM X (.type "list") fList := by
  intro pins s σ H xs us Q I r h
  obtain ⟨al, μ, ds, rp, rs, g⟩ := h
  unfold fList at g
  split at g
  · obtain ⟨v, rfl, rd⟩ := rs.one
    split at g
    · rename_i ys hy
      obtain ⟨p, vs, rfl, hq, hr, _⟩ := seqOf_rv rp rd hy
      exact call_list_of pins s σ H _ us Q I r ⟨p, vs, rfl, hq, fun l hl => gV.newL g rp hr hl⟩
    · exact g.elim
  · exact g.elim
theorem cm_tuple : CallM X (.type "tuple") fTuple := by
  intro pins s σ H xs us Q I r h
  obtain ⟨al, μ, ds, rp, rs, g⟩ := h
  unfold fTuple at g
  split at g
  · rename_i d
    obtain ⟨v, rfl, rd⟩ := rs.one
    split at g
    · rename_i ys hy
      obtain ⟨p, vs, rfl, hq, hr, ht, hl⟩ := seqOf_rv rp rd hy
      by_cases c : ∃ ys, d = .tup ys
      · refine call_tuple_of pins s σ H _ us Q I r ⟨p, vs, rfl, .inr ⟨ht c, ?_⟩⟩
        exact g.ok rp (.tup (ht c) hr)
      · exact call_tuple_of pins s σ H _ us Q I r ⟨p, vs, rfl, .inl ⟨hl c, fun l h0 => g.ok' (Ext.tup1 h0 _) (rp.tup1 h0 _) (.newTup h0 hr)⟩⟩
    · exact g.elim
  · exact g.elim
theorem cm_int : CallM X (.type "int") fInt := by
  intro pins s σ H xs us Q I r h
  obtain ⟨al, μ, ds, rp, rs, g⟩ := h
  unfold fInt at g
  split at g
  · obtain ⟨v, rfl, rd⟩ := rs.one
    cases rd
    exact call_int1 pins s σ H _ us Q I r (.inl ⟨_, rfl, g.ok rp (.int _)⟩)
  · obtain ⟨v, rfl, rd⟩ := rs.one
    cases rd
    exact call_int1 pins s σ H _ us Q I r (.inr ⟨_, rfl, g.ok rp (.int _)⟩)
  · exact g.elim
theorem cm_str : CallM X (.type "str") fStr := by
  intro pins s σ H xs us Q I r h
  obtain ⟨al, μ, ds, rp, rs, g⟩ := h
  unfold fStr at g
  split at g
  · split at g
    · rename_i hz
      obtain ⟨v, rfl, rd⟩ := rs.one
      cases rd
      exact call_str_int pins s σ H _ us Q I r ⟨_, rfl, hz, g.ok rp (.str _)⟩
    · exact g.elim
  · exact g.elim
theorem cm_max (hc : X.calm = true) : CallM X (.builtin "max") fMax := by
  intro pins s σ H xs us Q I r h
  obtain ⟨al, μ, ds, rp, rs, g⟩ := h
  unfold fMax at g
  split at g
  · obtain ⟨v, u, rfl, r1, r2⟩ := rs.two
    cases r1; cases r2
    exact call_max2 hc pins s σ H _ us Q I r ⟨_, _, rfl, g.ok rp (.int _)⟩
  · exact g.elim
theorem cm_min (hc : X.calm = true) : CallM X (.builtin "min") fMin := by
  intro pins s σ H xs us Q I r h
  obtain ⟨al, μ, ds, rp, rs, g⟩ := h
  unfold fMin at g
  split at g
  · obtain ⟨v, u, rfl, r1, r2⟩ := rs.two
    cases r1; cases r2
    exact call_min2 hc pins s σ H _ us Q I r ⟨_, _, rfl, g.ok rp (.int _)⟩
  · exact g.elim
end
end MM
namespace MM
open PySem PySem.Spec PyProof.Rows L2

/-! ### kinds -/
inductive Ty where
  | none | bool | int | str | list | tuple | dict
  deriving DecidableEq
def Ty.name : Ty → String
  | .none => "NoneType" | .bool => "bool" | .int => "int" | .str => "str" | .list => "list" | .tuple => "tuple" | .dict => "dict"
def tyD (d : D) (μ : MH) : Option Ty := match d with
  | .non => some .none
  | .bl _ => some .bool
  | .int _ => some .int
  | .str _ => some .str
  | .tup _ => some .tuple
  | .frl _ => some .list
  | .ref i => match μ[i]? with
    | some (.lst _) => some .list
    | some (.dict _ _) => some .dict
    | _ => Option.none
def subTy (t T : Ty) : Bool := decide (t = T) || (decide (t = .bool) && decide (T = .int))
theorem kit_sub : ∀ t T : Ty, T ≠ .none → kitB t.name T.name = some (subTy t T) := by
  intro t T h
  cases T <;> first | exact absurd rfl h | (cases t <;> decide +kernel)
/-- isinstance(x, T) -/
def opIsi (T : Ty) (d : D) (μ : MH) : Out D := match tyD d μ with
  | some t => .ok (.bl (subTy t T)) μ
  | Option.none => .bad
theorem mild1_isi (T : Ty) : Mild1 (opIsi T) := fun d μ C fs μ' h => by unfold opIsi at h; split at h <;> cases h
section
variable {X : Cx} {pins : List (Addr × Obj)} {σ : L2.St} {H : Hp} {s : Shared} {al : List Addr} {μ : MH}
theorem kit_d (I : Inv X pins σ H s) (rp : Rep X.w X.K al H μ) {d : D} {v : V} {u : Value} {t : Ty} (r : RV X.K al H d v) (ru : RelV v u) (h : tyD d μ = some t) :
    ∃ P : Heap → Prop, PySem.W.KitX X.K u (.type t.name) P ∧ P s.heap ∧ u ≠ .builtin "__main__.__loader__#opaque" := by
  cases r with
  | non => cases h; cases ru; exact ⟨_, PySem.W.kitx_none, True.intro, fun z => nomatch z⟩
  | bl b => cases h; cases ru; exact ⟨_, PySem.W.kitx_bool, True.intro, fun z => nomatch z⟩
  | int b => cases h; obtain ⟨t, rfl⟩ := ru; exact ⟨_, PySem.W.kitx_int, True.intro, fun z => nomatch z⟩
  | str b => cases h; obtain ⟨t, rfl⟩ := ru; exact ⟨_, PySem.W.kitx_str, True.intro, fun z => nomatch z⟩
  | @tup p xs vs hs hr =>
    cases h
    cases (show u = Value.ref p from ru)
    obtain ⟨its, rv, ⟨o, h1, h2, _⟩, _⟩ := I.tuple hs
    exact ⟨_, PySem.W.kitx_tuple, ⟨o, h1, h2⟩, fun z => nomatch z⟩
  | @frl p xs vs hs hr =>
    cases h
    cases (show u = Value.ref p from ru)
    obtain ⟨its, rv, ⟨o, n, h1, h2, _⟩, _⟩ := I.list hs.seq
    exact ⟨_, PySem.W.kitx_list, ⟨o, h1, h2⟩, fun z => nomatch z⟩
  | @ref i p hp =>
    cases (show u = Value.ref p from ru)
    have h' : (match μ[i]? with | some (.lst _) => some Ty.list | some (.dict _ _) => some Ty.dict | _ => Option.none) = some t := h
    split at h'
    · rename_i xs hx
      cases h'
      obtain ⟨vs, h1, h2⟩ := rp.of hp hx
      obtain ⟨its, rv, ⟨o, n, g1, g2, _⟩, _⟩ := I.list (SqL.of h1)
      exact ⟨_, PySem.W.kitx_list, ⟨o, g1, g2⟩, fun z => nomatch z⟩
    · rename_i kvs lk hx
      cases h'
      obtain ⟨_, _, _, _, es, he, _⟩ := rp.of hp hx
      obtain ⟨o, ep, g1, g2, _⟩ := inv_raw I he
      exact ⟨_, PySem.W.kitx_dict, ⟨o, g1, g2.1⟩, fun z => nomatch z⟩
    · cases h'
def rIsiM (w : World) (K : PySem.W.Frag) (T : Ty) : List V → Hp → VK → Prop := fun xs H Q => ∃ x, xs = [x, .ty T.name] ∧ rM1 w K (opIsi T) x H Q
theorem cm_isi {T : Ty} (hT : T ≠ .none) : CallR X (.builtin "isinstance") (rIsiM X.w X.K T) := by
  intro pins s σ H xs us Q I r h
  obtain ⟨x, rfl, al, μ, d, rp, rd, g⟩ := h
  unfold opIsi at g
  split at g
  · rename_i t ht
    obtain ⟨u1, u2, rfl, r1, r2⟩ := vals2 r
    obtain rfl : u2 = Value.type T.name := r2
    obtain ⟨P, Z, p, hx⟩ := kit_d I rp rd r1 ht
    exact PySem.W.kia_one Z I.kIn p (kit_ty (kit_sub t T hT)) hx fun tk => ⟨.bl _, H, I.tok tk, rfl, g.ok rp (.bl _)⟩
  · exact g.elim
theorem pem_isi {T : Ty} (hT : T ≠ .none) {x y : Str} {p p2 pos : Pos} {e : Expr} {m : Mx} (hg : Gl X x) (hm : X.mg x = none) (hv : bootBuiltins x = some (.builtin "isinstance")) (hg2 : Gl X y) (hm2 : X.mg y = none) (hv2 : bootBuiltins y = some (.type T.name))
    (he : PEm X e m) (hs : notStar e = true) (hn : x ≠ "__name__") (hdb : (x == ("__debug__" : Str)) = false) (hn2 : y ≠ "__name__") (hdb2 : (y == ("__debug__" : Str)) = false) : PEm X (.Call (.Name x p) [e, .Name y p2] [] pos) (e1 (opIsi T) m) := fun W tk => by
  refine PE.imp (pe_callB (cm_isi hT) hg hm hv (pa_cons (he W tk) (pa_cons (pe_bltn (v := .ty T.name) hg2 hm2 hv2 rfl hn2 hdb2) pa_nil rfl) (starEach_cons hs)) hn hdb (starEach_cons hs) rfl) fun σ H Q h => ?_
  obtain ⟨al, τ, μ, sr, rp, g⟩ := h
  exact ⟨al, τ, μ, sr, rp, gEnd.bind (k := opIsi T) g fun d μ1 al1 H1 v e rp1 r g1 => ⟨v, rfl, al1, μ1, d, rp1, r, g1.mild (mild1_isi T d μ1)⟩⟩
end

/-! ### list(range(..)) -/
instance : ∀ a b, Decidable (RgOk a b) := fun a b => by unfold RgOk; infer_instance
def rgD (a b : Int) : List D := (List.range (b - a).toNat).map fun i => D.int (a + (i : Nat))
def opRg1 (x : D) (μ : MH) : Out D := match x with
  | .int n => if RgOk 0 n then .ok (.ref μ.length) (μ ++ [.lst (rgD 0 n)]) else .bad
  | _ => .bad
def opRg2 (x y : D) (μ : MH) : Out D := match x, y with
  | .int m, .int n => if RgOk m n then .ok (.ref μ.length) (μ ++ [.lst (rgD m n)]) else .bad
  | _, _ => .bad
section
variable {X : Cx} {p p2 pos pos2 : Pos}
theorem rg_rv {K : PySem.W.Frag} {al : List Addr} {H : Hp} (a b : Int) : RVs K al H (rgD a b) (rgV a b) := by
  unfold rgD rgV
  generalize List.range (b - a).toNat = l
  induction l with
  | nil => exact .nil
  | cons x l ih => exact .cons (.int _) ih
theorem pem_listRg1 (hc : X.calm = true) (hg : Gl X "list") (hm : X.mg "list" = none) (hg2 : Gl X "range") (hm2 : X.mg "range" = none) {e : Expr} {m : Mx} (he : PEm X e m) (hs : notStar e = true) :
    PEm X (.Call (.Name "list" p) [.Call (.Name "range" p2) [e] [] pos2] [] pos) (e1 opRg1 m) := fun W tk => by
  refine PE.imp (pe_listRg hc hg hm (prg_1 hg2 hm2 (he W tk) (starEach_cons hs)) rfl) fun σ H Q h => ?_
  obtain ⟨al, τ, μ, sr, rp, g⟩ := h
  refine ⟨al, τ, μ, sr, rp, gEnd.bind (k := opRg1) g fun d μ1 al1 H1 v e rp1 r g1 => ?_⟩
  unfold opRg1 at g1
  split at g1
  · split at g1
    · rename_i ok
      cases r
      exact ⟨_, rfl, ok, fun q hq => gV.newL g1 rp1 (rg_rv _ _) hq⟩
    · exact g1.elim
  · exact g1.elim
theorem pem_listRg2 (hc : X.calm = true) (hg : Gl X "list") (hm : X.mg "list" = none) (hg2 : Gl X "range") (hm2 : X.mg "range" = none) {e f : Expr} {m n : Mx} (he : PEm X e m) (hf : PEm X f n) (hs : notStar e = true) (hs2 : notStar f = true) :
    PEm X (.Call (.Name "list" p) [.Call (.Name "range" p2) [e, f] [] pos2] [] pos) (e2 opRg2 m n) := fun W tk => by
  refine PE.imp (pe_listRg hc hg hm (prg_2 hg2 hm2 (he W tk) (hf W tk) (starEach_cons hs) (starEach_cons hs2) (star_plain _ _ _ (by simp [hs2]))) rfl) fun σ H Q h => ?_
  obtain ⟨al, τ, μ, sr, rp, g⟩ := h
  refine ⟨al, τ, μ, sr, rp, gEnd.bind (k := fun x μ => (n τ μ).bind fun y μ => opRg2 x y μ) g fun d μ1 al1 H1 v e rp1 r g1 => ?_⟩
  refine ⟨al1, τ, μ1, sr.mono e, rp1, gEnd.bind (k := fun y μ => opRg2 d y μ) g1 fun d2 μ2 al2 H2 v2 e2 rp2 r2 g2 => ?_⟩
  unfold opRg2 at g2
  split at g2
  · split at g2
    · rename_i ok
      cases r; cases r2
      exact ⟨_, _, rfl, rfl, ok, fun q hq => gV.newL g2 rp2 (rg_rv _ _) hq⟩
    · exact g2.elim
  · exact g2.elim
end

/-! ### {} and dict(d) -/
def eDict0 : Mx := fun _ μ => .ok (.ref μ.length) (μ ++ [.dict [] false])
section
variable {X : Cx} {pos : Pos}
theorem big_ne {pins : List (Addr × Obj)} {σ : L2.St} {H : Hp} {s : Shared} (I : Inv X pins σ H s) {a : Addr} (h : s.heap.objs.size ≤ a) : (a == sysModules) = false := by
  have := L2.Inv.big I
  exact beq_eq_false_iff_ne.mpr (Ne.symm (Nat.ne_of_lt (Nat.lt_of_lt_of_le this h)))
theorem gV.newD {w : World} {K : PySem.W.Frag} {al : List Addr} {H : Hp} {E : XW} {Q : VK} {μ : MH} {kvs : List (D × D)} {es : List DictEntry} (g : gV w K al H E Q (.ok (.ref μ.length) (μ ++ [.dict kvs false]))) (rp : Rep w K al H μ) (r : Paired (EntR w K al H) kvs es) {p : Addr} (hp : H p = none)
    (sm : (p == sysModules) = false) (hl : kvs.length ≤ sizeLine) (hn : (kvs.map (·.1)).Nodup) (hh : Hom kvs) : Q (.ref p) (upd H p (.ext (DRaw p es))) := by
  have ex : Ext K al H (al ++ [p]) (upd H p (.ext (DRaw p es))) := Ext.new hp _
  refine g.ok' ex (rp.new hp ⟨sm, hl, hn, hh, es, upd_same, L2.Paired.mapP r fun _ _ q => q.mono ex⟩) (.ref ?_)
  rw [← rp.len, List.getElem?_append_right (Nat.le_refl _)]
  simp
theorem pem_dict0 : PEm X (.Dict [] [] pos) eDict0 := fun W tk => ⟨fun pins s σ H Q I h => by
  obtain ⟨al, τ, μ, sr, rp, g⟩ := h
  refine wpAny_Dict_empty ?_
  have hn : H s.heap.objs.size = none := I.hok.fresh (Nat.le_refl _)
  refine ⟨.ref s.heap.objs.size, _, I.laid (t' := s.toks) (o := .ext (DRaw s.heap.objs.size [])) (fun b o e => Heap.get?_push_of_some _ e) (Nat.le_refl _) (raw_ok ⟨_, 0, Heap.get?_push_size _ rfl, ⟨rfl, rfl, rfl⟩, rfl⟩), rfl, ?_⟩
  exact gV.newD g rp .nil hn (big_ne I (Nat.le_refl _)) (by simp) (by simp) (.inl (by simp))⟩
/-- dict(d): of whole-number or text keys -/
def fDict : Fn := fun ds μ => match ds with
  | [.ref j] => match μ[j]? with
    | some (.dict kvs _) => if kvs.all (fun p => (fk p.1).isSome) = true then .ok (.ref μ.length) (μ ++ [.dict kvs false]) else .bad
    | _ => .bad
  | _ => .bad
theorem mildN_dict : MildN fDict := fun ds μ C fs μ' h => by
  unfold fDict at h
  split at h
  · split at h
    · split at h <;> cases h
    · cases h
  · cases h
theorem cm_dict : CallM X (.type "dict") fDict := by
  intro pins s σ H xs us Q I r h
  obtain ⟨al, μ, ds, rp, rs, g⟩ := h
  unfold fDict at g
  split at g
  · obtain ⟨v, rfl, rd⟩ := rs.one
    cases rd with
    | @ref j p hp =>
      split at g
      · rename_i kvs lk hk
        split at g
        · rename_i hf
          obtain ⟨u, rfl, ru⟩ := vals1 r
          cases (show u = Value.ref p from ru)
          have ob := rp.of hp hk
          obtain ⟨sm, hl, hn, hh, _⟩ := id ob
          have hf' : ∀ q ∈ kvs, (fk q.1).isSome = true := fun q hq => List.all_eq_true.mp hf q hq
          obtain ⟨vs, rr, dd⟩ := dictOf_flat I ob hf'
          have e := PySem.Paired.length rr
          refine kt_call_dict sm dd (by rw [← e]; exact hl) fun h' d' hs => ?_
          obtain ⟨es, hr, he⟩ := raw_flat (w := X.w) d' rr
          have h0 : H s.heap.objs.size = none := I.hok.fresh (Nat.le_refl _)
          refine ⟨.ref s.heap.objs.size, _, I.laid (t' := s.toks) (o := .ext (DRaw s.heap.objs.size es)) (fun b o q => (hs.2 b (Nat.ne_of_lt (Heap.lt_size q))).trans (Heap.get?_push_of_some _ q)) (Nat.le_refl _) (raw_ok hr), rfl, ?_⟩
          exact gV.newD g rp he h0 (big_ne I (Nat.le_refl _)) hl hn hh
        · exact g.elim
      · exact g.elim
  · exact g.elim
end

/-! ### methods of lists, dicts, texts -/
def rMm (w : World) (K : PySem.W.Frag) (f : D → Fn) : V → List V → Hp → VK → Prop := fun x xs H Q => ∃ al μ d ds, Rep w K al H μ ∧ RV K al H d x ∧ RVs K al H ds xs ∧ gV w K al H (fun _ _ _ => False) Q (f d ds μ)
def MildM (f : D → Fn) : Prop := ∀ d ds μ C fs μ', f d ds μ ≠ .exc C fs μ'
/-- o.m(..): what the kind of o says -/
def eMeth (f : Ty → Option (D → Fn)) (o : Mx) (a : Ma) : Mx := fun τ μ => (o τ μ).bind fun x μ => match (tyD x μ).bind f with
  | some g => (a τ μ).bind fun xs μ => g x xs μ
  | Option.none => .bad
structure BM (X : Cx) (T : Ty) (name : Str) (g : D → Fn) : Prop where
  mild : MildM g
  run : ∃ id, PlainAttrs T.name ∧ Slot T.name name id ∧ typeOf (.builtin id) = pure (.type "method_descriptor") ∧ MtR X id (rMm X.w X.K g)
theorem attrBase {o : Expr} {name : Str} {env : Env} {whole : Sem Value} (h : ∀ id p pos, o ≠ .Call (.Name id p) [] [] pos) : attributeBase o name env whole = whole := by
  unfold attributeBase
  split
  · rename_i id p pos
    exact absurd rfl (h id p pos)
  · rfl
def notCall0 : Expr → Bool
  | .Call (.Name _ _) [] [] _ => false
  | _ => true
theorem notCall0_ne {o : Expr} (h : notCall0 o = true) : ∀ id p pos, o ≠ .Call (.Name id p) [] [] pos := fun id p pos e => by subst e; cases h
section
variable {X : Cx} {pins : List (Addr × Obj)} {σ : L2.St} {H : Hp} {s : Shared} {al : List Addr} {μ : MH}
theorem few_plain (pos : Pos) (env : Env) : ∀ es : List Expr, es.all notStar = true → (backTo pos (starEach es env)).all (fun x => !x.1) = true
  | [], _ => rfl
  | e :: es, h => by
    simp only [List.all_cons, Bool.and_eq_true] at h
    rw [starEach_cons h.1]
    show (true && (backTo pos (starEach es env)).all (fun x => !x.1)) = true
    rw [few_plain pos env es h.2] <;> rfl
theorem noDict_d (I : Inv X pins σ H s) (rp : Rep X.w X.K al H μ) {d : D} {v : V} {u : Value} {t : Ty} (r : RV X.K al H d v) (ru : RelV v u) (h : tyD d μ = some t) (ht : t = .list ∨ t = .dict ∨ t = .str) :
    s.TypeIs u t.name ∧ ∀ a, u = .ref a → ∃ ob, s.heap.get? a = some ob ∧ ob.dict = Option.none := by
  cases r with
  | non => cases h; rcases ht with e | e | e <;> cases e
  | bl b => cases h; rcases ht with e | e | e <;> cases e
  | int b => cases h; rcases ht with e | e | e <;> cases e
  | str b => cases h; obtain ⟨t, rfl⟩ := ru; exact ⟨typeIs_str _ _ _, fun _ e => nomatch e⟩
  | tup _ _ => cases h; rcases ht with e | e | e <;> cases e
  | @frl p xs vs hs hr =>
    cases h
    cases (show u = Value.ref p from ru)
    obtain ⟨its, rv, pl, _⟩ := I.list hs.seq
    refine ⟨pl.isList.typeIs, fun a e => ?_⟩
    cases e
    obtain ⟨o, n, e, c, hd, _⟩ := pl
    exact ⟨o, e, hd⟩
  | @ref i p hp =>
    cases (show u = Value.ref p from ru)
    have h' : (match μ[i]? with | some (.lst _) => some Ty.list | some (.dict _ _) => some Ty.dict | _ => Option.none) = some t := h
    split at h'
    · rename_i xs hx
      cases h'
      obtain ⟨vs, h1, h2⟩ := rp.of hp hx
      obtain ⟨its, rv, pl, _⟩ := I.list (SqL.of h1)
      refine ⟨pl.isList.typeIs, fun a e => ?_⟩
      cases e
      obtain ⟨o, n, e, c, hd, _⟩ := pl
      exact ⟨o, e, hd⟩
    · rename_i kvs lk hx
      cases h'
      obtain ⟨_, _, _, _, es, he, _⟩ := rp.of hp hx
      obtain ⟨o, ep, g1, g2, _⟩ := inv_raw I he
      refine ⟨⟨o, g1, g2.1⟩, fun a e => ?_⟩
      cases e
      exact ⟨o, g1, g2.2.1⟩
    · cases h'
theorem evalArgs_nil {M : Model} {A : Around} {E : Value → Shared → Prop} {f : Value} {s : Shared} {Q : Args → Shared → Prop} (h : wpAny M A (spliced []) (fun vs s' => Q ⟨vs, []⟩ s') E s) : wpAny M A (evalArgs f true [] []) Q E s := by
  unfold evalArgs
  show wpAny M A (spliced [] >>= _) Q E s
  refine wpAny_bind (wpAny_mono h (fun vs s' h' => ?_) fun _ _ x => x)
  refine wpAny_bind (wpAny_pure ?_)
  refine wpAny_holding ?_
  exact wpAny_bind (wpAny_pure (wpAny_bind (wpAny_pure (wpAny_pure h'))))
theorem pem_meth {name : Str} {apos cpos : Pos} {o : Expr} {es : List Expr} {mo : Mx} {ma : Ma} {f : Ty → Option (D → Fn)} (hf : ∀ T g, f T = some g → (T = .list ∨ T = .dict ∨ T = .str) ∧ BM X T name g) (ho : PEm X o mo) (ha : PAm X es ma) (hs : es.all notStar = true)
    (h0 : notCall0 o = true) (hl : es.length < 30) (hline : (apos.endLine == cpos.line) = true) : PEm X (.Call (.Attribute o name apos) es [] cpos) (eMeth f mo ma) := fun W tk => ⟨fun pins s σ H Q I h => by
  obtain ⟨al, τ, μ, sr, rp, g⟩ := h
  have hbase := attrBase (name := name) (env := X.env) (whole := eval o X.env) (notCall0_ne h0)
  have hfew : ((backTo cpos (starEach es X.env)).all (fun x => !x.1) && (backToKw cpos (keywordEach [] X.env)).all (fun x => x.1.isSome)
      && decide (es.length + ([] : List Keyword).length + (if ([] : List Keyword).isEmpty then 0 else 1) < 30)) = true := by
    rw [few_plain cpos X.env es hs]
    show (true && true && decide (es.length + 0 + 0 < 30)) = true
    simp only [Bool.and_self, Bool.true_and, decide_eq_true_eq]
    omega
  refine wpAny_Call_method_late hbase hfew hline rfl (thn ((ho W tk).run pins s σ H (fun x H1 => ∃ al1 μ1 d T gg, Rep X.w X.K al1 H1 μ1 ∧ RV X.K al1 H1 d x ∧ SR X.K al1 H1 τ σ ∧ tyD d μ1 = some T ∧ f T = some gg ∧ gV X.w X.K al1 H1 (fun c dd H' => W c dd σ H') Q ((ma τ μ1).bind fun xs μ => gg d xs μ)) I ⟨al, τ, μ, sr, rp, gEnd.bind (k := fun x μ => match (tyD x μ).bind f with | some g => (ma τ μ).bind fun xs μ => g x xs μ | Option.none => .bad) g fun d μ1 al1 H1 v e rp1 r g1 => ?_⟩) fun v s1 hh => ?_)
  · split at g1
    · rename_i gg hgg
      obtain ⟨T, hT, hfT⟩ := Option.bind_eq_some_iff.mp hgg
      exact ⟨al1, μ1, d, T, gg, rp1, r, sr.mono e, hT, hfT, g1⟩
    · exact g1.elim
  · obtain ⟨x, H1, I1, rx, al1, μ1, d, T, gg, rp1, r1, sr1, hT, hfT, g1⟩ := hh
    obtain ⟨hk, mild, id, pa, slot, hty, hm⟩ := hf T gg hfT
    obtain ⟨h1, h2⟩ := noDict_d I1 rp1 r1 rx hT hk
    refine ⟨T.name, id, pa, slot, hty, h1, h2, ?_⟩
    have call : ∀ (us : List Value) (s2 : Shared), AP X pins σ (fun xs H2 => rMm X.w X.K gg x xs H2 Q) us s2 → wpAny (model X.prog X.w) X.A (call (.builtin id) (v :: us)) (EP X pins σ Q) X.xe s2 := fun us s2 ⟨xs, H2, I2, r2, q2⟩ => hm pins s2 σ H2 x xs v us Q I2 rx r2 q2
    have args : tMA X.w X.K W ma σ H1 (fun xs H2 => rMm X.w X.K gg x xs H2 Q) := ⟨al1, τ, μ1, sr1, rp1, gEnd.bind (k := fun xs μ => gg d xs μ) g1 fun ds μ2 al2 H2 vs e2 rp2 r2 g2 => ⟨al2, μ2, d, ds, rp2, r1.mono e2, r2, g2.mild (mild d ds μ2)⟩⟩
    have hA := (ha W tk).run cpos pins s1 σ H1 _ I1 args
    cases es with
    | nil => exact Calls.callWith_builtin rfl (evalArgs_nil (thn hA fun us s2 q => call us s2 q))
    | cons e es =>
      simp only [List.all_cons, Bool.and_eq_true] at hs
      rw [starEach_cons hs.1] at hA ⊢
      refine Calls.callWith_builtin (by show (false || (backTo cpos (starEach es X.env)).any (·.1)) = false; rw [star_plain _ _ _ hs.2] <;> rfl) (Calls.evalArgs_plain ?_)
      exact thn hA fun us s2 q => call us s2 q⟩
end
end MM
namespace MM
open PySem PySem.Spec PyProof.Rows L2

/-! ### lists -/
def mAppend : D → Fn := fun d ds μ => match d, ds with
  | .ref j, [x] => match μ[j]? with
    | some (.lst xs) => if xs.length < sizeLine then .ok .non (μ.set j (.lst (xs ++ [x]))) else .bad
    | _ => .bad
  | _, _ => .bad
def mExtend : D → Fn := fun d ds μ => match d, ds with
  | .ref j, [.ref k] => match μ[j]?, μ[k]? with
    | some (.lst xs), some (.lst ys) => if xs.length + ys.length ≤ sizeLine then .ok .non (μ.set j (.lst (xs ++ ys))) else .bad
    | _, _ => .bad
  | _, _ => .bad
def mPop : D → Fn := fun d ds μ => match d, ds with
  | .ref j, [] => match μ[j]? with
    | some (.lst xs) => match xs.getLast? with
      | some x => .ok x (μ.set j (.lst xs.dropLast))
      | none => .bad
    | _ => .bad
  | _, _ => .bad
def mReverse : D → Fn := fun d ds μ => match d, ds with
  | .ref j, [] => match μ[j]? with
    | some (.lst xs) => .ok .non (μ.set j (.lst xs.reverse))
    | _ => .bad
  | _, _ => .bad
def mClear : D → Fn := fun d ds μ => match d, ds with
  | .ref j, [] => match μ[j]? with
    | some (.lst xs) => .ok .non (μ.set j (.lst []))
    | _ => .bad
  | _, _ => .bad
section
variable {X : Cx}
theorem gV.setL {w : World} {K : PySem.W.Frag} {al : List Addr} {H : Hp} {E : XW} {Q : VK} {μ : MH} {j : Nat} {p : Addr} {xs : List D} {vs : List V} {d : D} {v : V} (g : gV w K al H E Q (.ok d (μ.set j (.lst xs)))) (rp : Rep w K al H μ) (hp : al[j]? = some p) {ys : List D} (hx : μ[j]? = some (.lst ys)) (r : RVs K al H xs vs) (rd : RV K al H d v) :
    Q v (upd H p (.lst vs)) := by
  have ex := Ext.write rp hp hx rfl (.lst vs)
  exact g.ok' ex (rp.write hp hx rfl ⟨vs, upd_same, r.mono ex⟩) (rd.mono ex)
theorem bm_append : BM X .list "append" mAppend := ⟨(fun d ds μ C fs μ' h => by
    unfold mAppend at h
    split at h
    · split at h
      · split at h <;> cases h
      · cases h
    · cases h), "list.append", PySem.F.plainAttrs_list, PySem.F.slot_list_append, PySem.F.type_list_append, fun pins s σ H x xs v us Q I rx rs h => by
    obtain ⟨al, μ, d, ds, rp, r, rs', g⟩ := h
    unfold mAppend at g
    split at g
    · split at g
      · rename_i hy
        split at g
        · rename_i hz
          cases r with
          | ref hp =>
            obtain ⟨w', rfl, rw'⟩ := rs'.one
            obtain ⟨vs, h1, h2⟩ := rp.of hp hy
            exact mt_append pins s σ H _ _ v us Q I rx rs ⟨_, vs, w', rfl, rfl, h1, by rw [← h2.length]; exact hz, gV.setL g rp hp hy (h2.append (.cons rw' .nil)) .non⟩
        · exact g.elim
      · exact g.elim
    · exact g.elim⟩
theorem bm_extend : BM X .list "extend" mExtend := ⟨(fun d ds μ C fs μ' h => by
    unfold mExtend at h
    split at h
    · split at h
      · split at h <;> cases h
      · cases h
    · cases h), "list.extend", PySem.F.plainAttrs_list, PySem.F.slot_list_extend, PySem.F.type_list_extend, fun pins s σ H x xs v us Q I rx rs h => by
    obtain ⟨al, μ, d, ds, rp, r, rs', g⟩ := h
    unfold mExtend at g
    split at g
    · split at g
      · rename_i hy hy2
        split at g
        · rename_i hz
          cases r with
          | ref hp =>
            obtain ⟨w', rfl, rw'⟩ := rs'.one
            cases rw' with
            | ref hq =>
              obtain ⟨vs, h1, h2⟩ := rp.of hp hy
              obtain ⟨ws, k1, k2⟩ := rp.of hq hy2
              exact mt_extend pins s σ H _ _ v us Q I rx rs ⟨_, _, vs, ws, rfl, rfl, h1, k1, by rw [← h2.length, ← k2.length]; exact hz, gV.setL g rp hp hy (h2.append k2) .non⟩
        · exact g.elim
      · exact g.elim
    · exact g.elim⟩
theorem RVs.dropLast {K : PySem.W.Frag} {al : List Addr} {H : Hp} {ds : List D} {vs : List V} (r : RVs K al H ds vs) : RVs K al H ds.dropLast vs.dropLast := by
  rw [List.dropLast_eq_take, List.dropLast_eq_take, r.length]
  exact r.take _
theorem bm_pop : BM X .list "pop" mPop := ⟨(fun d ds μ C fs μ' h => by
    unfold mPop at h
    split at h
    · split at h
      · split at h <;> cases h
      · cases h
    · cases h), "list.pop", PySem.F.plainAttrs_list, PySem.F.slot_list_pop, PySem.F.type_list_pop, fun pins s σ H x xs v us Q I rx rs h => by
    obtain ⟨al, μ, d, ds, rp, r, rs', g⟩ := h
    unfold mPop at g
    split at g
    · split at g
      · rename_i zs hy
        split at g
        · rename_i y hl
          cases r with
          | ref hp =>
            cases rs'
            obtain ⟨vs, h1, h2⟩ := rp.of hp hy
            rw [List.getLast?_eq_getElem?] at hl
            obtain ⟨w', e1, e2⟩ := h2.get hl
            rw [h2.length] at e1
            exact mt_pop pins s σ H _ _ v us Q I rx rs ⟨_, vs, w', rfl, rfl, h1, e1, gV.setL g rp hp hy h2.dropLast e2⟩
        · exact g.elim
      · exact g.elim
    · exact g.elim⟩
theorem bm_reverse : BM X .list "reverse" mReverse := ⟨(fun d ds μ C fs μ' h => by
    unfold mReverse at h
    split at h
    · split at h <;> cases h
    · cases h), "list.reverse", PySem.F.plainAttrs_list, PySem.F.slot_list_reverse, PySem.F.type_list_reverse, fun pins s σ H x xs v us Q I rx rs h => by
    obtain ⟨al, μ, d, ds, rp, r, rs', g⟩ := h
    unfold mReverse at g
    split at g
    · split at g
      · rename_i zs hy
        cases r with
        | ref hp =>
          cases rs'
          obtain ⟨vs, h1, h2⟩ := rp.of hp hy
          exact mt_reverse pins s σ H _ _ v us Q I rx rs ⟨_, vs, rfl, rfl, h1, gV.setL g rp hp hy h2.reverse .non⟩
      · exact g.elim
    · exact g.elim⟩
theorem bm_clear : BM X .list "clear" mClear := ⟨(fun d ds μ C fs μ' h => by
    unfold mClear at h
    split at h
    · split at h <;> cases h
    · cases h), "list.clear", PySem.F.plainAttrs_list, PySem.F.slot_list_clear, PySem.F.type_list_clear, fun pins s σ H x xs v us Q I rx rs h => by
    obtain ⟨al, μ, d, ds, rp, r, rs', g⟩ := h
    unfold mClear at g
    split at g
    · split at g
      · rename_i zs hy
        cases r with
        | ref hp =>
          cases rs'
          obtain ⟨vs, h1, h2⟩ := rp.of hp hy
          exact mt_clear pins s σ H _ _ v us Q I rx rs ⟨_, vs, rfl, rfl, h1, gV.setL g rp hp hy .nil .non⟩
      · exact g.elim
    · exact g.elim⟩
end

/-! ### o[i] = v -/
def opSet (o i v : D) (μ : MH) : Out Unit := match o with
  | .ref j => match μ[j]? with
    | some (.lst xs) => match i with
      | .int n => match ixN xs.length n with
        | some k => .ok () (μ.set j (.lst (xs.set k v)))
        | none => .bad
      | _ => .bad
    | some (.dict kvs false) => if keyOk kvs i = true ∧ kvs.length < sizeLine then .ok () (μ.set j (.dict (dput kvs i v) false)) else .bad
    | _ => .bad
  | _ => .bad
section
variable {X : Cx}
theorem set_m (hu : X.A.units + 10 < cLine) {pins : List (Addr × Obj)} {s : Shared} {σ : L2.St} {H : Hp} {o i x : V} {ov iv u : Value} {Q : Hp → Prop} (I : Inv X pins σ H s) (ro : RelV o ov) (ri : RelV i iv) (rv : RelV x u)
    {al : List Addr} {μ : MH} {d k e : D} (rp : Rep X.w X.K al H μ) (r1 : RV X.K al H d o) (r2 : RV X.K al H k i) (r3 : RV X.K al H e x) (g : gEnd X.w X.K al H (fun _ _ _ _ => True) (fun _ _ _ => False) (fun (_ : Unit) H' => Q H') (opSet d k e μ)) :
    wpAny (model X.prog X.w) X.A (setItem ov iv u) (fun _ s' => ∃ H', Inv X pins σ H' s' ∧ Q H') X.xe s := by
  unfold opSet at g
  split at g
  · cases r1 with
    | @ref j p hp =>
      split at g
      · rename_i xs hx
        split at g
        · rename_i n
          split at g
          · rename_i k' hk
            cases r2
            obtain ⟨vs, h1, h2⟩ := rp.of hp hx
            have ex := Ext.write rp hp hx rfl (.lst (vs.set k' x))
            refine set_list pins s σ H _ _ x ov iv u Q I ro ri rv ⟨p, vs, n, k', rfl, rfl, h1, by rw [← h2.length]; exact hk, ?_⟩
            exact g.ok' (v := ()) ex (rp.write hp hx rfl ⟨_, upd_same, (h2.set r3 k').mono ex⟩) True.intro
          · exact g.elim
        · exact g.elim
      · rename_i kvs hk
        split at g
        · rename_i hc
          obtain ⟨ok, hz⟩ := hc
          cases (show ov = Value.ref p from ro)
          have ob := rp.of hp hk
          obtain ⟨sm, hl, hn, hh, _⟩ := id ob
          rcases keyOk_sort hh ok with ⟨hk1, hf⟩ | ⟨hk1, hf⟩
          · obtain ⟨f, ef⟩ := Option.isSome_iff_exists.mp hk1
            obtain ⟨vs, rr, dd⟩ := dictOf_flat I ob hf
            have el := PySem.Paired.length rr
            refine wpAny_setItem_pairs (hsz := by rw [← el]; exact hl) (r2.flat ef ri) dd fun h' dd' hs => ?_
            obtain ⟨es, hr, he⟩ := raw_flat (w := X.w) dd' (fv_put rr ef rv r3)
            obtain ⟨I', rp', ex⟩ := inv_dwrite (t' := s.toks + 1) I rp hp hk hs hr he (Nat.le_trans (dput_le _ _ _) hz) (dput_nodup hn _ _) (dput_hom _ hh ok)
            exact ⟨_, I', g.ok' (v := ()) ex rp' True.intro⟩
          · obtain ⟨n, en⟩ := Option.isSome_iff_exists.mp hk1
            obtain ⟨b, rfl⟩ := r2.tkRef en
            cases (show iv = Value.ref b from ri)
            obtain ⟨xs, rr, dd⟩ := dictOf_tup I ob hf
            have el := PySem.Paired.length rr
            refine wpAny_setItem_heap (knd := nestedKind X.prog X.w) (hsz := by rw [← el]; exact hl) (by show X.A.units + 1 + 8 < cLine; omega) (RV.isKey I r2 en) dd fun h' dd' hs => ?_
            obtain ⟨es, hr, he⟩ := raw_tup (w := X.w) dd' (tv_put rr en r2 rv r3)
            obtain ⟨I', rp', ex⟩ := inv_dwrite (t' := s.toks + (nestedKind X.prog X.w).draws n) I rp hp hk hs hr he (Nat.le_trans (dput_le _ _ _) hz) (dput_nodup hn _ _) (dput_hom _ hh ok)
            exact ⟨_, I', g.ok' (v := ()) ex rp' True.intro⟩
        · exact g.elim
      · exact g.elim
  · exact g.elim
end
end MM
namespace MM
open PySem PySem.Spec PyProof.Rows L2

/-! ### what a def promises -/
def spU (w : World) (K : PySem.W.Frag) (np : Nat) (f : Fn) : Sp := fun vs H Q E => vs.length = np ∧ ∃ al μ ds, Rep w K al H μ ∧ RVs K al H ds vs ∧ gV w K al H E Q (f ds μ)
structure FU (P : Program) (w : World) (K : PySem.W.Frag) (mg : Str → Option Value) (base : Heap) (k : Nat) (f : Addr) (fn : Fn) : Prop where
  ex : (∃ fd ps, FnOk P w K mg base (L2.CX P w) k f fd ps (spU w K ps.length fn) ∧ Binds K fd ps [] ∧ ∀ ds μ, ds.length ≠ ps.length → fn ds μ = .bad) ∨ ∀ ds μ, fn ds μ = .bad
section
variable {X : Cx} {k : Nat} {f C : Addr} {fn : Fn} {W : WX} {x m : Str} {p pos apos : Pos} {o e : Expr} {es : List Expr} {mo : Mx} {ma : Ma}
theorem FU.len {w : World} {K : PySem.W.Frag} {ps : List Str} {al : List Addr} {H : Hp} {E : XW} {Q : VK} {ds : List D} {vs : List V} {μ : MH} (ar : ∀ ds μ, ds.length ≠ ps.length → fn ds μ = .bad)
    (rs : RVs K al H ds vs) (g : gV w K al H E Q (fn ds μ)) : vs.length = ps.length := by
  rw [← rs.length]
  by_cases h : ds.length = ps.length
  · exact h
  · rw [ar ds μ h] at g; exact g.elim
theorem run_FU (tk : Takes X W) (F : FU X.prog X.w X.K X.mg X.base k f fn) (hr : Room k X.A) {pins : List (Addr × Obj)} {σ : L2.St} {H : Hp} {s : Shared} {us : List Value} {vs : List V} (I : Inv X pins σ H s) (r : Vals vs us)
    {al : List Addr} {μ : MH} {ds : List D} {Q : VK} (rp : Rep X.w X.K al H μ) (rs : RVs X.K al H ds vs) (g : gV X.w X.K al H (fun c d H' => W c d σ H') Q (fn ds μ)) :
    wpAny (model X.prog X.w) X.A (call (.ref f) us) (EP X pins σ Q) X.xe s := by
  rcases F.ex with ⟨fd, ps, F, b, ar⟩ | hb
  case inr => rw [hb] at g; exact g.elim
  exact run_fnS F hr b (passAt tk σ) I r ⟨FU.len ar rs g, al, μ, ds, rp, rs, g⟩
theorem ma_run (ha : PAm X es ma) (tk : Takes X W) {pins : List (Addr × Obj)} {σ : L2.St} {H : Hp} {s : Shared} (I : Inv X pins σ H s) {al : List Addr} {τ : MSt} {μ : MH} (sr : SR X.K al H τ σ) (rp : Rep X.w X.K al H μ) {Q : VK} {k : List D → MH → Out D}
    (g : gV X.w X.K al H (fun c d H' => W c d σ H') Q ((ma τ μ).bind k)) (pos : Pos) : wpAny (model X.prog X.w) X.A (spliced (backTo pos (starEach es X.env))) (AP X pins σ (fun vs H1 => ∃ al1 μ1 ds, Ext X.K al H al1 H1 ∧ Rep X.w X.K al1 H1 μ1 ∧ RVs X.K al1 H1 ds vs ∧ gV X.w X.K al1 H1 (fun c d H' => W c d σ H') Q (k ds μ1))) X.xe s :=
  (ha W tk).run pos pins s σ H _ I ⟨al, τ, μ, sr, rp, gEnd.bind (k := k) g fun ds μ1 al1 H1 vs e rp1 r g1 => ⟨al1, μ1, ds, e, rp1, r, g1⟩⟩
theorem pem_call (F : FU X.prog X.w X.K X.mg X.base k f fn) (hr : Room k X.A) (hg : Gl X x) (hm : X.mg x = some (.ref f)) (hk : PySem.W.keepIn X.K (.ref f) = true) (hdb : (x == ("__debug__" : Str)) = false) (ha : PAm X (e :: es) ma) (hs : (e :: es).all notStar = true) :
    PEm X (.Call (.Name x p) (e :: es) [] pos) (eN fn ma) := fun W tk => ⟨fun pins s σ H Q I h => by
  obtain ⟨al, τ, μ, sr, rp, g⟩ := h
  simp only [List.all_cons, Bool.and_eq_true] at hs
  refine wpAny_Call_Name_kw (ld_glob I hg hm ?_ hdb)
  refine PySem.W.callWith_K (h₀ := X.base) I.ok.mod.kin hk (thn (ma_run ha tk I sr rp g pos) fun us s1 ⟨vs, H1, I1, r, al1, μ1, ds, ex, rp1, rs, g1⟩ => ⟨I1.kIn, ?_⟩) (starEach_cons hs.1) (star_plain _ _ _ hs.2)
  exact run_FU tk F hr I1 r rp1 rs g1⟩
theorem pem_call0 (F : FU X.prog X.w X.K X.mg X.base k f fn) (hr : Room k X.A) (hg : Gl X x) (hm : X.mg x = some (.ref f)) (hk : PySem.W.keepIn X.K (.ref f) = true) (hdb : (x == ("__debug__" : Str)) = false) :
    PEm X (.Call (.Name x p) [] [] pos) (eN fn aNil) := fun W tk => ⟨fun pins s σ H Q I h => by
  obtain ⟨al, τ, μ, sr, rp, g⟩ := h
  refine wpAny_Call_Name_kw (ld_glob I hg hm ?_ hdb)
  exact PySem.W.callWith_K0 I.kIn hk (run_FU (us := []) tk F hr I .nil rp .nil g)⟩

/-! ### instances -/
theorem FsR.look {K : PySem.W.Frag} {al : List Addr} {H : Hp} {f : Str} : ∀ {fs : List (Str × D)} {vs : List (Str × V)}, FsR K al H fs vs → (fs.lookup f = none ∧ vs.lookup f = none) ∨ ∃ d v, fs.lookup f = some d ∧ vs.lookup f = some v ∧ RV K al H d v
  | _, _, .nil => .inl ⟨rfl, rfl⟩
  | (a, d) :: fs, (b, v) :: vs, .cons r t => by
    obtain ⟨e, r⟩ := r
    have e : a = b := e
    subst e
    simp only [List.lookup_cons]
    cases f == a with
    | true => exact .inr ⟨d, v, rfl, rfl, r⟩
    | false => exact FsR.look t
/-- e.f -/
def opAt (ok : Str → Bool) (f : Str) (o : D) (μ : MH) : Out D := match o with
  | .ref j => match μ[j]? with
    | some (.ins C fs) => if ok C = true then match fs.lookup f with
      | some d => .ok d μ
      | none => .bad
      else .bad
    | _ => .bad
  | _ => .bad
theorem mild1_at {ok : Str → Bool} {f : Str} : Mild1 (opAt ok f) := fun d μ C fs μ' h => by
  unfold opAt at h
  split at h
  · split at h
    · split at h
      · split at h <;> cases h
      · cases h
    · cases h
  · cases h
theorem pem_at {ok : Str → Bool} {f : Str} (hok : ∀ C, ok C = true → Cls X.K (He.ga X.K C) ∧ NoAttr X.K (He.ga X.K C) f) (he : PEm X e mo) (h0 : notCall0 e = true) : PEm X (.Attribute e f pos) (e1 (opAt ok f) mo) := fun W tk =>
  PE.imp (pe_fld (he W tk) (attrBase (notCall0_ne h0))) fun σ H Q h => by
    obtain ⟨al, τ, μ, sr, rp, g⟩ := h
    refine ⟨al, τ, μ, sr, rp, gEnd.bind (k := opAt ok f) g fun d μ1 al1 H1 v e rp1 r g1 => ?_⟩
    unfold opAt at g1
    split at g1
    · split at g1
      · rename_i C fs hx
        split at g1
        · rename_i hC
          split at g1
          · rename_i d2 hl
            cases r with
            | ref hp =>
              obtain ⟨dx, vs, h1, h2⟩ := rp1.of hp hx
              obtain ⟨c, n⟩ := hok C hC
              rcases FsR.look (f := f) h2 with ⟨z, _⟩ | ⟨d3, v3, z, l, r3⟩
              · rw [hl] at z; cases z
              · rw [hl] at z; cases z
                exact ⟨_, _, dx, vs, v3, rfl, h1, c, n, l, g1.ok rp1 r3⟩
          · exact g1.elim
        · exact g1.elim
      · exact g1.elim
    · exact g1.elim
/-- o.m(..) of an own class -/
def kMethO (f : Str → Option Fn) (m : Str) (a : MH → Out (List D)) (x : D) (μ : MH) : Out D := match x with
  | .ref j => match μ[j]? with
    | some (.ins C fs) => match f C, fs.lookup m with
      | some g, none => (a μ).bind fun xs μ => g (x :: xs) μ
      | _, _ => .bad
    | _ => .bad
  | _ => .bad
def eMethO (f : Str → Option Fn) (m : Str) (o : Mx) (a : Ma) : Mx := fun τ μ => (o τ μ).bind (kMethO f m (a τ))
theorem methO_obj {f : Str → Option Fn} {al1 : List Addr} {H1 : Hp} {τ : MSt} {μ1 : MH} {d : D} {v : V} {E : XW} {Q : VK} (rp1 : Rep X.w X.K al1 H1 μ1) (r : RV X.K al1 H1 d v)
    (g1 : gV X.w X.K al1 H1 E Q (kMethO f m (ma τ) d μ1)) : ∃ a C dx vs g, v = .ref a ∧ H1 a = some (.ins (He.ga X.K C) dx vs) ∧ vs.lookup m = none ∧ f C = some g ∧ gV X.w X.K al1 H1 E Q ((ma τ μ1).bind fun xs μ => g (d :: xs) μ) := by
  cases r with
  | @ref j a hp =>
    have g2 : gV X.w X.K al1 H1 E Q (match μ1[j]? with
        | some (.ins C fs) => match f C, fs.lookup m with
          | some g, none => (ma τ μ1).bind fun xs μ => g (D.ref j :: xs) μ
          | _, _ => .bad
        | _ => .bad) := g1
    split at g2
    · rename_i C fs hx
      split at g2
      · rename_i gg hg hl
        obtain ⟨dx, vs, h1, h2⟩ := rp1.of hp hx
        rcases FsR.look (f := m) h2 with ⟨_, z⟩ | ⟨_, _, z, _⟩
        · exact ⟨_, C, dx, vs, gg, rfl, h1, z, hg, g2⟩
        · rw [hl] at z; cases z
      · exact g2.elim
    · exact g2.elim
  | _ => exact g1.elim
/-- what a class must have to be asked for a method -/
structure MO (X : Cx) (k : Nat) (C m : Str) (g : Fn) : Prop where
  ex : ∃ f, Cls X.K (He.ga X.K C) ∧ Meth X.K (He.ga X.K C) m f ∧ FU X.prog X.w X.K X.mg X.base k f g
theorem callO {pins : List (Addr × Obj)} {σ : L2.St} {H : Hp} {s : Shared} {Q : Value → Shared → Prop} {te : TE} (he : PE X o te) (I : Inv X pins σ H s) (h0 : notCall0 o = true) (hs : es.all notStar = true) (hl : es.length < 30) (hline : (apos.endLine == pos.line) = true)
    (h : te σ H fun x H1 => ∃ a C dx fs g, x = .ref a ∧ H1 a = some (.ins C dx fs) ∧ Cls X.K C ∧ Meth X.K C m g ∧ fs.lookup m = none ∧
      ∀ s1, Inv X pins σ H1 s1 → wpAny (model X.prog X.w) X.A (callWith pos (.ref g) [.ref a] (backTo pos (starEach es X.env)) (backToKw pos (keywordEach [] X.env))) Q X.xe s1) :
    wpAny (model X.prog X.w) X.A (eval (.Call (.Attribute o m apos) es [] pos) X.env) Q X.xe s := by
  have hbase := attrBase (name := m) (env := X.env) (whole := eval o X.env) (notCall0_ne h0)
  have hfew : methodCallForm (es.length + ([] : List Keyword).length) (backTo pos (starEach es X.env)) (backToKw pos (keywordEach [] X.env)) = true := by
    show ((backTo pos (starEach es X.env)).all (fun x => !x.1) && (backToKw pos (keywordEach [] X.env)).all (fun x => x.1.isSome)
      && decide (es.length + ([] : List Keyword).length + (if ([] : List Keyword).isEmpty then 0 else 1) < 30)) = true
    rw [few_plain pos X.env es hs]
    show (true && true && decide (es.length + 0 + 0 < 30)) = true
    simp only [Bool.and_self, Bool.true_and, decide_eq_true_eq]
    omega
  have hpos : methodCallPos true o X.env apos pos = pure pos := by unfold methodCallPos; simp [hline]
  rw [arm_eval_Call, hbase]
  refine wpAny_bind (thn (he.run pins s σ H _ I h) fun u s1 ⟨x, H1, I1, rx, a, C, dx, fs, g, ex, ea, c, k, l, q⟩ => ?_)
  subst ex
  obtain rfl : u = Value.ref a := rx
  refine wpAny_bind (wpAny_standAt ?_)
  unfold methodCall
  rw [hfew]
  refine wpAny_bind (wpAny_holding (getmeth_ok I1 ea c k l ?_))
  exact wpAny_bind (wpAny_of_eq hpos (q s1 I1))
theorem pem_methO {f : Str → Option Fn} (hf : ∀ C g, f C = some g → MO X k C m g) (hr : Room k X.A) (ho : PEm X o mo) (ha : PAm X es ma) (hs : es.all notStar = true) (hma : es = [] → ma = aNil)
    (h0 : notCall0 o = true) (hl : es.length < 30) (hline : (apos.endLine == pos.line) = true) : PEm X (.Call (.Attribute o m apos) es [] pos) (eMethO f m mo ma) := fun W tk => ⟨fun pins s σ H Q I h => by
  obtain ⟨al, τ, μ, sr, rp, g⟩ := h
  refine callO (te := tM X.w X.K W mo) (ho W tk) I h0 hs hl hline ⟨al, τ, μ, sr, rp, gEnd.bind (k := kMethO f m (ma τ)) g fun d μ1 al1 H1 v e rp1 r g1 => ?_⟩
  obtain ⟨a, C, dx, vs, gg, rfl, h1, hn, hC, g2⟩ := methO_obj rp1 r g1
  obtain ⟨fa, c, hm, F⟩ := (hf C gg hC).ex
  refine ⟨a, _, dx, vs, fa, rfl, h1, c, hm, hn, fun s1 I1 => ?_⟩
  cases es with
  | nil =>
    rw [hma rfl] at g2
    exact PySem.W.callWith_K0 (first := [.ref a]) I1.kIn hm.kp (run_FU (us := [.ref a]) (vs := [.ref a]) tk F hr I1 (.cons rfl .nil) rp1 (.cons r .nil) g2)
  | cons e2 es =>
    simp only [List.all_cons, Bool.and_eq_true] at hs
    refine PySem.W.callWith_K (first := [.ref a]) (h₀ := X.base) I1.ok.mod.kin hm.kp (thn (ma_run ha tk I1 (sr.mono e) rp1 g2 pos) fun us s2 ⟨vs2, H2, I2, r2, al2, μ2, ds, ex, rp2, rs2, g3⟩ => ⟨I2.kIn, ?_⟩) (starEach_cons hs.1) (star_plain _ _ _ hs.2)
    exact run_FU (us := .ref a :: us) (vs := .ref a :: vs2) tk F hr I2 (.cons rfl r2) rp2 (.cons (r.mono ex) rs2) g3⟩

/-! ### an instance is made -/
/-- C(..): fi its __init__ -/
def kNon (r x : D) (μ' : MH) : Out D := match x with
  | .non => .ok r μ'
  | _ => .bad
def fMake (C : Str) (fi : Fn) : Fn := fun ds μ => (fi (.ref μ.length :: ds) (μ ++ [.ins C []])).bind (kNon (.ref μ.length))
theorem run_mk {pins : List (Addr × Obj)} {σ : L2.St} {H : Hp} {s : Shared} {us : List Value} {vs : List V} {Cn : Str} {fi : Fn} (tk : Takes X W) (hC : C = He.ga X.K Cn) (M : Mk X.K C f) (F : FU X.prog X.w X.K X.mg X.base k f fi) (hr : Room (k + 1) X.A)
    (I : Inv X pins σ H s) (r : Vals vs us) {al : List Addr} {μ : MH} {ds : List D} {Q : VK} (rp : Rep X.w X.K al H μ) (rs : RVs X.K al H ds vs) (g : gV X.w X.K al H (fun c d H' => W c d σ H') Q (fMake Cn fi ds μ)) :
    wpAny (model X.prog X.w) X.A (call (.ref C) us) (EP X pins σ Q) X.xe s := by
  rcases F.ex with ⟨fd, ps, F, hb, ar⟩ | hbad
  case inr =>
    unfold fMake at g
    rw [hbad] at g; exact g.elim
  have n0 : H s.heap.objs.size = none := I.hok.fresh (Nat.le_refl _)
  have n1 : H (s.heap.objs.size + 1) = none := I.hok.fresh (Nat.le_succ _)
  have I2 := Inv.made (C := C) I
  have ex1 : Ext X.K al H al (upd H s.heap.objs.size (.own (s.heap.objs.size + 1))) := Ext.tup1 n0 _
  have rp1 : Rep X.w X.K al (upd H s.heap.objs.size (.own (s.heap.objs.size + 1))) μ := ⟨rp.nd, rp.len, fun i a o ha ho => (rp.obj i a o ha ho).mono ex1 (upd_ne fun e => by
    obtain ⟨u, hu, _⟩ := rp.mem ha
    rw [e, n0] at hu; cases hu)⟩
  have n1' : (upd H s.heap.objs.size (.own (s.heap.objs.size + 1))) (s.heap.objs.size + 1) = none := by rw [upd_ne (Nat.ne_of_gt (Nat.lt_succ_self _))]; exact n1
  have ex2 := Ext.new (K := X.K) (al := al) n1' (.ins C s.heap.objs.size [])
  have rp2 := rp1.new n1' (ho := .ins C s.heap.objs.size []) (o := .ins Cn []) ⟨s.heap.objs.size, [], by rw [upd_same, hC], .nil⟩
  have hself : RV X.K (al ++ [s.heap.objs.size + 1]) (upd (upd H s.heap.objs.size (.own (s.heap.objs.size + 1))) (s.heap.objs.size + 1) (.ins C s.heap.objs.size [])) (.ref μ.length) (.ref (s.heap.objs.size + 1)) := .ref (by rw [← rp.len, List.getElem?_append_right (Nat.le_refl _)]; simp)
  have rs2 := RVs.mono (ex1.trans ex2) rs
  have g2 := gEnd.rebase g (ex1.trans ex2)
  have hq : spU X.w X.K ps.length fi (V.ref (s.heap.objs.size + 1) :: vs) (upd (upd H s.heap.objs.size (.own (s.heap.objs.size + 1))) (s.heap.objs.size + 1) (.ins C s.heap.objs.size [])) (fun v H2 => v = .non ∧ Q (.ref (s.heap.objs.size + 1)) H2) (WE W σ) := by
    have g3 : gV X.w X.K (al ++ [s.heap.objs.size + 1]) (upd (upd H s.heap.objs.size (.own (s.heap.objs.size + 1))) (s.heap.objs.size + 1) (.ins C s.heap.objs.size [])) (WE W σ) (fun v H2 => v = .non ∧ Q (.ref (s.heap.objs.size + 1)) H2) (fi (D.ref μ.length :: ds) (μ ++ [.ins Cn []])) :=
      gEnd.bind (k := kNon (D.ref μ.length)) g2 fun d μ3 al3 H3 v e rp3 r3 g3 => by
        cases r3 with
        | non => exact ⟨rfl, g3.ok rp3 (hself.mono e)⟩
        | _ => exact g3.elim
    exact ⟨FU.len ar (.cons hself rs2) g3, _, _, _, rp2, .cons hself rs2, g3⟩
  have r2 : Vals (V.ref (s.heap.objs.size + 1) :: vs) (Value.ref (s.heap.objs.size + 1) :: us) := .cons rfl r
  have hl : (Value.ref (s.heap.objs.size + 1) :: us ++ []).length = ps.length := by
    have e := r2.length
    rw [F.len _ _ _ _ hq] at e
    simpa using e.symm
  have bt := hb _ (Value.ref (s.heap.objs.size + 1) :: us) I2.kIn hl
  rw [List.append_nil] at bt
  refine wpAny_call (make_map (f := f) I.kIn M.makes M.init (beq_iff_eq.mp M.fn) (codeAny_mono (F.run _ X.stack _ _ ⟨Value.ref (s.heap.objs.size + 1) :: us, []⟩ (Value.ref (s.heap.objs.size + 1) :: us) _ _ (WE W σ) (hr.make C us [])
    (I2.env0.make C us []) bt r2 hq) fun r s' hq' => ?_))
  cases r with
  | error e => exact passAt tk σ pins _ _ e s' I2 hq'
  | ok fl =>
    cases fl with
    | ret u =>
      obtain ⟨v, H', I3, rv, ev, q3⟩ := I2.after hq'
      subst ev
      exact ⟨rv, ⟨V.ref (s.heap.objs.size + 1), H', I3, rfl, q3⟩⟩
    | next => exact False.elim hq'
    | brk => exact False.elim hq'
    | cont => exact False.elim hq'
theorem pem_make {Cn : Str} {fi : Fn} (M : Mk X.K (He.ga X.K Cn) f) (F : FU X.prog X.w X.K X.mg X.base k f fi) (hr : Room (k + 1) X.A) (hg : Gl X Cn) (hm : X.mg Cn = some (.ref (He.ga X.K Cn))) (hdb : (Cn == ("__debug__" : Str)) = false) (ha : PAm X (e :: es) ma) (hs : (e :: es).all notStar = true) :
    PEm X (.Call (.Name Cn p) (e :: es) [] pos) (eN (fMake Cn fi) ma) := fun W tk => ⟨fun pins s σ H Q I h => by
  obtain ⟨al, τ, μ, sr, rp, g⟩ := h
  simp only [List.all_cons, Bool.and_eq_true] at hs
  refine wpAny_Call_Name_kw (ld_glob I hg hm ?_ hdb)
  refine PySem.W.callWith_K (h₀ := X.base) I.ok.mod.kin M.kp (thn (ma_run ha tk I sr rp g pos) fun us s1 ⟨vs, H1, I1, r, al1, μ1, ds, ex, rp1, rs, g1⟩ => ⟨I1.kIn, ?_⟩) (starEach_cons hs.1) (star_plain _ _ _ hs.2)
  exact run_mk tk rfl M F hr I1 r rp1 rs g1⟩
theorem pem_make0 {Cn : Str} {fi : Fn} (M : Mk X.K (He.ga X.K Cn) f) (F : FU X.prog X.w X.K X.mg X.base k f fi) (hr : Room (k + 1) X.A) (hg : Gl X Cn) (hm : X.mg Cn = some (.ref (He.ga X.K Cn))) (hdb : (Cn == ("__debug__" : Str)) = false) :
    PEm X (.Call (.Name Cn p) [] [] pos) (eN (fMake Cn fi) aNil) := fun W tk => ⟨fun pins s σ H Q I h => by
  obtain ⟨al, τ, μ, sr, rp, g⟩ := h
  refine wpAny_Call_Name_kw (ld_glob I hg hm ?_ hdb)
  exact PySem.W.callWith_K0 I.kIn M.kp (run_mk (us := []) tk rfl M F hr I .nil rp .nil g)⟩
end
end MM
namespace MM
open PySem PySem.Spec PyProof.Rows L2

/-! ### statements' words -/
def toS {α : Type} (τ : MSt) (r : Out α) (k : α → MH → Out Fl) : Out Fl := match r with
  | .ok a μ => k a μ
  | .exc C fs μ => .ok (.ex C fs τ) μ
  | .bad => .bad
def sNx : Ms := fun τ μ => .ok (.nx τ) μ
def sBk : Ms := fun τ μ => .ok (.bk τ) μ
def sCt : Ms := fun τ μ => .ok (.ct τ) μ
def sBad : Ms := fun _ _ => .bad
def sSeq (a b : Ms) : Ms := fun τ μ => match a τ μ with
  | .ok (.nx τ') μ' => b τ' μ'
  | r => r
def sEx (m : Mx) : Ms := fun τ μ => toS τ (m τ μ) fun _ μ => .ok (.nx τ) μ
def sRet (m : Mx) : Ms := fun τ μ => toS τ (m τ μ) fun d μ => .ok (.ret d) μ
def sRetN : Ms := fun _ μ => .ok (.ret .non) μ
def sIf (t : Mt) (a b : Ms) : Ms := fun τ μ => toS τ (t τ μ) fun c μ => if c = true then a τ μ else b τ μ
/-- targets: a name, a row of names -/
inductive Tg where
  | nm (i : Nat)
  | tp (is : List Nat)
def setAll : List Nat → List D → MSt → Option MSt
  | [], [], τ => some τ
  | i :: is, d :: ds, τ => setAll is ds (τ.set i (some d))
  | _, _, _ => none
def bindT (t : Tg) (d : D) (τ : MSt) : Option MSt := match t with
  | .nm i => some (τ.set i (some d))
  | .tp is => match d with
    | .tup xs => setAll is xs τ
    | _ => none
def sAsg (m : Mx) (t : Tg) : Ms := fun τ μ => toS τ (m τ μ) fun d μ => match bindT t d τ with
  | some τ' => .ok (.nx τ') μ
  | none => .bad
/-- o[i] = v -/
def sSub (m o i : Mx) : Ms := fun τ μ => toS τ (m τ μ) fun v μ => match (o τ μ).bind fun x μ => (i τ μ).bind fun y μ => opSet x y v μ with
  | .ok _ μ => .ok (.nx τ) μ
  | _ => .bad
def putFD (f : Str) (y : D) : List (Str × D) → List (Str × D)
  | [] => [(f, y)]
  | (a, d) :: r => if a = f then (a, y) :: r else (a, d) :: putFD f y r
def opPutF (ok : Str → Bool) (f : Str) (v o : D) (μ : MH) : Out Unit := match o with
  | .ref j => match μ[j]? with
    | some (.ins C fs) => if ok C = true ∧ fs.length < 1000 then .ok () (μ.set j (.ins C (putFD f v fs))) else .bad
    | _ => .bad
  | _ => .bad
def sAtt (ok : Str → Bool) (f : Str) (m o : Mx) : Ms := fun τ μ => toS τ (m τ μ) fun v μ => toS τ ((o τ μ).bind (opPutF ok f v)) fun _ μ => .ok (.nx τ) μ
/-- x op= e, of whole numbers -/
def sAug (f : Int → Int → Int) (i : Nat) (m : Mx) : Ms := fun τ μ => match τ[i]? with
  | some (some (.int a)) => toS τ (m τ μ) fun y μ => match y with
    | .int b => .ok (.nx (τ.set i (some (.int (f a b))))) μ
    | _ => .bad
  | _ => .bad
def whileL (c : Mt) (b : Ms) : Nat → Ms
  | 0 => sBad
  | n + 1 => fun τ μ => toS τ (c τ μ) fun k μ => if k = true then match b τ μ with
    | .ok (.nx τ') μ' => whileL c b n τ' μ'
    | .ok (.ct τ') μ' => whileL c b n τ' μ'
    | .ok (.bk τ') μ' => .ok (.nx τ') μ'
    | r => r
    else .ok (.nx τ) μ
def sWhile (c : Mt) (b : Ms) : Ms := whileL c b 1000000000

section
variable {w : World} {K : PySem.W.Frag} {al al' : List Addr} {H H' : Hp} {μ : MH} {γ δ : Type} {RS : List Addr → Hp → γ → δ → Prop} {W : WX} {D : Ends} {τ : MSt} {σ : L2.St}
theorem gS.rebase {r : Out Fl} (h : gS w K al H W D r) (e : Ext K al H al' H') : gS w K al' H' W D r := by
  match r, h with
  | .ok (.nx τ) μ, h => exact fun a b c e' => h a b c (e.trans e')
  | .ok (.bk τ) μ, h => exact fun a b c e' => h a b c (e.trans e')
  | .ok (.ct τ) μ, h => exact fun a b c e' => h a b c (e.trans e')
  | .ok (.ret d) μ, h => exact fun a b c e' => h a b c (e.trans e')
  | .ok (.ex C fs τ) μ, h => exact fun a b c d f e' => h a b c d f (e.trans e')
  | .exc _ _ _, h => exact h.elim
  | .bad, h => exact h.elim
theorem gS.toS {r : Out γ} {k : γ → MH → Out Fl} {R : δ → Hp → Prop} (sr : SR K al H τ σ) (h : gS w K al H W D (toS τ r k))
    (hk : ∀ d μ1 al1 H1 v, Ext K al H al1 H1 → Rep w K al1 H1 μ1 → RS al1 H1 d v → gS w K al1 H1 W D (k d μ1) → R v H1) : gEnd w K al H RS (fun c d H' => W c d σ H') R r := by
  cases r with
  | ok d μ1 => exact fun al1 H1 v e rp rv => hk d μ1 al1 H1 v e rp rv (gS.rebase h e)
  | exc C fs μ1 => exact fun al1 H1 cls od e rp x => h al1 H1 cls od σ e rp (sr.mono e) x
  | bad => exact h
theorem gS.nx {μ : MH} (h : gS w K al H W D (.ok (.nx τ) μ)) (rp : Rep w K al H μ) (sr : SR K al H τ σ) : D.nx σ H := h al H σ Ext.refl rp sr
theorem gS.nx' {μ : MH} (h : gS w K al H W D (.ok (.nx τ) μ)) (e : Ext K al H al' H') (rp : Rep w K al' H' μ) (sr : SR K al' H' τ σ) : D.nx σ H' := h al' H' σ e rp sr
/-- other ends -/
theorem gS.ends {D' : Ends} {r : Out Fl} (h : gS w K al H W D r) (h1 : ∀ τ μ, r = .ok (.nx τ) μ → ∀ al' H' σ', Ext K al H al' H' → Rep w K al' H' μ → SR K al' H' τ σ' → D'.nx σ' H')
    (h2 : ∀ τ μ, r = .ok (.bk τ) μ → ∀ al' H' σ', Ext K al H al' H' → Rep w K al' H' μ → SR K al' H' τ σ' → D'.bk σ' H') (h3 : ∀ τ μ, r = .ok (.ct τ) μ → ∀ al' H' σ', Ext K al H al' H' → Rep w K al' H' μ → SR K al' H' τ σ' → D'.ct σ' H')
    (h4 : D'.rt = D.rt) : gS w K al H W D' r := by
  match r, h, h1, h2, h3 with
  | .ok (.nx τ) μ, h, h1, _, _ => exact h1 τ μ rfl
  | .ok (.bk τ) μ, h, _, h2, _ => exact h2 τ μ rfl
  | .ok (.ct τ) μ, h, _, _, h3 => exact h3 τ μ rfl
  | .ok (.ret d) μ, h, _, _, _ => show ∀ al' H' v, _ → _ → _ → D'.rt v H'; rw [h4]; exact h
  | .ok (.ex C fs τ) μ, h, _, _, _ => exact h
  | .exc _ _ _, h, _, _, _ => exact h.elim
  | .bad, h, _, _, _ => exact h.elim
end

section
variable {X : Cx} {e : Expr} {m : Mx} {st : Stmt} {rest : List Stmt} {a b : Ms} {pos : Pos}
theorem psm_bad : PSm X st sBad := fun W tk => ⟨fun _ _ _ _ _ _ ⟨_, _, _, _, _, g⟩ => g.elim⟩
theorem pssm_bad {st : List Stmt} : PSsm X st sBad := fun W tk => ⟨fun _ _ _ _ _ _ ⟨_, _, _, _, _, g⟩ => g.elim⟩
theorem pssm_nil : PSsm X [] sNx := fun W tk => PSs.imp pss_nil fun D σ H ⟨al, τ, μ, sr, rp, g⟩ => gS.nx g rp sr
theorem pssm_cons (h1 : PSm X st a) (h2 : PSsm X rest b) : PSsm X (st :: rest) (sSeq a b) := fun W tk => PSs.imp (pss_cons (h1 W tk) (h2 W tk)) fun D σ H ⟨al, τ, μ, sr, rp, g⟩ => by
  refine ⟨al, τ, μ, sr, rp, ?_⟩
  unfold sSeq at g
  cases q : a τ μ with
  | bad => rw [q] at g; exact g.elim
  | exc _ _ _ => rw [q] at g; exact g.elim
  | ok f μ' =>
    rw [q] at g
    cases f with
    | nx τ' => exact fun al' H' σ' e rp' sr' => ⟨al', τ', μ', sr', rp', gS.rebase g e⟩
    | ret _ => exact g
    | bk _ => exact g
    | ct _ => exact g
    | ex _ _ _ => exact g
theorem pssm_one (h1 : PSm X st a) : PSsm X [st] a := fun W tk => pss_one (h1 W tk)
theorem psm_pass : PSm X (.Pass pos) sNx := fun W tk => PS.imp ps_pass fun D σ H ⟨al, τ, μ, sr, rp, g⟩ => gS.nx g rp sr
theorem psm_break : PSm X (.Break pos) sBk := fun W tk => PS.imp ps_break fun D σ H ⟨al, τ, μ, sr, rp, g⟩ => g al H σ Ext.refl rp sr
theorem psm_continue : PSm X (.Continue pos) sCt := fun W tk => PS.imp ps_continue fun D σ H ⟨al, τ, μ, sr, rp, g⟩ => g al H σ Ext.refl rp sr
theorem psm_retN : PSm X (.Return none pos) sRetN := fun W tk => PS.imp ps_retN fun D σ H ⟨al, τ, μ, sr, rp, g⟩ => g al H .non Ext.refl rp .non
theorem psm_expr (he : PEm X e m) (hs : swapsWith e none pos.line X.env = pure false) : PSm X (.Expr e pos) (sEx m) := fun W tk => PS.imp (ps_expr (he W tk) hs) fun D σ H ⟨al, τ, μ, sr, rp, g⟩ =>
  ⟨al, τ, μ, sr, rp, gS.toS sr g fun d μ1 al1 H1 v ex rp1 r g1 => gS.nx g1 rp1 (sr.mono ex)⟩
theorem psm_ret (he : PEm X e m) : PSm X (.Return (some e) pos) (sRet m) := fun W tk => PS.imp (ps_ret (he W tk)) fun D σ H ⟨al, τ, μ, sr, rp, g⟩ =>
  ⟨al, τ, μ, sr, rp, gS.toS sr g fun d μ1 al1 H1 v ex rp1 r g1 => g1 al1 H1 v Ext.refl rp1 r⟩
theorem psm_if {t : Mt} {p q : List Stmt} (ht : PTm X e t) (ha : PSsm X p a) (hb : PSsm X q b) : PSm X (.If e p q pos) (sIf t a b) := fun W tk => PS.imp (ps_if (ht W tk) (ha W tk) (hb W tk)) fun D σ H ⟨al, τ, μ, sr, rp, g⟩ =>
  ⟨al, τ, μ, sr, rp, gS.toS sr g fun d μ1 al1 H1 v ex rp1 r g1 => by
    have r : d = v := r
    subst r
    cases d with
    | true => exact ⟨al1, τ, μ1, sr.mono ex, rp1, g1⟩
    | false => exact ⟨al1, τ, μ1, sr.mono ex, rp1, g1⟩⟩
theorem psm_while {c : Mt} {body : List Stmt} (hp : PassesOwn (model X.prog X.w) X.A X.env X.xe) (hc : PTm X e c) (hb : PSsm X body b) : PSm X (.While e body [] pos) (sWhile c b) := fun W tk => PS.imp (ps_while hp (hc W tk) (hb W tk)) fun D σ H ⟨al, τ, μ, sr, rp, g⟩ => by
  refine ⟨fun n σ H => ∃ al τ μ, SR X.K al H τ σ ∧ Rep X.w X.K al H μ ∧ gS X.w X.K al H W D (whileL c b n τ μ), ⟨1000000000, al, τ, μ, sr, rp, g⟩, ?_⟩
  rintro n σ H ⟨al, τ, μ, sr, rp, g⟩
  cases n with
  | zero => exact g.elim
  | succ n =>
    refine ⟨al, τ, μ, sr, rp, gS.toS sr g fun d μ1 al1 H1 v ex rp1 r g1 => ?_⟩
    have r : d = v := r
    subst r
    cases d with
    | false => exact gS.nx g1 rp1 (sr.mono ex)
    | true =>
      refine ⟨fun σ' H' => ∃ al τ μ, SR X.K al H' τ σ' ∧ Rep X.w X.K al H' μ ∧ gS X.w X.K al H' W D (whileL c b n τ μ), fun σ' H' h => ⟨n, Nat.lt_succ_self n, h⟩, al1, τ, μ1, sr.mono ex, rp1, ?_⟩
      have g2 : gS X.w X.K al1 H1 W D (match b τ μ1 with
        | .ok (.nx τ') μ' => whileL c b n τ' μ'
        | .ok (.ct τ') μ' => whileL c b n τ' μ'
        | .ok (.bk τ') μ' => .ok (.nx τ') μ'
        | r => r) := g1
      cases q : b τ μ1 with
      | bad => rw [q] at g2; exact g2.elim
      | exc _ _ _ => rw [q] at g2; exact g2.elim
      | ok f μ' =>
        rw [q] at g2
        cases f with
        | nx τ' => exact fun al' H' σ' e rp' sr' => ⟨al', τ', μ', sr', rp', gS.rebase g2 e⟩
        | ct τ' => exact fun al' H' σ' e rp' sr' => ⟨al', τ', μ', sr', rp', gS.rebase g2 e⟩
        | bk τ' => exact g2
        | ret _ => exact g2
        | ex _ _ _ => exact g2

/-! ### targets -/
def gSets : List Nat → TGs
  | [] => gNil
  | i :: is => gCons (gName i) (gSets is)
def gTg (K : PySem.W.Frag) : Tg → TG
  | .nm i => gName i
  | .tp is => gTup K is.length (gSets is)
def Tg.slots : Tg → List Nat
  | .nm i => [i]
  | .tp is => is
theorem wipe_set {σ : L2.St} {i : Nat} {v : Option V} : ∀ {vs : List Nat}, i ∈ vs → wipe (σ.set i v) vs = wipe σ vs
  | j :: vs, h => by
    show (wipe (σ.set i v) vs).set j none = (wipe σ vs).set j none
    by_cases hi : i ∈ vs
    · rw [wipe_set hi]
    · have e : i = j := by rcases List.mem_cons.mp h with h | h; exact h; exact absurd h hi
      subst e
      have : ∀ {σ : L2.St} {vs : List Nat}, i ∉ vs → wipe (σ.set i v) vs = (wipe σ vs).set i v := by
        intro σ vs
        induction vs with
        | nil => intro _; rfl
        | cons k ks ih =>
          intro hk
          simp only [List.mem_cons, not_or] at hk
          show (wipe (σ.set i v) ks).set k none = ((wipe σ ks).set k none).set i v
          rw [ih hk.2, List.set_comm _ _ hk.1]
      rw [this hi, List.set_set]
theorem sets_run {K : PySem.W.Frag} {al : List Addr} {H : Hp} {Q : L2.St → Hp → Prop} : ∀ {is : List Nat} {ds : List D} {vs : List V} {τ τ' : MSt} {σ : L2.St}, setAll is ds τ = some τ' → SR K al H τ σ → RVs K al H ds vs →
    (∀ σ', SR K al H τ' σ' → (∀ ws, (∀ i ∈ is, i ∈ ws) → wipe σ' ws = wipe σ ws) → Q σ' H) → gSets is vs σ H Q
  | [], [], _, τ, τ', σ, h, sr, .nil, hq => by
    have h : some τ = some τ' := h
    cases h
    exact ⟨rfl, hq σ sr fun _ _ => rfl⟩
  | i :: is, d :: ds, _, τ, τ', σ, h, sr, .cons r rs, hq => by
    refine ⟨_, _, rfl, sets_run (is := is) (ds := ds) (τ := τ.set i (some d)) h (SR.set (d := some d) (v := some _) r i sr) rs fun σ' sr' hw => hq σ' sr' fun ws hws => ?_⟩
    rw [hw ws fun j hj => hws j (List.mem_cons_of_mem _ hj), wipe_set (hws i List.mem_cons_self)]
  | [], _ :: _, _, _, _, _, h, _, _, _ => by cases h
  | _ :: _, [], _, _, _, _, h, _, _, _ => by cases h
theorem setAll_len : ∀ {is : List Nat} {ds : List D} {τ τ' : MSt}, setAll is ds τ = some τ' → ds.length = is.length
  | [], [], _, _, _ => rfl
  | _ :: is, _ :: ds, _, _, h => congrArg (· + 1) (setAll_len (is := is) (ds := ds) h)
  | [], _ :: _, _, _, h => by cases h
  | _ :: _, [], _, _, h => by cases h
theorem tg_run {K : PySem.W.Frag} {al : List Addr} {H : Hp} {Q : L2.St → Hp → Prop} {t : Tg} {d : D} {v : V} {τ τ' : MSt} {σ : L2.St} (h : bindT t d τ = some τ') (sr : SR K al H τ σ) (r : RV K al H d v)
    (hq : ∀ σ', SR K al H τ' σ' → (∀ ws, (∀ i ∈ t.slots, i ∈ ws) → wipe σ' ws = wipe σ ws) → Q σ' H) : gTg K t v σ H Q := by
  cases t with
  | nm i =>
    have h : some (τ.set i (some d)) = some τ' := h
    cases h
    exact hq _ (SR.set (d := some d) (v := some v) r i sr) fun ws hw => wipe_set (hw i (by simp [Tg.slots]))
  | tp is =>
    cases r with
    | @tup p xs vs hs rs =>
      have h : setAll is xs τ = some τ' := h
      exact ⟨p, vs, rfl, hs, by rw [← rs.length]; exact setAll_len h, sets_run h sr rs hq⟩
    | _ => cases h
theorem assignEach_plain {env : Env} : ∀ {es : List Expr}, es.all notStar = true → (assignEach es env).length = es.length ∧ (assignEach es env).findIdx? (·.1) = none ∧ (assignEach es env).map (·.2) = es.map fun e => assign e env
  | [], _ => ⟨rfl, rfl, rfl⟩
  | e :: es, h => by
    simp only [List.all_cons, Bool.and_eq_true] at h
    obtain ⟨h1, h2, h3⟩ := assignEach_plain (env := env) h.2
    have q : assignEach (e :: es) env = (false, assign e env) :: assignEach es env := by
      cases e <;> first | rfl | exact absurd h.1 Bool.false_ne_true
    rw [q]
    refine ⟨by simp [h1], by simp [List.findIdx?_cons, h2], by simp [h3]⟩
/-- names' places, as a target's -/
structure Nm (X : Cx) (x : Str) (i : Nat) : Prop where
  at_ : X.N[i]? = some x
  loc : Loc X.env.scope x
  fn : X.fn x = true ∨ X.env.scope.names.lookup x = some .local
inductive Nms (X : Cx) : List Expr → List Nat → Prop where
  | nil : Nms X [] []
  | cons {x : Str} {p : Pos} {i : Nat} {es : List Expr} {is : List Nat} (h : Nm X x i) (t : Nms X es is) : Nms X (.Name x p :: es) (i :: is)
theorem Nms.star {X : Cx} : ∀ {es : List Expr} {is : List Nat}, Nms X es is → es.all notStar = true
  | _, _, .nil => rfl
  | _, _, .cons _ t => by rw [List.all_cons, Nms.star t] <;> rfl
theorem Nms.len {X : Cx} : ∀ {es : List Expr} {is : List Nat}, Nms X es is → es.length = is.length
  | _, _, .nil => rfl
  | _, _, .cons _ t => congrArg (· + 1) (Nms.len t)
theorem pgs_names {X : Cx} (hN : X.N.Nodup) : ∀ {es : List Expr} {is : List Nat}, Nms X es is → PGs X es (gSets is)
  | _, _, .nil => pgs_nil
  | _, _, .cons h t => pgs_cons (pg_name hN h.at_ h.loc h.fn) (pgs_names hN t)
/-- the target is of that form -/
inductive TgOf (X : Cx) : Expr → Tg → Prop where
  | nm {x : Str} {p : Pos} {i : Nat} (h : Nm X x i) : TgOf X (.Name x p) (.nm i)
  | tp {es : List Expr} {k : Nat} {p : Pos} {is : List Nat} (h : Nms X es is) : TgOf X (.Tuple es k p) (.tp is)
theorem pg_of (hN : X.N.Nodup) (hc : X.calm = true) {e : Expr} {t : Tg} (h : TgOf X e t) : PG X e (gTg X.K t) := by
  cases h with
  | nm h => exact pg_name hN h.at_ h.loc h.fn
  | tp h => exact pg_tup hc (pgs_names hN h) (by rw [(assignEach_plain h.star).1, h.len]) (assignEach_plain h.star).2.1
def noComp : Expr → Bool
  | .ListComp .. => false
  | .SetComp .. => false
  | .DictComp .. => false
  | _ => true
theorem swaps_no {e : Expr} {t : Option Expr} {l : Nat} {env : Env} (h : noComp e = true) : swapsWith e t l env = pure false := by
  unfold swapsWith
  cases e <;> first | rfl | exact absurd h Bool.false_ne_true
def isTup : Expr → Bool
  | .Tuple .. => true
  | _ => false
theorem swapped_no {t e : Expr} {env : Env} (h : (isTup t && isTup e) = false) (hl : ∀ es p, t ≠ .List es p) : swappedStores [t] e env = pure none := by
  unfold swappedStores
  cases t <;> first
    | rfl
    | (cases e <;> first | rfl | exact absurd h Bool.noConfusion)
    | exact absurd rfl (hl _ _)
theorem tM_asg {t : Tg} {W : WX} {D : Ends} {σ : L2.St} {H : Hp} (h : tMS X.w X.K W (sAsg m t) D σ H) : tAsg (tM X.w X.K W m) (gTg X.K t) D σ H := by
  obtain ⟨al, τ, μ, sr, rp, g⟩ := h
  refine ⟨al, τ, μ, sr, rp, gS.toS sr g fun d μ1 al1 H1 v ex rp1 r g1 => ?_⟩
  split at g1
  · rename_i τ' hb
    exact tg_run hb (sr.mono ex) r fun σ' sr' _ => gS.nx g1 rp1 sr'
  · exact g1.elim
theorem tgof_sub {e : Expr} {t : Tg} (h : TgOf X e t) : (∀ es p, e ≠ .List es p) ∧ (assignEach [e] X.env).map (·.2) = [assign e X.env] := by
  cases h with
  | nm h => exact ⟨fun _ _ z => (nomatch z), rfl⟩
  | tp h => exact ⟨fun _ _ z => (nomatch z), rfl⟩
theorem psm_asg {tg : Expr} {t : Tg} (hN : X.N.Nodup) (hc : X.calm = true) (ht : TgOf X tg t) (he : PEm X e m) (hs : swapsWith e (some tg) pos.line X.env = pure false) (hw : (isTup tg && isTup e) = false) : PSm X (.Assign [tg] e pos) (sAsg m t) := fun W tk =>
  PS.imp (ps_asg (he W tk) (pg_of hN hc ht) hs (swapped_no hw (tgof_sub ht).1) (tgof_sub ht).2) fun D σ H h => tM_asg h

/-! ### o[i] = v, o.f = v, x op= v -/
theorem takes_no : Takes X (fun _ _ _ _ => False) := fun u s' ⟨_, _, _, _, _, _, _, _, _, _, _, _, _, _, _, _, w⟩ => w.elim
def rSet (w : World) (K : PySem.W.Frag) : TSet := fun o i v H Q => ∃ al μ d k e, Rep w K al H μ ∧ RV K al H d o ∧ RV K al H k i ∧ RV K al H e v ∧ gEnd w K al H (fun _ _ _ => fun _ => True) (fun _ _ _ => False) (fun (_ : Unit) H' => Q H') (opSet d k e μ)
theorem pset_m (hu : X.A.units + 10 < cLine) : PSet X (rSet X.w X.K) := fun pins s σ H o i v ov iv u Q I r1 r2 r3 ⟨al, μ, d, k, e, rp, q1, q2, q3, g⟩ => set_m hu I r1 r2 r3 rp q1 q2 q3 g
theorem mild_set {o i v : D} {μ μ' : MH} {C : Str} {fs} : opSet o i v μ ≠ .exc C fs μ' := fun h => by
  unfold opSet at h
  split at h
  · split at h
    · split at h
      · split at h <;> cases h
      · cases h
    · split at h <;> cases h
    · cases h
  · cases h
def notSlice : Expr → Bool
  | .Slice .. => false
  | _ => true
theorem assign_sub {o i : Expr} {p : Pos} {env : Env} (v : Value) (h : notSlice i = true) : assign (.Subscript o i p) env v = (do
      let ov ← holding [v] (eval o env)
      let iv ← holding [v, ov] (eval i env)
      standAt p
      holding [v, ov, iv] (setItem ov iv v)
      release [v, ov, iv] []) := by
  cases i <;> first | rfl | exact absurd h Bool.false_ne_true
theorem psm_sub {o i : Expr} {mo mi : Mx} {p : Pos} (hu : X.A.units + 10 < cLine) (he : PEm X e m) (ho : PEm X o mo) (hi : PEm X i mi) (hs : notSlice i = true) : PSm X (.Assign [.Subscript o i p] e pos) (sSub m mo mi) := fun W tk =>
  PS.imp (ps_asg (he W tk) (pg_sub (ho _ takes_no) (hi _ takes_no) (pset_m hu) fun v => assign_sub v hs) (by
      show swapsWith e (some (.Subscript o i p)) pos.line X.env = pure false
      unfold swapsWith
      cases e <;> rfl) (swapped_no rfl (fun _ _ z => (nomatch z))) rfl) fun D σ H h => by
    obtain ⟨al, τ, μ, sr, rp, g⟩ := h
    refine ⟨al, τ, μ, sr, rp, gS.toS sr g fun d μ1 al1 H1 v ex rp1 r g1 => ?_⟩
    have sr1 := sr.mono ex
    have g2 : gEnd X.w X.K al1 H1 (fun _ _ (_ : Unit) (_ : Unit) => True) (fun _ _ _ => False) (fun (_ : Unit) H' => D.nx σ H') ((mo τ μ1).bind fun x μ => (mi τ μ).bind fun y μ => opSet x y d μ) := by
      cases q : (mo τ μ1).bind fun x μ => (mi τ μ).bind fun y μ => opSet x y d μ with
      | ok u μ2 => rw [q] at g1; exact fun al' H' _ e rp' _ => gS.nx' g1 e rp' (sr1.mono e)
      | exc _ _ _ => rw [q] at g1; exact g1.elim
      | bad => rw [q] at g1; exact g1.elim
    refine ⟨al1, τ, μ1, sr1, rp1, gEnd.bind (k := fun x μ => (mi τ μ).bind fun y μ => opSet x y d μ) g2 fun x μ2 al2 H2 v2 e2 rp2 r2 g3 => ?_⟩
    refine ⟨al2, τ, μ2, sr1.mono e2, rp2, gEnd.bind (k := fun y μ => opSet x y d μ) g3 fun y μ3 al3 H3 v3 e3 rp3 r3 g4 => ?_⟩
    exact ⟨al3, μ3, x, y, d, rp3, r2.mono e3, r3, (r.mono e2).mono e3, g4⟩
theorem FsR.put {K : PySem.W.Frag} {al : List Addr} {H : Hp} {f : Str} {d : D} {v : V} (r : RV K al H d v) : ∀ {fs : List (Str × D)} {vs : List (Str × V)}, FsR K al H fs vs → FsR K al H (putFD f d fs) (putF f v vs)
  | _, _, .nil => by
    have z : RV K al H ((f, d) : Str × D).2 ((f, v) : Str × V).2 := r
    exact .cons (a := (f, d)) (b := (f, v)) ⟨rfl, z⟩ .nil
  | (a, x) :: fs, (b, y) :: vs, .cons q t => by
    obtain ⟨e, q⟩ := q
    have e : a = b := e
    subst e
    unfold putFD putF
    by_cases h : a = f
    · rw [if_pos h, if_pos h]
      exact .cons (a := (a, d)) (b := (a, v)) ⟨rfl, r⟩ t
    · rw [if_neg h, if_neg h]
      exact .cons (a := (a, x)) (b := (a, y)) ⟨rfl, q⟩ (FsR.put r t)
theorem putF_mild {ok : Str → Bool} {f : Str} {v o : D} {μ μ' : MH} {C : Str} {fs} : opPutF ok f v o μ ≠ .exc C fs μ' := fun h => by
  unfold opPutF at h
  split at h
  · split at h
    · split at h <;> cases h
    · cases h
  · cases h
theorem psm_att {o : Expr} {mo : Mx} {p : Pos} {ok : Str → Bool} {f : Str} (hok : ∀ C, ok C = true → Cls X.K (He.ga X.K C) ∧ NoAttr X.K (He.ga X.K C) f) (he : PEm X e m) (ho : PEm X o mo) : PSm X (.Assign [.Attribute o f p] e pos) (sAtt ok f m mo) := fun W tk =>
  PS.imp (ps_fld (ho W tk) (he W tk) (by
      unfold swapsWith
      cases e <;> rfl)) fun D σ H h => by
    obtain ⟨al, τ, μ, sr, rp, g⟩ := h
    refine ⟨al, τ, μ, sr, rp, gS.toS sr g fun d μ1 al1 H1 v ex rp1 r g1 => ?_⟩
    have sr1 := sr.mono ex
    have g2 := gS.toS (RS := fun _ _ (_ : Unit) (_ : Unit) => True) (R := fun _ H' => D.nx σ H') sr1 g1 fun _ μ2 al2 H2 _ e2 rp2 _ g3 => gS.nx g3 rp2 (sr1.mono e2)
    refine ⟨al1, τ, μ1, sr1, rp1, gEnd.bind (k := opPutF ok f d) g2 fun x μ2 al2 H2 v2 e2 rp2 r2 g3 => ?_⟩
    unfold opPutF at g3
    split at g3
    · split at g3
      · rename_i C fs hx
        split at g3
        · rename_i hh
          obtain ⟨hC, hl⟩ := hh
          cases r2 with
          | @ref j a hp =>
            obtain ⟨dx, vs, h1, h2⟩ := rp2.of hp hx
            obtain ⟨c, n⟩ := hok C hC
            have ex2 := Ext.write rp2 hp hx rfl (.ins (He.ga X.K C) dx (putF f v vs))
            have el := PySem.Paired.length h2
            refine ⟨a, _, dx, vs, rfl, h1, c, n, by rw [← el]; exact hl, ?_⟩
            exact g3.ok' (v := ()) ex2 (rp2.write hp hx rfl ⟨dx, _, upd_same, (FsR.put (r.mono e2) h2 : FsR _ _ _ _ _) |> fun z => L2.Paired.mapP z fun _ _ q => ⟨q.1, q.2.mono ex2⟩⟩) True.intro
        · exact g3.elim
      · exact g3.elim
    · exact g3.elim
theorem psm_aug {x : Str} {i : Nat} {p : Pos} {op : Operator} {f : Int → Int → Int} (hN : X.N.Nodup) (hn : Nm X x i) (hop : PIp X op (ipI f)) (he : PEm X e m) : PSm X (.AugAssign (.Name x p) op e pos) (sAug f i m) := fun W tk =>
  PS.imp (ps_aug hN hn.at_ hn.loc (he W tk) hop hn.fn) fun D σ H h => by
    obtain ⟨al, τ, μ, sr, rp, g⟩ := h
    unfold sAug at g
    split at g
    · rename_i a ha
      obtain ⟨v, h1, h2⟩ := sr.get ha
      cases h2
      refine ⟨_, h1, al, τ, μ, sr, rp, gS.toS sr g fun d μ1 al1 H1 v ex rp1 r g1 => ?_⟩
      split at g1
      · cases r
        exact ⟨_, _, rfl, rfl, gS.nx g1 rp1 (SR.set (d := some _) (v := some _) (.int _) i (sr.mono ex))⟩
      · exact g1.elim
    · exact g.elim
end
end MM
namespace MM
open PySem PySem.Spec PyProof.Rows L2

/-! ### what a loop walks -/
structure Plan where
  items : List D
  still : MH → Prop
  lock : MH → MH
  fin : MH → Option MH
/-- back from a lock: nothing, or the thing at d is let go (al0, H0: ahead of the lock) -/
def FinR (X : Cx) (al0 : List Addr) (H0 : Hp) (al : List Addr) (H : Hp) (μ μ' : MH) : Prop := (μ' = μ ∧ Ext X.K al0 H0 al H) ∨
  ∃ d od u, H d = some (.frz od u) ∧ (∀ o' u', X.H_0 d ≠ some (.frz o' u')) ∧ Ext X.K al0 H0 al (upd H d u) ∧ ExtW X.K al H al (upd H d u) ∧ Rep X.w X.K al (upd H d u) μ'
def unlQ {α : Type} (X : Cx) (Q : α → Hp → Prop) : α → Hp → Prop := fun v H => Q v H ∨ ∃ d od u, H d = some (.frz od u) ∧ (∀ o' u', X.H_0 d ≠ some (.frz o' u')) ∧ Q v (upd H d u)
def unlD (X : Cx) (D : Ends) : Ends := ⟨unlQ X D.nx, unlQ X D.rt, unlQ X D.bk, unlQ X D.ct⟩
def unlW (X : Cx) (W : WX) : WX := fun c od σ H => W c od σ H ∨ ∃ d o u, H d = some (.frz o u) ∧ (∀ o' u', X.H_0 d ≠ some (.frz o' u')) ∧ W c od σ (upd H d u)
theorem takes_unl {X : Cx} {W : WX} (tk : Takes X W) : Takes X (unlW X W) := fun u s' ⟨a, B, sI, pins, σ, H, cls, d, e, I, nb, up, sky, na, os, ag, w⟩ => by
  rcases w with w | ⟨b, o, u', h1, h2, w⟩
  · exact tk u s' ⟨a, B, sI, pins, σ, H, cls, d, e, I, nb, up, sky, na, os, ag, w⟩
  · exact tk u s' ⟨a, B, sI, pins, σ, _, cls, d, e, I.unlock h1 h2, nb, up, sky, by rw [upd_ne (fun z => by rw [z, h1] at na; cases na)]; exact na, os, ag, w⟩
theorem ps_unl {X : Cx} {st : Stmt} {t : TS} (h : PS X st t) : PS X st (fun D σ H => t (unlD X D) σ H) := by
  refine ⟨fun pins s σ H D I hw => thn (h.run pins s σ H _ I hw) fun f s1 q => ?_⟩
  cases f with
  | next =>
    obtain ⟨σ', H', I2, q⟩ := q
    rcases q with q | ⟨d, od, u, h1, h2, q⟩
    · exact ⟨σ', H', I2, q⟩
    · exact ⟨σ', _, I2.unlock h1 h2, q⟩
  | brk =>
    obtain ⟨σ', H', I2, q⟩ := q
    rcases q with q | ⟨d, od, u, h1, h2, q⟩
    · exact ⟨σ', H', I2, q⟩
    · exact ⟨σ', _, I2.unlock h1 h2, q⟩
  | cont =>
    obtain ⟨σ', H', I2, q⟩ := q
    rcases q with q | ⟨d, od, u, h1, h2, q⟩
    · exact ⟨σ', H', I2, q⟩
    · exact ⟨σ', _, I2.unlock h1 h2, q⟩
  | ret v =>
    obtain ⟨x, σ', H', I2, r, q⟩ := q
    rcases q with q | ⟨d, od, u, h1, h2, q⟩
    · exact ⟨x, σ', H', I2, r, q⟩
    · exact ⟨x, σ', _, I2.unlock h1 h2, r, q⟩
theorem pe_unl {X : Cx} {e : Expr} {t : TE} (h : PE X e t) : PE X e (fun σ H Q => t σ H (unlQ X Q)) := by
  refine ⟨fun pins s σ H Q I hw => thn (h.run pins s σ H _ I hw) fun v s1 ⟨x, H1, I2, r, q⟩ => ?_⟩
  rcases q with q | ⟨d, od, u, h1, h2, q⟩
  · exact ⟨x, H1, I2, r, q⟩
  · exact ⟨x, _, I2.unlock h1 h2, r, q⟩
def endF (fin : MH → Option MH) (r : Out Fl) : Out Fl := match r with
  | .ok f μ => match fin μ with
    | some μ' => .ok f μ'
    | none => .bad
  | r => r
theorem gEnd.impE {w : World} {K : PySem.W.Frag} {α β : Type} {al : List Addr} {H : Hp} {RR : List Addr → Hp → α → β → Prop} {E E' : XW} {Q : β → Hp → Prop} {r : Out α} (i : ∀ c d H', E c d H' → E' c d H') (h : gEnd w K al H RR E Q r) : gEnd w K al H RR E' Q r := by
  cases r with
  | ok d μ => exact h
  | exc C fs μ => exact fun a b c d e f g => i _ _ _ (h a b c d e f g)
  | bad => exact h
theorem SR.monoW {K : PySem.W.Frag} {al al' : List Addr} {H H' : Hp} {τ : MSt} {σ : L2.St} (e : ExtW K al H al' H') (h : SR K al H τ σ) : SR K al' H' τ σ := L2.Paired.mapP h fun a b q => by
  cases a with
  | none => exact True.intro
  | some d => cases b with
    | none => exact q
    | some v => exact RV.monoW e q
theorem gS.fin {X : Cx} {al : List Addr} {H Hl : Hp} {W : WX} {D : Ends} {fin : MH → Option MH} {r : Out Fl} (h : gS X.w X.K al H W D (endF fin r)) (hf : ∀ al' H' μ μ', Ext X.K al Hl al' H' → Rep X.w X.K al' H' μ → fin μ = some μ' → FinR X al H al' H' μ μ') :
    gS X.w X.K al Hl (unlW X W) (unlD X D) r := by
  cases r with
  | bad => exact h.elim
  | exc _ _ _ => exact h.elim
  | ok f μ =>
    unfold endF at h
    dsimp only at h
    cases q : fin μ with
    | none => rw [q] at h; exact h.elim
    | some μ' =>
      rw [q] at h
      dsimp only at h
      cases f with
      | nx τ =>
        intro al' H' σ' e rp sr
        rcases hf al' H' μ μ' e rp q with ⟨rfl, e3⟩ | ⟨d, od, u, h1, h2, e3, e2, rp2⟩
        · exact .inl (h al' H' σ' e3 rp sr)
        · exact .inr ⟨d, od, u, h1, h2, h al' _ σ' e3 rp2 (sr.monoW e2)⟩
      | bk τ =>
        intro al' H' σ' e rp sr
        rcases hf al' H' μ μ' e rp q with ⟨rfl, e3⟩ | ⟨d, od, u, h1, h2, e3, e2, rp2⟩
        · exact .inl (h al' H' σ' e3 rp sr)
        · exact .inr ⟨d, od, u, h1, h2, h al' _ σ' e3 rp2 (sr.monoW e2)⟩
      | ct τ =>
        intro al' H' σ' e rp sr
        rcases hf al' H' μ μ' e rp q with ⟨rfl, e3⟩ | ⟨d, od, u, h1, h2, e3, e2, rp2⟩
        · exact .inl (h al' H' σ' e3 rp sr)
        · exact .inr ⟨d, od, u, h1, h2, h al' _ σ' e3 rp2 (sr.monoW e2)⟩
      | ret d0 =>
        intro al' H' v e rp rv
        rcases hf al' H' μ μ' e rp q with ⟨rfl, e3⟩ | ⟨d, od, u, h1, h2, e3, e2, rp2⟩
        · exact .inl (h al' H' v e3 rp rv)
        · exact .inr ⟨d, od, u, h1, h2, h al' _ v e3 rp2 (rv.monoW e2)⟩
      | ex C fs τ =>
        intro al' H' cls dd σ' e rp sr x
        rcases hf al' H' μ μ' e rp q with ⟨rfl, e3⟩ | ⟨d, od, u, h1, h2, e3, e2, rp2⟩
        · exact .inl (h al' H' cls dd σ' e3 rp sr x)
        · refine .inr ⟨d, od, u, h1, h2, h al' _ cls dd σ' e3 rp2 (sr.monoW e2) ⟨x.1, ?_⟩⟩
          rcases x.2 with x | ⟨k, vs, x1, x2, x3⟩
          · exact .inl x
          · exact .inr ⟨k, vs, x1, by rw [upd_ne (fun z => by rw [z, h1] at x2; cases x2)]; exact x2, L2.Paired.mapP x3 fun _ _ q => ⟨q.1, q.2.monoW e2⟩⟩
def PlaysI (w : World) (K : PySem.W.Frag) (al0 : List Addr) (H0 : Hp) (pl : Plan) (J : It) : Prop := ∀ (al : List Addr) (H : Hp) (μ : MH) (i : Nat), Ext K al0 H0 al H → Rep w K al H μ → pl.still μ →
  (i = pl.items.length → J.stop i H) ∧ ∀ d, pl.items[i]? = some d → J.go i H ∧ ∀ x H', J.yld i H x H' → ∃ al', Ext K al H al' H' ∧ Rep w K al' H' μ ∧ RV K al' H' d x
/-- how an iterator lies: H ahead of the lock, Hl behind it -/
structure Plays (X : Cx) (al : List Addr) (H : Hp) (μ : MH) (pl : Plan) (J : It) (Hl : Hp) : Prop where
  ext : Ext X.K al H al Hl
  rep : Rep X.w X.K al Hl (pl.lock μ)
  items : PlaysI X.w X.K al Hl pl J
  fin : ∀ (al' : List Addr) (H' : Hp) (μ1 μ2 : MH), Ext X.K al Hl al' H' → Rep X.w X.K al' H' μ1 → pl.fin μ1 = some μ2 → FinR X al H al' H' μ1 μ2
abbrev Mi := MSt → MH → Out Plan
def gI (X : Cx) (al : List Addr) (H : Hp) (E : XW) (R : It → Hp → Prop) : Out Plan → Prop
  | .ok pl μ => ∀ al' H' J Hl, Ext X.K al H al' H' → Rep X.w X.K al' H' μ → Plays X al' H' μ pl J Hl → R J Hl
  | .exc C fs μ => ∀ al' H' cls od, Ext X.K al H al' H' → Rep X.w X.K al' H' μ → XR X.K al' H' C fs cls od → E cls od H'
  | .bad => False
def tMI (X : Cx) (W : WX) (m : Mi) : TI := fun σ H R => ∃ al τ μ, SR X.K al H τ σ ∧ Rep X.w X.K al H μ ∧ gI X al H (fun c d H' => W c d σ H') R (m τ μ)
def PIm (X : Cx) (tg iter : Expr) (m : Mi) : Prop := ∀ W, Takes X W → PI X tg iter (tMI X W m)
theorem gI.rebase {X : Cx} {al al' : List Addr} {H H' : Hp} {E : XW} {R : It → Hp → Prop} {r : Out Plan} (h : gI X al H E R r) (e : Ext X.K al H al' H') : gI X al' H' E R r := by
  cases r with
  | ok pl μ => exact fun a b c d e' => h a b c d (e.trans e')
  | exc C fs μ => exact fun a b c d e' => h a b c d (e.trans e')
  | bad => exact h
theorem gI.bind {X : Cx} {al : List Addr} {H : Hp} {γ δ : Type} {E : XW} {R : It → Hp → Prop} {RS : List Addr → Hp → γ → δ → Prop} {S : δ → Hp → Prop} {r : Out γ} {k : γ → MH → Out Plan} (h : gI X al H E R (r.bind k))
    (hk : ∀ d μ1 al1 H1 v, Ext X.K al H al1 H1 → Rep X.w X.K al1 H1 μ1 → RS al1 H1 d v → gI X al1 H1 E R (k d μ1) → S v H1) : gEnd X.w X.K al H RS E S r := by
  cases r with
  | ok d μ1 => exact fun al1 H1 v e rp rv => hk d μ1 al1 H1 v e rp rv (gI.rebase h e)
  | exc C fs μ1 => exact h
  | bad => exact h
theorem gI.ok {X : Cx} {al : List Addr} {H : Hp} {E : XW} {R : It → Hp → Prop} {pl : Plan} {μ : MH} {J : It} {Hl : Hp} (h : gI X al H E R (.ok pl μ)) (rp : Rep X.w X.K al H μ) (p : Plays X al H μ pl J Hl) : R J Hl := h al H J Hl Ext.refl rp p
theorem PI.imp {X : Cx} {tg e : Expr} {t t' : TI} (h : PI X tg e t) (i : ∀ σ H R, t' σ H R → t σ H R) : PI X tg e t' := ⟨fun pins s σ H R I q => h.run pins s σ H R I (i σ H R q)⟩
open Classical in
noncomputable def forL (still : MH → Prop) (t : Tg) (b : Ms) : List D → Ms
  | [], τ, μ => if still μ then .ok (.nx τ) μ else .bad
  | x :: xs, τ, μ => if still μ then match bindT t x τ with
    | some τ1 => match b τ1 μ with
      | .ok (.nx τ2) μ2 => forL still t b xs τ2 μ2
      | .ok (.ct τ2) μ2 => forL still t b xs τ2 μ2
      | .ok (.bk τ2) μ2 => .ok (.nx τ2) μ2
      | r => r
    | none => .bad
    else .bad
noncomputable def sFor (it : Mi) (t : Tg) (b : Ms) : Ms := fun τ μ => toS τ (it τ μ) fun pl μ => endF pl.fin (forL pl.still t b pl.items τ (pl.lock μ))
open Classical in
noncomputable def lcL (still : MH → Prop) (t : Tg) (c : Mt) (e : Mx) (τ : MSt) (j : Nat) : List D → MH → Out Unit
  | [], μ => if still μ then .ok () μ else .bad
  | x :: xs, μ => if still μ then match bindT t x τ with
    | some τ1 => match c τ1 μ with
      | .ok true μ2 => match e τ1 μ2 with
        | .ok y μ3 => match μ3[j]? with
          | some (.lst acc) => if acc.length < sizeLine then lcL still t c e τ j xs (μ3.set j (.lst (acc ++ [y]))) else .bad
          | _ => .bad
        | _ => .bad
      | .ok false μ2 => lcL still t c e τ j xs μ2
      | _ => .bad
    | none => .bad
    else .bad
def kRef (fin : MH → Option MH) (j : Nat) (_ : Unit) (μ : MH) : Out D := match fin μ with
  | some μ' => .ok (.ref j) μ'
  | none => .bad
noncomputable def kLc (t : Tg) (c : Mt) (e : Mx) (vs : List Nat) (τ : MSt) (pl : Plan) (μ1 : MH) : Out D := (lcL pl.still t c e (wipeM τ vs) (pl.lock μ1).length pl.items (pl.lock μ1 ++ [.lst []])).bind (kRef pl.fin (pl.lock μ1).length)
noncomputable def eLc (it : Mi) (t : Tg) (c : Mt) (e : Mx) (vs : List Nat) : Mx := fun τ μ => (it τ μ).bind (kLc t c e vs τ)
def tYesM : Mt := fun _ μ => .ok true μ

section
variable {X : Cx} {tg iter e : Expr} {it : Mi} {t : Tg} {b : Ms} {body : List Stmt} {pos : Pos}
def noSet : Expr → Bool
  | .Set .. => false
  | _ => true
theorem folded_no {env : Env} (h : noSet iter = true) (x : Value) : foldedSetIterable iter env x = pure x := by
  cases iter <;> first | rfl | exact absurd h Bool.false_ne_true
theorem for_core {W : WX} {D : Ends} {al al1 : List Addr} {H H1 Hl : Hp} {τ : MSt} {σ : L2.St} {μ1 : MH} {pl : Plan} {J : It} (sr : SR X.K al H τ σ) (ex : Ext X.K al H al1 H1) (pj2 : Plays X al1 H1 μ1 pl J Hl)
    (g0 : gS X.w X.K al1 H1 W D (endF pl.fin (forL pl.still t b pl.items τ (pl.lock μ1)))) : ∃ Wi : Nat → Nat → L2.St → Hp → Prop, (∃ m, Wi 0 m σ Hl) ∧ ∀ i m σ H, Wi i m σ H →
        (J.stop i H ∧ (unlD X D).nx σ H) ∨ (J.go i H ∧ ∃ N : L2.St → Hp → Prop, (∀ σ' H', N σ' H' → ∃ m', m' < m ∧ Wi (i + 1) m' σ' H') ∧ ∀ x H', J.yld i H x H' → gTg X.K t x σ H' fun σ2 H2 => tMS X.w X.K (unlW X W) b { unlD X D with nx := N, ct := N, bk := (unlD X D).nx } σ2 H2) := by
    have g1 := gS.fin g0 pj2.fin
    have pj := pj2.items
    have ex2 := pj2.ext
    generalize hW' : unlW X W = W' at g1 ⊢
    generalize hD' : unlD X D = D' at g1 ⊢
    refine ⟨fun i m σ H => ∃ al τ μ, SR X.K al H τ σ ∧ Rep X.w X.K al H μ ∧ Ext X.K al1 Hl al H ∧ m = pl.items.length - i ∧ i ≤ pl.items.length ∧ gS X.w X.K al H W' D' (forL pl.still t b (pl.items.drop i) τ μ),
      ⟨pl.items.length, al1, τ, pl.lock μ1, (sr.mono ex).mono ex2, pj2.rep, Ext.refl, by simp, Nat.zero_le _, g1⟩, ?_⟩
    rintro i m σ H ⟨al, τ, μ, sr, rp, ex, rfl, hi, g⟩
    by_cases hlt : i < pl.items.length
    · rw [List.drop_eq_getElem_cons hlt] at g
      unfold forL at g
      split at g
      · rename_i hst
        obtain ⟨_, p2⟩ := pj al H μ i ex rp hst
        obtain ⟨go, p3⟩ := p2 pl.items[i] (by simp [hlt])
        refine .inr ⟨go, fun σ' H' => ∃ al τ μ, SR X.K al H' τ σ' ∧ Rep X.w X.K al H' μ ∧ Ext X.K al1 Hl al H' ∧ gS X.w X.K al H' W' D' (forL pl.still t b (pl.items.drop (i + 1)) τ μ), fun σ' H' ⟨al', τ', μ', a, b', c, d⟩ => ⟨_, by omega, al', τ', μ', a, b', c, rfl, hlt, d⟩, fun x H' hy => ?_⟩
        obtain ⟨al', e', rp', rv⟩ := p3 x H' hy
        have g' := gS.rebase g e'
        have sr' := sr.mono e'
        split at g'
        · rename_i τ1 hbt
          refine tg_run hbt sr' rv fun σ1 sr1 _ => ⟨al', τ1, μ, sr1, rp', ?_⟩
          cases q : b τ1 μ with
          | bad => rw [q] at g'; exact g'.elim
          | exc _ _ _ => rw [q] at g'; exact g'.elim
          | ok f μ2 =>
            rw [q] at g'
            cases f with
            | nx τ2 => exact fun al2 H2 σ2 e2 rp2 sr2 => ⟨al2, τ2, μ2, sr2, rp2, (ex.trans e').trans e2, gS.rebase g' e2⟩
            | ct τ2 => exact fun al2 H2 σ2 e2 rp2 sr2 => ⟨al2, τ2, μ2, sr2, rp2, (ex.trans e').trans e2, gS.rebase g' e2⟩
            | bk τ2 => exact g'
            | ret _ => exact g'
            | ex _ _ _ => exact g'
        · exact g'.elim
      · exact g.elim
    · have e : i = pl.items.length := by omega
      subst e
      rw [List.drop_length] at g
      unfold forL at g
      split at g
      · rename_i hst
        exact .inl ⟨(pj al H μ _ ex rp hst).1 rfl, gS.nx g rp sr⟩
      · exact g.elim

theorem psm_for (hN : X.N.Nodup) (hc : X.calm = true) (hp : PassesOwn (model X.prog X.w) X.A X.env X.xe) (hi : PIm X tg iter it) (ht : TgOf X tg t) (hb : PSsm X body b) (hs : noSet iter = true) : PSm X (.For tg iter body [] pos) (sFor it t b) := fun W tk =>
  PS.imp (ps_unl (ps_for hp hc (hi _ (takes_unl tk)) (pg_of hN hc ht) (hb _ (takes_unl tk)) (folded_no hs))) fun D σ H h => by
    obtain ⟨al, τ, μ, sr, rp, g⟩ := h
    refine ⟨al, τ, μ, sr, rp, ?_⟩
    have key : ∀ r : Out Plan, gS X.w X.K al H W D (toS τ r fun pl μ => endF pl.fin (forL pl.still t b pl.items τ (pl.lock μ))) → gI X al H (fun c d H' => unlW X W c d σ H') (fun J H1 => ∃ Wi : Nat → Nat → L2.St → Hp → Prop, (∃ m, Wi 0 m σ H1) ∧ ∀ i m σ H, Wi i m σ H →
        (J.stop i H ∧ (unlD X D).nx σ H) ∨ (J.go i H ∧ ∃ N : L2.St → Hp → Prop, (∀ σ' H', N σ' H' → ∃ m', m' < m ∧ Wi (i + 1) m' σ' H') ∧ ∀ x H', J.yld i H x H' → gTg X.K t x σ H' fun σ2 H2 => tMS X.w X.K (unlW X W) b { unlD X D with nx := N, ct := N, bk := (unlD X D).nx } σ2 H2)) r := by
      intro r g
      cases r with
      | bad => exact g.elim
      | exc C fs μ1 => exact fun a b c d e f x => .inl (g a b c d σ e f (sr.mono e) x)
      | ok pl μ1 =>
        intro al1 H1 J Hl ex rp1 pj
        have g1 : gS X.w X.K al1 H1 W D (endF pl.fin (forL pl.still t b pl.items τ (pl.lock μ1))) := gS.rebase g ex
        exact for_core sr ex pj g1
    exact key _ g
/-! ### list comprehensions -/
theorem wipe_wipe {σ : L2.St} : ∀ {vs ws : List Nat}, (∀ i ∈ vs, i ∈ ws) → wipe (wipe σ vs) ws = wipe σ ws
  | [], _, _ => rfl
  | v :: vs, ws, h => by
    show wipe ((wipe σ vs).set v none) ws = _
    rw [wipe_set (h v List.mem_cons_self), wipe_wipe fun i hi => h i (List.mem_cons_of_mem _ hi)]
/-- the tests -/
def PTsm (X : Cx) (ifs : List Expr) (c : Mt) : Prop := ∀ W, Takes X W → PTs X ifs (tMT X.w X.K W c)
theorem PTs.imp {ifs : List Expr} {t t' : TT} (h : PTs X ifs t) (i : ∀ σ H Q, t' σ H Q → t σ H Q) : PTs X ifs t' := ⟨fun pins s σ H Q I q => h.run pins s σ H Q I (i σ H Q q)⟩
theorem ptsm_nil : PTsm X [] tYesM := fun W tk => PTs.imp pts_nil fun σ H Q ⟨al, τ, μ, sr, rp, g⟩ => g.ok rp rfl
theorem ptsm_one {c : Expr} {m : Mt} (h : PTm X c m) : PTsm X [c] m := fun W tk => pts_one (h W tk)
theorem Ext.at {K : PySem.W.Frag} {al al' : List Addr} {H H' : Hp} (e : Ext K al H al' H') {j : Nat} {a : Addr} (h : al[j]? = some a) : al'[j]? = some a := by
  have r := RV.mono e (RV.ref (K := K) (H := H) h)
  cases r with
  | ref h => exact h
abbrev WF : WX := fun _ _ _ _ => False
theorem gI.lc {al : List Addr} {H : Hp} {E E' : XW} {R : It → Hp → Prop} {Q : VK} {r : Out Plan} {k : Plan → MH → Out D} (h : gV X.w X.K al H E Q (r.bind k)) (hE : ∀ c d H', E c d H' → E' c d H')
    (hk : ∀ pl μ1 al1 H1 J Hl, Ext X.K al H al1 H1 → Rep X.w X.K al1 H1 μ1 → Plays X al1 H1 μ1 pl J Hl → gV X.w X.K al1 H1 E Q (k pl μ1) → R J Hl) : gI X al H E' R r := by
  cases r with
  | ok pl μ1 => exact fun al1 H1 J Hl e rp p => hk pl μ1 al1 H1 J Hl e rp p (gEnd.rebase (r := k pl μ1) h e)
  | exc C fs μ1 => exact fun a b c d e f g => hE _ _ _ (h a b c d e f g)
  | bad => exact h
theorem tM_lc {W : WX} {vs : List Nat} {c : Mt} {m : Mx} (hsl : ∀ i ∈ t.slots, i ∈ vs) {σ : L2.St} {H : Hp} {Q : VK} (h : tM X.w X.K W (eLc it t c m vs) σ H Q) : tLc (tMI X W it) (gTg X.K t) (tMT X.w X.K WF c) (tM X.w X.K WF m) vs σ H (unlQ X Q) := by
  obtain ⟨al, τ, μ, sr, rp, g⟩ := h
  refine ⟨al, τ, μ, sr, rp, gI.lc (k := kLc t c m vs τ) g (fun _ _ _ h => h) fun pl μ1 al1 H1 J Hl ex rp1 pj g1 => ?_⟩
  intro A hA
  have sr1 := (sr.mono ex).mono pj.ext
  have rpl := pj.rep
  have ex1 : Ext X.K al1 Hl (al1 ++ [A]) (upd Hl A (.lst [])) := Ext.new hA _
  have rp2 : Rep X.w X.K (al1 ++ [A]) (upd Hl A (.lst [])) (pl.lock μ1 ++ [.lst []]) := rpl.new hA ⟨[], upd_same, .nil⟩
  have hj : (al1 ++ [A])[(pl.lock μ1).length]? = some A := by rw [← rpl.len, List.getElem?_append_right (Nat.le_refl _)]; simp
  refine ⟨fun i n H => ∃ al μ, Rep X.w X.K al H μ ∧ Ext X.K (al1 ++ [A]) (upd Hl A (.lst [])) al H ∧ n = pl.items.length - i ∧ i ≤ pl.items.length ∧
    gV X.w X.K al1 H1 (fun c d H' => W c d σ H') Q ((lcL pl.still t c m (wipeM τ vs) (pl.lock μ1).length (pl.items.drop i) μ).bind (kRef pl.fin (pl.lock μ1).length)), ⟨pl.items.length, _, _, rp2, Ext.refl, by simp, Nat.zero_le _, g1⟩, ?_⟩
  rintro i n H ⟨al, μ, rp, e0, rfl, hi, g⟩
  have srw : SR X.K al H (wipeM τ vs) (wipe σ vs) := SR.wipe ((sr1.mono ex1).mono e0) vs
  by_cases hlt : i < pl.items.length
  · rw [List.drop_eq_getElem_cons hlt] at g
    unfold lcL at g
    split at g
    · rename_i hst
      obtain ⟨_, p2⟩ := pj.items al H μ i (ex1.trans e0) rp hst
      obtain ⟨go, p3⟩ := p2 pl.items[i] (by simp [hlt])
      refine .inr ⟨go, fun H' => ∃ al μ, Rep X.w X.K al H' μ ∧ Ext X.K (al1 ++ [A]) (upd Hl A (.lst [])) al H' ∧
        gV X.w X.K al1 H1 (fun c d H' => W c d σ H') Q ((lcL pl.still t c m (wipeM τ vs) (pl.lock μ1).length (pl.items.drop (i + 1)) μ).bind (kRef pl.fin (pl.lock μ1).length)), fun H' ⟨al', μ', a, b, c⟩ => ⟨_, by omega, al', μ', a, b, rfl, hlt, c⟩, fun x H' hy => ?_⟩
      obtain ⟨al', e', rp', rv⟩ := p3 x H' hy
      split at g
      · rename_i τ1 hbt
        refine tg_run hbt (srw.mono e') rv fun σ1 sr1 hw => ⟨by rw [hw vs hsl, wipe_wipe fun _ h => h], al', τ1, μ, sr1, rp', ?_⟩
        cases q : c τ1 μ with
        | bad => rw [q] at g; exact g.elim
        | exc _ _ _ => rw [q] at g; exact g.elim
        | ok k μ2 =>
          rw [q] at g
          intro al2 H2 k' e2 rp2 hk
          have hk : k = k' := hk
          subst hk
          cases k with
          | false => exact ⟨al2, μ2, rp2, (e0.trans e').trans e2, g⟩
          | true =>
            dsimp only at g
            refine ⟨al2, τ1, μ2, sr1.mono e2, rp2, ?_⟩
            cases q2 : m τ1 μ2 with
            | bad => rw [q2] at g; exact g.elim
            | exc _ _ _ => rw [q2] at g; exact g.elim
            | ok y μ3 =>
              rw [q2] at g
              dsimp only at g
              intro al3 H3 z e3 rp3 rz
              split at g
              · rename_i acc hacc
                split at g
                · rename_i hz
                  have e03 := ((e0.trans e').trans e2).trans e3
                  have hj3 := Ext.at e03 hj
                  obtain ⟨us, h1, h2⟩ := rp3.of hj3 hacc
                  have ew := Ext.write rp3 hj3 hacc rfl (.lst (us ++ [z]))
                  refine ⟨us, h1, by rw [← h2.length]; exact hz, al3, _, rp3.write hj3 hacc rfl (o := .lst (acc ++ [y])) ⟨_, upd_same, (h2.append (.cons rz .nil)).mono ew⟩, e03.trans ew, g⟩
                · exact g.elim
              · exact g.elim
      · exact g.elim
    · exact g.elim
  · have e : i = pl.items.length := by omega
    subst e
    rw [List.drop_length] at g
    unfold lcL at g
    split at g
    · rename_i hst
      refine .inl ⟨(pj.items al H μ _ (ex1.trans e0) rp hst).1 rfl, ?_⟩
      have g' : gV X.w X.K al1 H1 (fun c d H' => W c d σ H') Q (match pl.fin μ with | some μ' => .ok (.ref (pl.lock μ1).length) μ' | none => .bad) := g
      have hv : RV X.K al H (.ref (pl.lock μ1).length) (.ref A) := .ref (Ext.at e0 hj)
      cases q : pl.fin μ with
      | none => rw [q] at g'; exact g'.elim
      | some μ' =>
        rw [q] at g'
        rcases pj.fin al H μ μ' (ex1.trans e0) rp q with ⟨rfl, e3⟩ | ⟨d, od, u, h1, h2, e3, e2, rp2⟩
        · exact .inl (g' al H _ e3 rp hv)
        · exact .inr ⟨d, od, u, h1, h2, g' al _ _ e3 rp2 (hv.monoW e2)⟩
    · exact g.elim
theorem pem_lc {elt : Expr} {ifs : List Expr} {scope : Scope} {own : List (Str × Nat)} {c : Mt} {m : Mx} (hc : X.calm = true) (hN : X.N.Nodup) (hi : PIm X tg iter it) (ok : BlkOk X.N X.env.scope scope own) (hsl : ∀ i ∈ t.slots, i ∈ own.map (·.2))
    (hg : ∀ (s : Shared) (H : Hp) (C : Addr) (cl : List (Str × Addr)) (fp : List Addr), TgOf (X.blk s H scope (compEnvC scope cl C X.env) fp) tg t) (ht : ∀ (s : Shared) (H : Hp) (C : Addr) (cl : List (Str × Addr)) (fp : List Addr), PTsm (X.blk s H scope (compEnvC scope cl C X.env) fp) ifs c)
    (he : ∀ (s : Shared) (H : Hp) (C : Addr) (cl : List (Str × Addr)) (fp : List Addr), PEm (X.blk s H scope (compEnvC scope cl C X.env) fp) elt m) (hs : noSet iter = true) : PEm X (.ListComp elt [⟨tg, iter, ifs, 0⟩] scope pos) (eLc it t c m (own.map (·.2))) := fun W tk =>
  PE.imp (pe_unl (pe_lc (g := gTg X.K t) (tt := tMT X.w X.K WF c) (te := tM X.w X.K WF m) hc hN (hi W tk) ok (fun s H C cl fp => pg_of (X := X.blk s H scope (compEnvC scope cl C X.env) fp) hN hc (hg s H C cl fp)) (fun s H C cl fp => ht s H C cl fp WF takes_no) (fun s H C cl fp => he s H C cl fp WF takes_no) (folded_no hs))) fun σ H Q h => tM_lc hsl h

theorem plays_still {al : List Addr} {H : Hp} {μ : MH} {pl : Plan} {J : It} (rp : Rep X.w X.K al H μ) (hl : pl.lock = id) (hf : pl.fin = some) (h : PlaysI X.w X.K al H pl J) : Plays X al H μ pl J H :=
  ⟨Ext.refl, by rw [hl]; exact rp, h, fun al' H' μ1 μ2 e _ q => by rw [hf] at q; exact .inl ⟨(Option.some.inj q).symm, e⟩⟩
/-! ### over a list, a tuple -/
def iSeqV (K : PySem.W.Frag) (te : TE) : TI := fun σ H R => te σ H fun x H1 => ∃ a, x = .ref a ∧ (((∃ xs, SqL K H1 a xs) ∧ R (Itl K a) H1) ∨ ((∃ xs, SqT K H1 a xs) ∧ R (Itt K a) H1))
theorem pi_seqV {l : Expr} {tl : TE} (hl : PE X l tl) : PI X tg l (iSeqV X.K tl) := by
  refine ⟨fun pins s σ H R I h => ?_⟩
  refine thn (hl.run pins s σ H _ I h) fun v s1 ⟨x, H1, I1, r1, q1⟩ => ?_
  obtain ⟨a, e, q⟩ := q1
  subst e
  cases r1
  have fr : ∀ b ∈ [s1.heap.objs.size], FpOk X pins H1 b := fun b hb => by
    have e : b = s1.heap.objs.size := by simpa using hb
    subst e
    exact I1.fpOk (Nat.le_refl _) (I1.hok.fresh (Nat.le_refl _))
  rcases q with ⟨⟨xs, hq⟩, q⟩ | ⟨⟨xs, hq⟩, q⟩
  · obtain ⟨its, rv, p, hz⟩ := I1.list hq
    refine wpAny_pyIter_list p.isList ?_
    exact ⟨s1.heap.objs.size, [s1.heap.objs.size], _, _, H1, rfl, I1.kept (t' := s1.toks) fun b o e => Heap.get?_push_of_some _ e, turn_list a _, ⟨_, Heap.get?_push_size _ rfl, rfl, rfl⟩, fr, q⟩
  · obtain ⟨its, rv, p, hz⟩ := I1.tuple hq
    refine wpAny_pyIter_tuple (show s1.heap.IsTuple a its.toArray from p) ?_
    exact ⟨s1.heap.objs.size, [s1.heap.objs.size], _, _, H1, rfl, I1.kept (t' := s1.toks) fun b o e => Heap.get?_push_of_some _ e, turn_tuple a _, ⟨_, Heap.get?_push_size _ rfl, rfl, rfl⟩, fr, q⟩
/-- what a value gives to a loop -/
def planV (d : D) (μ : MH) : Out Plan := match d with
  | .tup xs => .ok ⟨xs, fun _ => True, id, some⟩ μ
  | .frl xs => .ok ⟨xs, fun _ => True, id, some⟩ μ
  | .ref j => match μ[j]? with
    | some (.lst xs) => .ok ⟨xs, fun μ => μ[j]? = some (.lst xs), id, some⟩ μ
    | _ => .bad
  | _ => .bad
def iVal (m : Mx) : Mi := fun τ μ => (m τ μ).bind planV
theorem pim_val {m : Mx} (he : PEm X iter m) : PIm X tg iter (iVal m) := fun W tk => PI.imp (pi_seqV (he W tk)) fun σ H R ⟨al, τ, μ, sr, rp, g⟩ => by
  refine ⟨al, τ, μ, sr, rp, gI.bind (k := planV) g fun d μ1 al1 H1 v ex rp1 r g1 => ?_⟩
  cases r with
  | @tup p xs vs hs rs =>
    refine ⟨p, rfl, .inr ⟨⟨vs, hs⟩, g1.ok rp1 (plays_still rp1 rfl rfl ?_)⟩⟩
    intro al2 H2 μ2 i e2 rp2 _
    have hr := RV.mono e2 (RV.tup hs rs)
    cases hr with
    | @tup _ _ vs2 hs2 rs2 =>
      refine ⟨fun hi => ⟨vs2, hs2, by rw [← rs2.length]; exact Nat.le_of_eq hi.symm⟩, fun d hd => ?_⟩
      obtain ⟨v, h1, h2⟩ := rs2.get hd
      refine ⟨⟨vs2, v, hs2, h1⟩, fun x H' hy => ?_⟩
      obtain ⟨rfl, hy⟩ := hy
      have z := hy vs2 hs2
      rw [h1] at z; cases z
      exact ⟨al2, Ext.refl, rp2, h2⟩
  | @frl p xs vs hs rs =>
    refine ⟨p, rfl, .inl ⟨⟨vs, hs.seq⟩, g1.ok rp1 (plays_still rp1 rfl rfl ?_)⟩⟩
    intro al2 H2 μ2 i e2 rp2 _
    have hr := RV.mono e2 (RV.frl hs rs)
    cases hr with
    | @frl _ _ vs2 hs2 rs2 =>
      refine ⟨fun hi => ⟨vs2, hs2.seq, by rw [← rs2.length]; exact Nat.le_of_eq hi.symm⟩, fun d hd => ?_⟩
      obtain ⟨v, h1, h2⟩ := rs2.get hd
      refine ⟨⟨vs2, v, hs2.seq, h1⟩, fun x H' hy => ?_⟩
      obtain ⟨rfl, hy⟩ := hy
      have z := hy vs2 hs2.seq
      rw [h1] at z; cases z
      exact ⟨al2, Ext.refl, rp2, h2⟩
  | @ref j p hp =>
    unfold planV at g1
    dsimp only at g1
    split at g1
    · rename_i xs hx
      obtain ⟨vs, h1, h2⟩ := rp1.of hp hx
      refine ⟨p, rfl, .inl ⟨⟨vs, SqL.of h1⟩, g1.ok rp1 (plays_still rp1 rfl rfl ?_)⟩⟩
      intro al2 H2 μ2 i e2 rp2 hst
      obtain ⟨vs2, h1, rs2⟩ := rp2.of (Ext.at e2 hp) hst
      refine ⟨fun hi => ⟨vs2, SqL.of h1, by rw [← rs2.length]; exact Nat.le_of_eq hi.symm⟩, fun d hd => ?_⟩
      obtain ⟨v, k1, k2⟩ := rs2.get hd
      refine ⟨⟨vs2, v, SqL.of h1, k1⟩, fun x H' hy => ?_⟩
      obtain ⟨rfl, hy⟩ := hy
      have z := hy vs2 (SqL.of h1)
      rw [k1] at z; cases z
      exact ⟨al2, Ext.refl, rp2, k2⟩
    · exact g1.elim
  | _ => exact g1.elim

/-! ### over a range -/
def rngP (lo : Int) (n : Nat) : Plan := ⟨(List.range n).map fun i => .int (lo + (i : Nat)), fun _ => True, id, some⟩
theorem plays_rng {al : List Addr} {H : Hp} {μ : MH} (rp : Rep X.w X.K al H μ) (lo : Int) (n : Nat) : Plays X al H μ (rngP lo n) (Itr lo n) H := plays_still rp rfl rfl fun al2 H2 μ2 i e2 rp2 _ => by
  refine ⟨fun hi => by rw [hi]; show n ≤ _; simp [rngP], fun d hd => ?_⟩
  have hi : i < n := by
    have := (List.getElem?_eq_some_iff.mp hd).1
    simpa [rngP] using this
  refine ⟨hi, fun x H' hy => ?_⟩
  obtain ⟨rfl, rfl⟩ := hy
  have : d = .int (lo + (i : Nat)) := by
    have : (rngP lo n).items[i]? = some (.int (lo + (i : Nat))) := by simp [rngP, hi]
    rw [this] at hd; exact (Option.some.inj hd).symm
  subst this
  exact ⟨al2, Ext.refl, rp2, .int _⟩
def okR (i : Int) : Bool := decide (-(2 ^ 62) ≤ i ∧ i < 2 ^ 62)
def kRng1 (ds : List D) (μ : MH) : Out Plan := match ds with
  | [.int j] => if okR j = true then .ok (rngP 0 j.toNat) μ else .bad
  | _ => .bad
def kRng2 (ds : List D) (μ : MH) : Out Plan := match ds with
  | [.int i, .int j] => if okR i = true ∧ okR j = true then .ok (rngP i (j - i).toNat) μ else .bad
  | _ => .bad
def iA (k : List D → MH → Out Plan) (ma : Ma) : Mi := fun τ μ => (ma τ μ).bind k
theorem okR_ok {i : Int} (h : okR i = true) : -(2 ^ 62) ≤ i ∧ i < 2 ^ 62 := of_decide_eq_true h
theorem pim_rng1 {a : Expr} {ma : Ma} {p pos : Pos} (hg : Gl X "range") (hm : X.mg "range" = none) (ha : PAm X [a] ma) (hl : notStar a = true) : PIm X tg (.Call (.Name "range" p) [a] [] pos) (iA kRng1 ma) := fun W tk =>
  PI.imp (pi_range1 hg hm (ha W tk) (by rw [starEach_cons hl] <;> rfl)) fun σ H R ⟨al, τ, μ, sr, rp, g⟩ => by
    refine ⟨al, τ, μ, sr, rp, gI.bind (k := kRng1) g fun ds μ1 al1 H1 vs ex rp1 r g1 => ?_⟩
    unfold kRng1 at g1
    split at g1
    · split at g1
      · rename_i h
        obtain ⟨v, rfl, rv⟩ := r.one
        cases rv
        obtain ⟨h1, h2⟩ := okR_ok h
        exact ⟨_, rfl, h1, h2, g1.ok rp1 (plays_rng rp1 0 _)⟩
      · exact g1.elim
    · exact g1.elim
theorem pim_rng2 {a b : Expr} {ma : Ma} {p pos : Pos} (hg : Gl X "range") (hm : X.mg "range" = none) (ha : PAm X [a, b] ma) (hl : notStar a = true) (hl2 : notStar b = true) : PIm X tg (.Call (.Name "range" p) [a, b] [] pos) (iA kRng2 ma) := fun W tk =>
  PI.imp (pi_range2 hg hm (ha W tk) (by rw [starEach_cons hl, starEach_cons hl2] <;> rfl) (by rw [starEach_cons hl2] <;> rfl)) fun σ H R ⟨al, τ, μ, sr, rp, g⟩ => by
    refine ⟨al, τ, μ, sr, rp, gI.bind (k := kRng2) g fun ds μ1 al1 H1 vs ex rp1 r g1 => ?_⟩
    unfold kRng2 at g1
    split at g1
    · split at g1
      · rename_i h
        obtain ⟨v, u, rfl, rv, ru⟩ := r.two
        cases rv; cases ru
        obtain ⟨h1, h2⟩ := okR_ok h.1
        obtain ⟨h3, h4⟩ := okR_ok h.2
        exact ⟨_, _, rfl, ⟨h1, h2, h3, h4⟩, g1.ok rp1 (plays_rng rp1 _ _)⟩
      · exact g1.elim
    · exact g1.elim
end
end MM
namespace MM
open PySem PySem.Spec PyProof.Rows L2

/-! ### methods of dicts -/
section
variable {X : Cx} {pins : List (Addr × Obj)} {σ : L2.St} {H : Hp} {s : Shared} {al : List Addr} {μ : MH}
/-- a dict asked for a key -/
theorem dm_look (I : Inv X pins σ H s) (rp : Rep X.w X.K al H μ) {i : Nat} {a : Addr} {kvs : List (D × D)} {lk : Bool} (ha : al[i]? = some a) (hi : μ[i]? = some (.dict kvs lk)) {k : D} {y : V} {u : Value} (rk : RV X.K al H k y) (ry : RelV y u) (ok : keyOk kvs k = true) :
    (a == sysModules) = false ∧ kvs.length ≤ sizeLine ∧ (kvs.map (·.1)).Nodup ∧ Hom kvs ∧
    ((∃ f vs, fk k = some f ∧ keyIs f u = true ∧ (∀ p ∈ kvs, (fk p.1).isSome = true) ∧ Paired (FV X.K al H) kvs vs ∧ s.heap.DictOf (mixKind X.prog X.w) a vs ∧
      ((dget kvs k = none ∧ valueAt vs f = none) ∨ ∃ d v q, dget kvs k = some d ∧ valueAt vs f = some q ∧ RelV v q ∧ RV X.K al H d v)) ∨
    (∃ n b xs, tk k = some n ∧ y = .ref b ∧ u = .ref b ∧ (∀ p ∈ kvs, (tk p.1).isSome = true) ∧ Paired (TVx X.K al H) kvs xs ∧ s.heap.DictOfH (nestedKind X.prog X.w) a xs ∧
      ((dget kvs k = none ∧ atKey xs n = none) ∨ ∃ d v q, dget kvs k = some d ∧ atKey xs n = some q ∧ RelV v q.2 ∧ RV X.K al H d v))) := by
  have ob := rp.of ha hi
  obtain ⟨sm, hl, hn, hh, _⟩ := id ob
  refine ⟨sm, hl, hn, hh, ?_⟩
  rcases keyOk_sort hh ok with ⟨hk, hf⟩ | ⟨hk, hf⟩
  · obtain ⟨f, ef⟩ := Option.isSome_iff_exists.mp hk
    obtain ⟨vs, r, d⟩ := dictOf_flat I ob hf
    refine .inl ⟨f, vs, ef, rk.flat ef ry, hf, r, d, ?_⟩
    rcases paired_find (a := fun p => decide (p.1 = k)) (b := fun q => decide (q.1 = f)) (fun p q r => by
        have : p.1 = k ↔ q.1 = f := ⟨fun e => by subst e; exact Option.some.inj (r.1.symm.trans ef), fun e => fk_inj (e ▸ r.1) ef⟩
        simp [this]) r with ⟨e1, e2⟩ | ⟨p, q, e1, e2, r'⟩
    · exact .inl ⟨by simp [dget, e1], by simp [valueAt, e2]⟩
    · obtain ⟨_, v, rv, rd⟩ := r'
      exact .inr ⟨p.2, v, q.2, by simp [dget, e1], by simp [valueAt, e2], rv, rd⟩
  · obtain ⟨n, en⟩ := Option.isSome_iff_exists.mp hk
    obtain ⟨b, rfl⟩ := rk.tkRef en
    cases (show u = Value.ref b from ry)
    obtain ⟨xs, r, d⟩ := dictOf_tup I ob hf
    refine .inr ⟨n, b, xs, en, rfl, rfl, hf, r, d, ?_⟩
    rcases paired_find (a := fun p => decide (p.1 = k)) (b := fun q => decide (q.1 = n)) (fun p q r => by
        have : p.1 = k ↔ q.1 = n := ⟨fun e => by subst e; exact Option.some.inj (r.1.symm.trans en), fun e => tk_inj (e ▸ r.1) en⟩
        simp [this]) r with ⟨e1, e2⟩ | ⟨p, q, e1, e2, r'⟩
    · exact .inl ⟨by simp [dget, e1], by simp [atKey, e2]⟩
    · obtain ⟨_, _, v, rv, rd⟩ := r'
      exact .inr ⟨p.2, v, q.2, by simp [dget, e1], by simp [atKey, e2], rv, rd⟩
/-- d.get(k), d.get(k, x) -/
def mGet : D → Fn := fun d ds μ => match d with
  | .ref j => match μ[j]? with
    | some (.dict kvs _) => match ds with
      | [k] => if keyOk kvs k = true then .ok ((dget kvs k).getD .non) μ else .bad
      | [k, x] => if keyOk kvs k = true then .ok ((dget kvs k).getD x) μ else .bad
      | _ => .bad
    | _ => .bad
  | _ => .bad
theorem mild_get : MildM mGet := fun d ds μ C fs μ' h => by
  unfold mGet at h
  split at h
  · split at h
    · split at h
      · split at h <;> cases h
      · split at h <;> cases h
      · cases h
    · cases h
  · cases h
theorem bm_get (hu : X.A.units + 10 < cLine) : BM X .dict "get" mGet := ⟨mild_get, "dict.get", PySem.F.plainAttrs_dict, PySem.F.slot_dict_get, PySem.F.type_dict_get, fun pins s σ H x xs v us Q I rx rs h => by
    obtain ⟨al, μ, d, ds, rp, r, rs', g⟩ := h
    have hr : (nestedKind X.prog X.w).room X.A.in1 := by show X.A.units + 1 + 8 < cLine; omega
    unfold mGet at g
    split at g
    · split at g
      · rename_i kvs lk hk
        cases r with
        | @ref j p hp =>
          obtain rfl : v = Value.ref p := rx
          split at g
          · split at g
            · rename_i ok
              obtain ⟨w1, rfl, r1⟩ := rs'.one
              obtain ⟨u1, rfl, q1⟩ := vals1 rs
              obtain ⟨sm, hl, hn, hh, ⟨f, vs, ef, hk1, hf, pr, dd, hd⟩ | ⟨n, b, xs, en, rfl, rfl, hf, pr, dd, hd⟩⟩ := dm_look I rp hp hk r1 q1 ok
              · refine call_meetsIn PySem.F.slot_dict_get dd.typeIs PySem.F.entry_dict_get (PySem.F.args_dict_get_2 _ _) (meets_dict_get (mixKind X.prog X.w) p hk1 sm) ⟨_, dd.mapOf, ?_⟩
                rcases hd with ⟨e1, e2⟩ | ⟨d, v, q, e1, e2, r2, r3⟩
                · rw [e1] at g; rw [e2]; exact ⟨.non, H, I.tok _, rfl, g.ok rp .non⟩
                · rw [e1] at g; rw [e2]; exact ⟨v, H, I.tok _, r2, g.ok rp r3⟩
              · refine call_meetsIn PySem.F.slot_dict_get dd.typeIs PySem.F.entry_dict_get (PySem.F.args_dict_get_2 _ _) (meetsH_dict_get (nestedKind X.prog X.w) p b sm) ⟨hr, n, xs, RV.isKey I r1 en, dd, ?_⟩
                rcases hd with ⟨e1, e2⟩ | ⟨d, v, q, e1, e2, r2, r3⟩
                · rw [e1] at g; rw [e2]; exact ⟨.non, H, I.tok _, rfl, g.ok rp .non⟩
                · rw [e1] at g; rw [e2]; exact ⟨v, H, I.tok _, r2, g.ok rp r3⟩
            · exact g.elim
          · split at g
            · rename_i ok
              obtain ⟨w1, w2, rfl, r1, rd⟩ := rs'.two
              obtain ⟨u1, u2, rfl, q1, qd⟩ := vals2 rs
              obtain ⟨sm, hl, hn, hh, ⟨f, vs, ef, hk1, hf, pr, dd, hd⟩ | ⟨n, b, xs, en, rfl, rfl, hf, pr, dd, hd⟩⟩ := dm_look I rp hp hk r1 q1 ok
              · refine call_meetsIn PySem.F.slot_dict_get dd.typeIs PySem.F.entry_dict_get (PySem.F.args_dict_get_3 _ _ _) (meets_dict_get_default (mixKind X.prog X.w) p hk1 sm _) ⟨_, dd.mapOf, ?_⟩
                rcases hd with ⟨e1, e2⟩ | ⟨d, v, q, e1, e2, r2, r3⟩
                · rw [e1] at g; rw [e2]; exact ⟨_, H, I.tok _, qd, g.ok rp rd⟩
                · rw [e1] at g; rw [e2]; exact ⟨v, H, I.tok _, r2, g.ok rp r3⟩
              · refine call_meetsIn PySem.F.slot_dict_get dd.typeIs PySem.F.entry_dict_get (PySem.F.args_dict_get_3 _ _ _) (meetsH_dict_get_default (nestedKind X.prog X.w) p b sm _) ⟨hr, n, xs, RV.isKey I r1 en, dd, ?_⟩
                rcases hd with ⟨e1, e2⟩ | ⟨d, v, q, e1, e2, r2, r3⟩
                · rw [e1] at g; rw [e2]; exact ⟨_, H, I.tok _, qd, g.ok rp rd⟩
                · rw [e1] at g; rw [e2]; exact ⟨v, H, I.tok _, r2, g.ok rp r3⟩
            · exact g.elim
          · exact g.elim
      · exact g.elim
    · exact g.elim⟩
/-- d.setdefault(k, x) -/
def mSetd : D → Fn := fun d ds μ => match d with
  | .ref j => match μ[j]? with
    | some (.dict kvs false) => match ds with
      | [k, x] => if keyOk kvs k = true ∧ kvs.length < sizeLine then match dget kvs k with
        | some y => .ok y μ
        | none => .ok x (μ.set j (.dict (dput kvs k x) false))
        else .bad
      | _ => .bad
    | _ => .bad
  | _ => .bad
theorem mild_setd : MildM mSetd := fun d ds μ C fs μ' h => by
  unfold mSetd at h
  split at h
  · split at h
    · split at h
      · split at h
        · split at h <;> cases h
        · cases h
      · cases h
    · cases h
  · cases h
theorem bm_setd (hu : X.A.units + 10 < cLine) : BM X .dict "setdefault" mSetd := ⟨mild_setd, "dict.setdefault", PySem.F.plainAttrs_dict, PySem.F.slot_dict_setdefault, PySem.F.type_dict_setdefault, fun pins s σ H x xs v us Q I rx rs h => by
    obtain ⟨al, μ, d, ds, rp, r, rs', g⟩ := h
    have hr : (nestedKind X.prog X.w).room X.A.in1 := by show X.A.units + 1 + 8 < cLine; omega
    unfold mSetd at g
    split at g
    · split at g
      · rename_i kvs hk
        cases r with
        | @ref j p hp =>
          obtain rfl : v = Value.ref p := rx
          split at g
          · split at g
            · rename_i hc
              obtain ⟨ok, hz⟩ := hc
              obtain ⟨w1, w2, rfl, r1, rd⟩ := rs'.two
              obtain ⟨u1, u2, rfl, q1, qd⟩ := vals2 rs
              obtain ⟨sm, hl, hn, hh, ⟨f, vs, ef, hk1, hf, pr, dd, hd⟩ | ⟨n, b, xs, en, rfl, rfl, hf, pr, dd, hd⟩⟩ := dm_look I rp hp hk r1 q1 ok
              · have el := PySem.Paired.length pr
                refine call_meetsIn PySem.F.slot_dict_setdefault dd.typeIs PySem.F.entry_dict_setdefault (PySem.F.args_dict_setdefault_3 _ _ _) (kt_meets_setdefault (mixKind X.prog X.w) p hk1 sm _) ⟨vs, dd, by rw [← el]; exact hl, fun q0 hq0 => ?_, fun hq0 h' dd' hs => ?_⟩
                · rcases hd with ⟨e1, e2⟩ | ⟨d, v, q, e1, e2, r2, r3⟩
                  · rw [e2] at hq0; cases hq0
                  · rw [e2] at hq0; cases hq0
                    rw [e1] at g
                    exact ⟨v, H, I.tok _, r2, g.ok rp r3⟩
                · rcases hd with ⟨e1, e2⟩ | ⟨d, v, q, e1, e2, r2, r3⟩
                  · rw [e1] at g
                    obtain ⟨es, hr, he⟩ := raw_flat (w := X.w) dd' (fv_put pr ef qd rd)
                    obtain ⟨I', rp', ex⟩ := inv_dwrite (t' := s.toks + 1) I rp hp hk hs hr he (Nat.le_trans (dput_le _ _ _) hz) (dput_nodup hn _ _) (dput_hom _ hh ok)
                    exact ⟨_, _, I', qd, g.ok' ex rp' (rd.mono ex)⟩
                  · rw [e2] at hq0; cases hq0
              · have el := PySem.Paired.length pr
                refine call_setdefault_heap (knd := nestedKind X.prog X.w) (hsz := by rw [← el]; exact hl) hr (RV.isKey I r1 en) sm dd (fun q0 hq0 => ?_) fun hq0 h' dd' hs => ?_
                · rcases hd with ⟨e1, e2⟩ | ⟨d, v, q, e1, e2, r2, r3⟩
                  · rw [e2] at hq0; cases hq0
                  · rw [e2] at hq0; cases hq0
                    rw [e1] at g
                    exact ⟨v, H, I.tok _, r2, g.ok rp r3⟩
                · rcases hd with ⟨e1, e2⟩ | ⟨d, v, q, e1, e2, r2, r3⟩
                  · rw [e1] at g
                    obtain ⟨es, hr, he⟩ := raw_tup (w := X.w) dd' (tv_put pr en r1 qd rd)
                    obtain ⟨I', rp', ex⟩ := inv_dwrite (t' := s.toks + (nestedKind X.prog X.w).draws n) I rp hp hk hs hr he (Nat.le_trans (dput_le _ _ _) hz) (dput_nodup hn _ _) (dput_hom _ hh ok)
                    exact ⟨_, _, I', qd, g.ok' ex rp' (rd.mono ex)⟩
                  · rw [e2] at hq0; cases hq0
            · exact g.elim
          · exact g.elim
      · exact g.elim
    · exact g.elim⟩
/-- d.clear() -/
def mDClear : D → Fn := fun d ds μ => match d, ds with
  | .ref j, [] => match μ[j]? with
    | some (.dict kvs false) => .ok .non (μ.set j (.dict [] false))
    | _ => .bad
  | _, _ => .bad
theorem bm_dclear : BM X .dict "clear" mDClear := ⟨(fun d ds μ C fs μ' h => by
    unfold mDClear at h
    split at h
    · split at h <;> cases h
    · cases h), "dict.clear", PySem.F.plainAttrs_dict, PySem.F.slot_dict_clear, PySem.F.type_dict_clear, fun pins s σ H x xs v us Q I rx rs h => by
    obtain ⟨al, μ, d, ds, rp, r, rs', g⟩ := h
    unfold mDClear at g
    split at g
    · split at g
      · rename_i kvs hk
        cases r with
        | @ref j p hp =>
          obtain rfl : v = Value.ref p := rx
          cases rs'
          obtain rfl : us = [] := by cases rs; rfl
          have ob := rp.of hp hk
          obtain ⟨sm, hl, hn, hh, es, he, pr⟩ := id ob
          obtain ⟨o, ep, g1, g2, g3⟩ := inv_raw I he
          have el := PySem.Paired.length pr
          have hT : s.TypeIs (.ref p) "dict" := ⟨o, g1, g2.1⟩
          refine call_meetsIn PySem.F.slot_dict_clear hT PySem.F.entry_dict_clear (PySem.F.args_dict_clear_1 _) (meets_dict_clear_raw p) ⟨es.toArray, ep, ⟨o, g1, g2, g3⟩, by rw [List.size_toArray, ← el]; exact hl, fun h' hr' hs => ?_⟩
          obtain ⟨o', k1, k2, k3⟩ := hr'
          obtain ⟨I', rp', ex⟩ := inv_dwrite (kvs' := []) (es := []) (t' := s.toks) I rp hp hk hs ⟨o', _, k1, k2, k3⟩ .nil (Nat.zero_le _) (by simp) (.inl (by simp))
          exact ⟨.non, _, I', rfl, g.ok' ex rp' .non⟩
      · exact g.elim
    · exact g.elim⟩
end
end MM
namespace MM
open PySem PySem.Spec PyProof.Rows L2

/-! ### dicts walked -/
def Idk (d : Addr) (od : Obj) (es : List DictEntry) : It :=
  ⟨fun i H => H d = some (.frz od (.ext (DRaw d es))) ∧ ∃ e x, es[i]? = some e ∧ RelV x e.key, fun i H x H' => H' = H ∧ ∃ e, es[i]? = some e ∧ RelV x e.key, fun i H => H d = some (.frz od (.ext (DRaw d es))) ∧ es.length ≤ i⟩
def Idv (d : Addr) (od : Obj) (es : List DictEntry) : It :=
  ⟨fun i H => H d = some (.frz od (.ext (DRaw d es))) ∧ ∃ e x, es[i]? = some e ∧ RelV x e.val, fun i H x H' => H' = H ∧ ∃ e, es[i]? = some e ∧ RelV x e.val, fun i H => H d = some (.frz od (.ext (DRaw d es))) ∧ es.length ≤ i⟩
def Idi (d : Addr) (od : Obj) (es : List DictEntry) : It :=
  ⟨fun i H => H d = some (.frz od (.ext (DRaw d es))) ∧ ∃ e x y, es[i]? = some e ∧ RelV x e.key ∧ RelV y e.val,
   fun i H z H' => ∃ T e x y, es[i]? = some e ∧ RelV x e.key ∧ RelV y e.val ∧ z = .ref T ∧ H T = none ∧ H' = upd H T (.tup [x, y]), fun i H => H d = some (.frz od (.ext (DRaw d es))) ∧ es.length ≤ i⟩
theorem frz_raw {P : Program} {w : World} {H : Hp} {h : Heap} {d : Addr} {od : Obj} {es : List DictEntry} {ep : Nat} {es0 : Array DictEntry} (hok : HOk P w H h) (hd : H d = some (.frz od (.ext (DRaw d es)))) (hod : od.data = .dict es0 ep) :
    h.DictRaw d es.toArray ep ∧ es0 = es.toArray := by
  obtain ⟨g, z⟩ := hok d _ hd
  obtain ⟨o, ep', g1, g2, g3⟩ := z.1
  rw [g] at g1; cases g1
  rw [hod] at g3; cases g3
  exact ⟨⟨od, g, g2, hod⟩, rfl⟩
section
variable {P : Program} {w : World} {K : PySem.W.Frag} {tg : Expr} {d : Addr} {od : Obj} {es : List DictEntry} {ep : Nat} {es0 : Array DictEntry}
theorem turn_dk (it : Addr) (hod : od.data = .dict es0 ep) : Turn P w K tg (Idk d od es) [it] it (fun i h => h.IsKeyIter it d i es.length ep) where
  mem := by simp
  obj := fun i h st b hb => by
    have e : b = it := by simpa using hb
    subst e
    obtain ⟨oi, e, c, dd⟩ := st
    exact ⟨oi, e, fun v z => by rw [dd] at z; cases z⟩
  keep := fun i h h' st k => st.at fun oi e => k it (by simp) oi e
  item := by
    intro X hP hw hK hc i pins s σ H E I hf st hg
    subst hP hw hK
    obtain ⟨hd, e, x, hi, rx⟩ := hg
    obtain ⟨f0, f1, f2, f3, f4, f5⟩ := hf it (by simp)
    obtain ⟨hm, _⟩ := frz_raw I.hok hd hod
    have hlt : i < es.toArray.size := by simpa using (List.getElem?_eq_some_iff.mp hi).1
    have he : es.toArray[i] = e := by have := (List.getElem?_eq_some_iff.mp hi).2; simpa using this
    have st' : s.heap.IsKeyIter it d i es.toArray.size ep := by rw [List.size_toArray]; exact st
    refine wpAny_pyNext_keys_item_raw st' hm hlt fun h' st2 sb => ?_
    have I1 : Inv X pins σ H { s with heap := h' } := I.turned (t' := s.toks) (fun b ob hb e => (sb.2 b hb).trans e) f0 f1 f3 f4 f5
    obtain ⟨oi, e1, c, dd⟩ := id st2
    refine ⟨_, rfl, go_of (s := { s with heap := h' }) e1 c dd (by decide) ⟨x, H, I1, by rw [he]; exact rx, ⟨rfl, e, hi, rx⟩, ?_, fun b hb => (hf b hb).1⟩⟩
    rw [List.size_toArray] at st2
    exact st2
  done := by
    intro X hP hw hK hc i pins s σ H E I hf st hg
    subst hP hw hK
    obtain ⟨hd, hi⟩ := hg
    obtain ⟨f0, f1, f2, f3, f4, f5⟩ := hf it (by simp)
    obtain ⟨hm, _⟩ := frz_raw I.hok hd hod
    have st' : s.heap.IsKeyIter it d i es.toArray.size ep := by rw [List.size_toArray]; exact st
    exact wpAny_pyNext_keys_end_raw (I.ok.hd hc) st' hm (by simpa using hi) fun h' eb => ⟨rfl, I.turned (t' := s.toks) (fun b ob hb e => eb b ob hb e) f0 f1 f3 f4 f5⟩
  self := fun A i s Q E st h => wpAny_pyIter_keyiter st h
theorem turn_dv (it : Addr) (hod : od.data = .dict es0 ep) : Turn P w K tg (Idv d od es) [it] it (fun i h => h.IsValIter it d i es.length ep) where
  mem := by simp
  obj := fun i h st b hb => by
    have e : b = it := by simpa using hb
    subst e
    obtain ⟨oi, e, c, dd⟩ := st
    exact ⟨oi, e, fun v z => by rw [dd] at z; cases z⟩
  keep := fun i h h' st k => st.at fun oi e => k it (by simp) oi e
  item := by
    intro X hP hw hK hc i pins s σ H E I hf st hg
    subst hP hw hK
    obtain ⟨hd, e, x, hi, rx⟩ := hg
    obtain ⟨f0, f1, f2, f3, f4, f5⟩ := hf it (by simp)
    obtain ⟨hm, _⟩ := frz_raw I.hok hd hod
    have hlt : i < es.toArray.size := by simpa using (List.getElem?_eq_some_iff.mp hi).1
    have he : es.toArray[i] = e := by have := (List.getElem?_eq_some_iff.mp hi).2; simpa using this
    have st' : s.heap.IsValIter it d i es.toArray.size ep := by rw [List.size_toArray]; exact st
    refine wpAny_pyNext_values_item_raw st' hm hlt fun h' st2 sb => ?_
    have I1 : Inv X pins σ H { s with heap := h' } := I.turned (t' := s.toks) (fun b ob hb e => (sb.2 b hb).trans e) f0 f1 f3 f4 f5
    obtain ⟨oi, e1, c, dd⟩ := id st2
    refine ⟨_, rfl, go_of (s := { s with heap := h' }) e1 c dd (by decide) ⟨x, H, I1, by rw [he]; exact rx, ⟨rfl, e, hi, rx⟩, ?_, fun b hb => (hf b hb).1⟩⟩
    rw [List.size_toArray] at st2
    exact st2
  done := by
    intro X hP hw hK hc i pins s σ H E I hf st hg
    subst hP hw hK
    obtain ⟨hd, hi⟩ := hg
    obtain ⟨f0, f1, f2, f3, f4, f5⟩ := hf it (by simp)
    obtain ⟨hm, _⟩ := frz_raw I.hok hd hod
    have st' : s.heap.IsValIter it d i es.toArray.size ep := by rw [List.size_toArray]; exact st
    exact wpAny_pyNext_values_end_raw (I.ok.hd hc) st' hm (by simpa using hi) fun h' eb => ⟨rfl, I.turned (t' := s.toks) (fun b ob hb e => eb b ob hb e) f0 f1 f3 f4 f5⟩
  self := fun A i s Q E st h => wpAny_pyIter_valiter st h
theorem turn_di {elts : List Expr} {kk : Nat} {tpos : Pos} (it : Addr) (hod : od.data = .dict es0 ep) : Turn P w K (.Tuple elts kk tpos) (Idi d od es) [it] it (fun i h => ∃ ok ov, IsItemIter h it d i es.length ep ok ov) where
  mem := by simp
  obj := fun i h st b hb => by
    have e : b = it := by simpa using hb
    subst e
    obtain ⟨ok, ov, e⟩ := st
    exact ⟨_, e, fun v z => nomatch z⟩
  keep := fun i h h' st k => let ⟨ok, ov, e⟩ := st; ⟨ok, ov, k it (by simp) _ e⟩
  item := by
    intro X hP hw hK hc i pins s σ H E I hf st hg
    subst hP hw hK
    obtain ⟨hd, e, x, y, hi, rx, ry⟩ := hg
    obtain ⟨hm, _⟩ := frz_raw I.hok hd hod
    have hlt : i < es.toArray.size := by simpa using (List.getElem?_eq_some_iff.mp hi).1
    have he : es.toArray[i] = e := by have := (List.getElem?_eq_some_iff.mp hi).2; simpa using this
    obtain ⟨ok, ov, st⟩ := st
    have st' : IsItemIter s.heap it d i es.toArray.size ep ok ov := by rw [List.size_toArray]; exact st
    have hits : it < s.heap.objs.size := Heap.lt_size st
    refine wpAny_pyNext_items_item_raw st' hm hlt fun h' ho hT hz hk => ?_
    rw [he] at hT ho
    refine ⟨_, rfl, wpAny_letOwnedTupleGo_items (s := { s with heap := h' }) ho fun h'' he' sb => ?_⟩
    have hT2 : h''.get? s.heap.objs.size = some { cls := .type "tuple", data := .seq #[e.key, e.val] } := (sb.2 _ (Nat.ne_of_gt hits)).trans hT
    have new : ObjOk X.prog X.w (upd H s.heap.objs.size (.tup [x, y])) h'' s.heap.objs.size (.tup [x, y]) :=
      ⟨by show 2 ≤ sizeLine; decide, [e.key, e.val], .cons rx (.cons ry .nil), ⟨_, hT2, rfl, _, rfl⟩⟩
    have I1 : Inv X pins σ (upd H s.heap.objs.size (.tup [x, y])) { s with heap := h'' } :=
      I.turnedNew (t' := s.toks) (ch := [it]) (fun b ob hb e => (sb.2 b (by simpa using hb)).trans (hk b ob (by simpa using hb) e)) hf (Nat.le_refl _) new
    refine ⟨.ref s.heap.objs.size, _, I1, rfl, ⟨_, e, x, y, hi, rx, ry, rfl, I.hok.fresh (Nat.le_refl _), rfl⟩, ⟨e.key, e.val, ?_⟩, fun b hb => ?_⟩
    · rw [List.size_toArray] at he'
      exact he'
    · have e : b = it := by simpa using hb
      rw [e, upd_ne (Nat.ne_of_lt hits)]
      exact (hf it (by simp)).1
  done := by
    intro X hP hw hK hc i pins s σ H E I hf st hg
    subst hP hw hK
    obtain ⟨hd, hi⟩ := hg
    obtain ⟨f0, f1, f2, f3, f4, f5⟩ := hf it (by simp)
    obtain ⟨hm, _⟩ := frz_raw I.hok hd hod
    obtain ⟨ok, ov, st⟩ := st
    have st' : IsItemIter s.heap it d i es.toArray.size ep ok ov := by rw [List.size_toArray]; exact st
    exact wpAny_pyNext_items_end_raw (I.ok.hd hc) st' hm (by simpa using hi) fun h' eb => ⟨rfl, I.turned (t' := s.toks) (fun b ob hb e => eb b ob hb e) f0 f1 f3 f4 f5⟩
  self := fun A i s Q E st h => let ⟨_, _, e⟩ := st; PySem.W.kcp_self e h
end
/-- the dict is locked, where it is not; J: what walks it -/
def iLockD (X : Cx) (J : Addr → Obj → List DictEntry → It) (x : V) (H1 : Hp) (R : It → Hp → Prop) : Prop := ∃ d es, x = .ref d ∧ (d == sysModules) = false ∧
  ((H1 d = some (.ext (DRaw d es)) ∧ ∀ od, (∀ o' u', X.H_0 d ≠ some (.frz o' u')) → R (J d od es) (upd H1 d (.frz od (.ext (DRaw d es))))) ∨ ∃ od, H1 d = some (.frz od (.ext (DRaw d es))) ∧ R (J d od es) H1)
section
variable {X : Cx} {pins : List (Addr × Obj)} {σ : L2.St} {H : Hp} {s : Shared} {tg e : Expr}
/-- at a dict to be walked: frozen -/
theorem lockD_run {J : Addr → Obj → List DictEntry → It} {x : V} {u : Value} {R : It → Hp → Prop} (I : Inv X pins σ H s) (rx : RelV x u) (h : iLockD X J x H R) :
    ∃ d od es es0 ep H', x = .ref d ∧ u = .ref d ∧ (d == sysModules) = false ∧ Inv X pins σ H' s ∧ od.data = .dict es0 ep ∧ s.heap.DictRaw d es.toArray ep ∧ R (J d od es) H' := by
  obtain ⟨d, es, rfl, sm, h | ⟨od, hd, h⟩⟩ := h
  · obtain ⟨hd, h⟩ := h
    obtain ⟨od, I1⟩ := I.lock hd True.intro
    obtain ⟨g, z⟩ := I1.hok d _ upd_same
    obtain ⟨o, ep, g1, g2, g3⟩ := z.1
    rw [g] at g1; cases g1
    exact ⟨d, od, es, es.toArray, ep, _, rfl, rx, sm, I1, g3, ⟨od, g, g2, g3⟩, h od (I.nofrz hd True.intro)⟩
  · obtain ⟨g, z⟩ := I.hok d _ hd
    obtain ⟨o, ep, g1, g2, g3⟩ := z.1
    rw [g] at g1; cases g1
    exact ⟨d, od, es, es.toArray, ep, H, rfl, rx, sm, I, g3, ⟨od, g, g2, g3⟩, h⟩
theorem iter_dk {x : V} {u : Value} {R : It → Hp → Prop} (I : Inv X pins σ H s) (rx : RelV x u) (h : iLockD X Idk x H R) : wpAny (model X.prog X.w) X.A (pyIter u) (PIE X pins σ tg R) X.xe s := by
  obtain ⟨d, od, es, es0, ep, H', rfl, rfl, sm, I1, hod, hm, h⟩ := lockD_run I rx h
  refine wpAny_pyIter_dict_raw sm hm (pi_one (tk := s.toks) I1 _ (turn_dk _ hod) ⟨_, Heap.get?_push_size _ rfl, rfl, ?_⟩ h)
  rw [List.size_toArray] <;> rfl

theorem iter_dv {x : V} {u : Value} {R : It → Hp → Prop} (I : Inv X pins σ H s) (rx : RelV x u) (h : iLockD X Idv x H R) (cpos : Pos) :
    ∃ d, u = .ref d ∧ s.TypeIs (.ref d) "dict" ∧ (∀ a, Value.ref d = .ref a → ∃ ob, s.heap.get? a = some ob ∧ ob.dict = none) ∧
      wpAny (model X.prog X.w) X.A (callWith cpos (.builtin "dict.values") [.ref d] [] []) (fun v s1 => wpAny (model X.prog X.w) X.A (pyIter v) (PIE X pins σ tg R) X.xe s1) X.xe s := by
  obtain ⟨d, od, es, es0, ep, H', rfl, rfl, sm, I1, hod, hm, h⟩ := lockD_run I rx h
  obtain ⟨o, g1, g2, g3⟩ := id hm
  refine ⟨d, rfl, hm.typeIs, fun a e => (by cases e; exact ⟨o, g1, g2.2.1⟩), ?_⟩
  have I2 : Inv X pins σ H' { s with heap := s.heap.push { cls := .type "dict_values", data := .fields #[.ref d] } } := I1.kept (t' := s.toks) fun b ob q => Heap.get?_push_of_some _ q
  have fin : wpAny (model X.prog X.w) X.A (pyIter (.ref s.heap.objs.size)) (PIE X pins σ tg R) X.xe { s with heap := s.heap.push { cls := .type "dict_values", data := .fields #[.ref d] } } := by
    refine wpAny_pyIter_values_raw (d := d) ⟨_, Heap.get?_push_size _ rfl, rfl, rfl⟩ (hm.at fun o e => Heap.get?_push_of_some _ e) (pi_one (tk := s.toks) I2 _ (turn_dv _ hod) ⟨_, Heap.get?_push_size _ rfl, rfl, ?_⟩ h)
    rw [List.size_toArray] <;> rfl
  exact method_meetsIn F.slot_dict_values F.entry_dict_values rfl (PySem.evalArgs_none ⟨rfl, hm.typeIs, F.args_dict_values_1 _, _, meets_dict_values_raw d sm, ⟨_, _, hm⟩, fin⟩)
theorem iter_di {elts : List Expr} {kk : Nat} {tpos : Pos} {x : V} {u : Value} {R : It → Hp → Prop} (I : Inv X pins σ H s) (rx : RelV x u) (h : iLockD X Idi x H R) (cpos : Pos) :
    ∃ d, u = .ref d ∧ s.TypeIs (.ref d) "dict" ∧ (∀ a, Value.ref d = .ref a → ∃ ob, s.heap.get? a = some ob ∧ ob.dict = none) ∧
      wpAny (model X.prog X.w) X.A (callWith cpos (.builtin "dict.items") [.ref d] [] []) (fun v s1 => wpAny (model X.prog X.w) X.A (pyIter v) (PIE X pins σ (.Tuple elts kk tpos) R) X.xe s1) X.xe s := by
  obtain ⟨d, od, es, es0, ep, H', rfl, rfl, sm, I1, hod, hm, h⟩ := lockD_run I rx h
  obtain ⟨o, g1, g2, g3⟩ := id hm
  refine ⟨d, rfl, hm.typeIs, fun a e => (by cases e; exact ⟨o, g1, g2.2.1⟩), ?_⟩
  have I2 : Inv X pins σ H' { s with heap := s.heap.push { cls := .type "dict_items", data := .fields #[.ref d] } } := I1.kept (t' := s.toks) fun b ob q => Heap.get?_push_of_some _ q
  have fin : wpAny (model X.prog X.w) X.A (pyIter (.ref s.heap.objs.size)) (PIE X pins σ (.Tuple elts kk tpos) R) X.xe { s with heap := s.heap.push { cls := .type "dict_items", data := .fields #[.ref d] } } := by
    refine wpAny_pyIter_items_raw (d := d) ⟨_, Heap.get?_push_size _ rfl, rfl, rfl⟩ (hm.at fun o e => Heap.get?_push_of_some _ e) (pi_one (tk := s.toks) I2 _ (turn_di _ hod) ⟨.none, .none, ?_⟩ h)
    rw [List.size_toArray]
    exact Heap.get?_push_size _ rfl
  exact method_meetsIn F.slot_dict_items F.entry_dict_items rfl (PySem.evalArgs_none ⟨rfl, hm.typeIs, F.args_dict_items_1 _, _, meets_dict_items_raw d sm, ⟨_, _, hm⟩, fin⟩)
end

/-! ### .. in the mirror -/
theorem KeyR.val {w : World} {K : PySem.W.Frag} {al : List Addr} {H : Hp} {k : D} {e : DictEntry} (h : KeyR w K al H k e) : ∃ x, RelV x e.key ∧ RV K al H k x := by
  rcases h with ⟨f, h1, h2, _⟩ | ⟨n, b, h1, h2, h3, _⟩
  · refine ⟨kV f, relV_key h2, ?_⟩
    cases k <;> first | (cases h1; done) | (cases h1; first | exact .int _ | exact .str _)
  · exact ⟨.ref b, h2, h3⟩
def stillD (j : Nat) (kvs : List (D × D)) (μ : MH) : Prop := μ[j]? = some (.dict kvs true)
def unlD' (j : Nat) (μ : MH) : Option MH := match μ[j]? with
  | some (.dict kvs true) => some (μ.set j (.dict kvs false))
  | _ => none
def planD (items : List (D × D) → List D) (d : D) (μ : MH) : Out Plan := match d with
  | .ref j => match μ[j]? with
    | some (.dict kvs false) => .ok ⟨items kvs, stillD j kvs, fun μ => μ.set j (.dict kvs true), unlD' j⟩ μ
    | some (.dict kvs true) => .ok ⟨items kvs, stillD j kvs, id, some⟩ μ
    | _ => .bad
  | _ => .bad
section
variable {X : Cx}
theorem ObjR.monoW {w : World} {K : PySem.W.Frag} {al al' : List Addr} {H H' : Hp} {a : Addr} (e : ExtW K al H al' H') (ha : H' a = H a) {o : O} (h : ObjR w K al H a o) : ObjR w K al' H' a o := by
  cases o with
  | lst xs => obtain ⟨vs, h1, h2⟩ := h; exact ⟨vs, by rw [ha]; exact h1, h2.monoW e⟩
  | dict kvs l =>
    obtain ⟨h1, h2, h3, h4, es, h5, h6⟩ := h
    refine ⟨h1, h2, h3, h4, es, by cases l <;> (unfold DAt at h5 ⊢; rw [ha]; exact h5), L2.Paired.mapP h6 fun _ _ q => ?_⟩
    obtain ⟨q1, v, q2, q3⟩ := q
    refine ⟨?_, v, q2, q3.monoW e⟩
    rcases q1 with h | ⟨n, b, h1, h2, h3, h4⟩
    · exact .inl h
    · exact .inr ⟨n, b, h1, h2, h3.monoW e, h4⟩
  | ins C fs => obtain ⟨dx, vs, h1, h2⟩ := h; exact ⟨dx, vs, by rw [ha]; exact h1, L2.Paired.mapP h2 fun _ _ q => ⟨q.1, q.2.monoW e⟩⟩
/-- a locked dict is let go -/
theorem unl_rep {al : List Addr} {H : Hp} {μ : MH} {j : Nat} {a : Addr} {kvs : List (D × D)} (rp : Rep X.w X.K al H μ) (hp : al[j]? = some a) (hx : μ[j]? = some (.dict kvs true)) :
    ∃ od es, H a = some (.frz od (.ext (DRaw a es))) ∧ ExtW X.K al H al (upd H a (.ext (DRaw a es))) ∧ Rep X.w X.K al (upd H a (.ext (DRaw a es))) (μ.set j (.dict kvs false)) := by
  obtain ⟨h1, h2, h3, h4, es, ⟨od, h5⟩, h6⟩ := rp.of hp hx
  have ew : ExtW X.K al H al (upd H a (.ext (DRaw a es))) := by
    refine ⟨⟨[], by simp⟩, fun b ys t => ?_, fun b ys t => ?_⟩
    · rcases t with (t | ⟨o, t⟩) | t
      · exact .inl (.inl (by rw [upd_ne (fun z => by rw [z, h5] at t; cases t)]; exact t))
      · exact .inl (.inr ⟨o, by rw [upd_ne (fun z => by rw [z, h5] at t; cases t)]; exact t⟩)
      · exact .inr t
    · rcases t with ⟨o, t⟩ | t
      · exact .inl ⟨o, by rw [upd_ne (fun z => by rw [z, h5] at t; cases t)]; exact t⟩
      · exact .inr t
  refine ⟨od, es, h5, ew, rp.nd, by simp [rp.len], fun i b o hb ho => ?_⟩
  by_cases hi : i = j
  · subst hi
    rw [hp] at hb; cases hb
    rw [List.getElem?_set_self (by rw [← rp.len]; exact (List.getElem?_eq_some_iff.mp hp).1)] at ho
    cases ho
    refine ⟨h1, h2, h3, h4, es, upd_same, L2.Paired.mapP h6 fun _ _ q => ?_⟩
    obtain ⟨q1, v, q2, q3⟩ := q
    refine ⟨?_, v, q2, q3.monoW ew⟩
    rcases q1 with h | ⟨n, b, h1, h2, h3, h4⟩
    · exact .inl h
    · exact .inr ⟨n, b, h1, h2, h3.monoW ew, h4⟩
  · rw [List.getElem?_set_ne (Ne.symm hi)] at ho
    have ne : b ≠ a := fun e => by
      subst e
      obtain ⟨k1, e1⟩ := List.getElem?_eq_some_iff.mp hp
      obtain ⟨k2, e2⟩ := List.getElem?_eq_some_iff.mp hb
      exact hi ((List.getElem_inj rp.nd).mp (e2.trans e1.symm))
    exact (rp.of hb ho).monoW ew (upd_ne ne)
/-- what an iterator of a dict is to give: by the entries -/
def GivesD (X : Cx) (J : Addr → Obj → List DictEntry → It) (items : List (D × D) → List D) : Prop := ∀ (a : Addr) (od : Obj) (es : List DictEntry) (kvs : List (D × D)) (al : List Addr) (H : Hp) (μ : MH) (i : Nat), H a = some (.frz od (.ext (DRaw a es))) → Rep X.w X.K al H μ → Paired (EntR X.w X.K al H) kvs es →
  (i = (items kvs).length → (J a od es).stop i H) ∧ ∀ d, (items kvs)[i]? = some d → (J a od es).go i H ∧ ∀ x H', (J a od es).yld i H x H' → ∃ al', Ext X.K al H al' H' ∧ Rep X.w X.K al' H' μ ∧ RV X.K al' H' d x
theorem ents_mono {w : World} {K : PySem.W.Frag} {al al' : List Addr} {H H' : Hp} (e : Ext K al H al' H') {kvs : List (D × D)} {es : List DictEntry} (h : Paired (EntR w K al H) kvs es) : Paired (EntR w K al' H') kvs es := L2.Paired.mapP h fun _ _ q => q.mono e
theorem planD_run {J : Addr → Obj → List DictEntry → It} {items : List (D × D) → List D} (hJ : GivesD X J items) {al : List Addr} {H : Hp} {μ : MH} {E : XW} {R : It → Hp → Prop} {d : D} {v : V} (rp : Rep X.w X.K al H μ) (r : RV X.K al H d v) (g : gI X al H E R (planD items d μ)) : iLockD X J v H R := by
  cases r with
  | @ref j a hp =>
    unfold planD at g
    dsimp only at g
    split at g
    · rename_i kvs hx
      obtain ⟨sm, h2, h3, h4, es, h5, h6⟩ := rp.of hp hx
      have h5 : H a = some (.ext (DRaw a es)) := h5
      refine ⟨a, es, rfl, sm, .inl ⟨h5, fun od hn => g.ok rp ?_⟩⟩
      have ex : Ext X.K al H al (upd H a (.frz od (.ext (DRaw a es)))) := Ext.write rp hp hx rfl _
      refine ⟨ex, rp.write hp hx rfl (o := .dict kvs true) ⟨sm, h2, h3, h4, es, ⟨od, upd_same⟩, ents_mono ex h6⟩, fun al2 H2 μ2 i e2 rp2 _ => hJ a od es kvs al2 H2 μ2 i (e2.frz _ _ _ upd_same) rp2 (ents_mono (ex.trans e2) h6), fun al' H' μ1 μ2 e rp' q => ?_⟩
      have q : unlD' j μ1 = some μ2 := q
      unfold unlD' at q
      split at q
      · rename_i kvs' hx'
        cases q
        have hp' := e.get hp
        obtain ⟨od', es', k1, k2, k3⟩ := unl_rep rp' hp' hx'
        refine .inr ⟨a, od', _, k1, hn, ?_, k2, k3⟩
        have e' := ex.trans e
        refine ⟨e'.pre, fun b ys t => k2.tup _ _ (e'.tup _ _ t), fun b ys t => k2.frl _ _ (e'.frl _ _ t), fun b o u t => ?_⟩
        rw [upd_ne (fun z => by rw [z, h5] at t; cases t)]
        exact e'.frz _ _ _ t
      · cases q
    · rename_i kvs hx
      obtain ⟨sm, h2, h3, h4, es, ⟨od, h5⟩, h6⟩ := rp.of hp hx
      exact ⟨a, es, rfl, sm, .inr ⟨od, h5, g.ok rp (plays_still rp rfl rfl fun al2 H2 μ2 i e2 rp2 _ => hJ a od es kvs al2 H2 μ2 i (e2.frz _ _ _ h5) rp2 (ents_mono e2 h6))⟩⟩
    · exact g.elim
  | _ => exact g.elim
theorem gives_k : GivesD X Idk (fun kvs => kvs.map (·.1)) := fun a od es kvs al H μ i hd rp pr => by
  have el := PySem.Paired.length pr
  refine ⟨fun hi => ⟨hd, by rw [hi, List.length_map, el]; exact Nat.le_refl _⟩, fun d hk => ?_⟩
  rw [List.getElem?_map] at hk
  obtain ⟨p, hp, rfl⟩ := Option.map_eq_some_iff.mp hk
  obtain ⟨e, he, kr, v, rv, rd⟩ := paired_get pr hp
  obtain ⟨x, rx, rk⟩ := kr.val
  refine ⟨⟨hd, e, x, he, rx⟩, fun y H' hy => ?_⟩
  obtain ⟨rfl, e', he', ry⟩ := hy
  rw [he] at he'; cases he'
  rw [ry.inj rx]
  exact ⟨al, Ext.refl, rp, rk⟩
theorem gives_v : GivesD X Idv (fun kvs => kvs.map (·.2)) := fun a od es kvs al H μ i hd rp pr => by
  have el := PySem.Paired.length pr
  refine ⟨fun hi => ⟨hd, by rw [hi, List.length_map, el]; exact Nat.le_refl _⟩, fun d hk => ?_⟩
  rw [List.getElem?_map] at hk
  obtain ⟨p, hp, rfl⟩ := Option.map_eq_some_iff.mp hk
  obtain ⟨e, he, kr, v, rv, rd⟩ := paired_get pr hp
  refine ⟨⟨hd, e, v, he, rv⟩, fun y H' hy => ?_⟩
  obtain ⟨rfl, e', he', ry⟩ := hy
  rw [he] at he'; cases he'
  rw [ry.inj rv]
  exact ⟨al, Ext.refl, rp, rd⟩
theorem gives_i : GivesD X Idi (fun kvs => kvs.map fun p => .tup [p.1, p.2]) := fun a od es kvs al H μ i hd rp pr => by
  have el := PySem.Paired.length pr
  refine ⟨fun hi => ⟨hd, by rw [hi, List.length_map, el]; exact Nat.le_refl _⟩, fun d hk => ?_⟩
  rw [List.getElem?_map] at hk
  obtain ⟨p, hp, rfl⟩ := Option.map_eq_some_iff.mp hk
  obtain ⟨e, he, kr, v, rv, rd⟩ := paired_get pr hp
  obtain ⟨x, rx, rk⟩ := kr.val
  refine ⟨⟨hd, e, x, v, he, rx, rv⟩, fun y H' hy => ?_⟩
  obtain ⟨T, e', x', y', he', rx', ry', rfl, hT, rfl⟩ := hy
  rw [he] at he'; cases he'
  rw [rx'.inj rx, ry'.inj rv]
  exact ⟨al, Ext.tup1 hT _, rp.tup1 hT _, .newTup hT (.cons rk (.cons rd .nil))⟩

/-! ### a value walked: a list, a tuple, a dict, a text -/
def planW (d : D) (μ : MH) : Out Plan := match d with
  | .str x => .ok ⟨x.cps.toList.map fun c => .str ⟨#[c]⟩, fun _ => True, id, some⟩ μ
  | .ref j => match μ[j]? with
    | some (.dict _ _) => planD (fun kvs => kvs.map (·.1)) d μ
    | _ => planV d μ
  | _ => planV d μ
def iVal2 (m : Mx) : Mi := fun τ μ => (m τ μ).bind planW
def iSeqW (X : Cx) (te : TE) : TI := fun σ H R => te σ H fun x H1 => (∃ a, x = .ref a ∧ (((∃ xs, SqL X.K H1 a xs) ∧ R (Itl X.K a) H1) ∨ ((∃ xs, SqT X.K H1 a xs) ∧ R (Itt X.K a) H1))) ∨ iLockD X Idk x H1 R ∨ ∃ y, x = .str y ∧ R (Its y) H1
theorem pi_seqW {tg l : Expr} {tl : TE} (hl : PE X l tl) : PI X tg l (iSeqW X tl) := by
  refine ⟨fun pins s σ H R I h => ?_⟩
  refine thn (hl.run pins s σ H _ I h) fun v s1 ⟨x, H1, I1, r1, q1⟩ => ?_
  rcases q1 with ⟨a, e, q⟩ | q | ⟨y, rfl, q⟩
  · subst e
    cases r1
    have fr : ∀ b ∈ [s1.heap.objs.size], FpOk X pins H1 b := fun b hb => by
      have e : b = s1.heap.objs.size := by simpa using hb
      subst e
      exact I1.fpOk (Nat.le_refl _) (I1.hok.fresh (Nat.le_refl _))
    rcases q with ⟨⟨xs, hq⟩, q⟩ | ⟨⟨xs, hq⟩, q⟩
    · obtain ⟨its, rv, p, hz⟩ := I1.list hq
      refine wpAny_pyIter_list p.isList ?_
      exact ⟨s1.heap.objs.size, [s1.heap.objs.size], _, _, H1, rfl, I1.kept (t' := s1.toks) fun b o e => Heap.get?_push_of_some _ e, turn_list a _, ⟨_, Heap.get?_push_size _ rfl, rfl, rfl⟩, fr, q⟩
    · obtain ⟨its, rv, p, hz⟩ := I1.tuple hq
      refine wpAny_pyIter_tuple (show s1.heap.IsTuple a its.toArray from p) ?_
      exact ⟨s1.heap.objs.size, [s1.heap.objs.size], _, _, H1, rfl, I1.kept (t' := s1.toks) fun b o e => Heap.get?_push_of_some _ e, turn_tuple a _, ⟨_, Heap.get?_push_size _ rfl, rfl, rfl⟩, fr, q⟩
  · exact iter_dk I1 r1 q
  · obtain ⟨t, rfl⟩ := r1
    cases ha : y.cps.all (· < 128)
    · exact wpAny_pyIter_wide ha (pi_one (tk := s1.toks) I1 _ (turn_str _ y t "str_iterator" (.inr rfl)) ⟨_, Heap.get?_push_size _ rfl, rfl, rfl⟩ q)
    · exact wpAny_pyIter_ascii ha (pi_one (tk := s1.toks) I1 _ (turn_str _ y t "str_ascii_iterator" (.inl rfl)) ⟨_, Heap.get?_push_size _ rfl, rfl, rfl⟩ q)
theorem planV_run {al : List Addr} {H : Hp} {μ : MH} {E : XW} {R : It → Hp → Prop} {d : D} {v : V} (rp1 : Rep X.w X.K al H μ) (r : RV X.K al H d v) (g1 : gI X al H E R (planV d μ)) : ∃ a, v = .ref a ∧ (((∃ xs, SqL X.K H a xs) ∧ R (Itl X.K a) H) ∨ ((∃ xs, SqT X.K H a xs) ∧ R (Itt X.K a) H)) := by
  cases r with
  | @tup p xs vs hs rs =>
    refine ⟨p, rfl, .inr ⟨⟨vs, hs⟩, g1.ok rp1 (plays_still rp1 rfl rfl ?_)⟩⟩
    intro al2 H2 μ2 i e2 rp2 _
    have hr := RV.mono e2 (RV.tup hs rs)
    cases hr with
    | @tup _ _ vs2 hs2 rs2 =>
      refine ⟨fun hi => ⟨vs2, hs2, by rw [← rs2.length]; exact Nat.le_of_eq hi.symm⟩, fun d hd => ?_⟩
      obtain ⟨v, h1, h2⟩ := rs2.get hd
      refine ⟨⟨vs2, v, hs2, h1⟩, fun x H' hy => ?_⟩
      obtain ⟨rfl, hy⟩ := hy
      have z := hy vs2 hs2
      rw [h1] at z; cases z
      exact ⟨al2, Ext.refl, rp2, h2⟩
  | @frl p xs vs hs rs =>
    refine ⟨p, rfl, .inl ⟨⟨vs, hs.seq⟩, g1.ok rp1 (plays_still rp1 rfl rfl ?_)⟩⟩
    intro al2 H2 μ2 i e2 rp2 _
    have hr := RV.mono e2 (RV.frl hs rs)
    cases hr with
    | @frl _ _ vs2 hs2 rs2 =>
      refine ⟨fun hi => ⟨vs2, hs2.seq, by rw [← rs2.length]; exact Nat.le_of_eq hi.symm⟩, fun d hd => ?_⟩
      obtain ⟨v, h1, h2⟩ := rs2.get hd
      refine ⟨⟨vs2, v, hs2.seq, h1⟩, fun x H' hy => ?_⟩
      obtain ⟨rfl, hy⟩ := hy
      have z := hy vs2 hs2.seq
      rw [h1] at z; cases z
      exact ⟨al2, Ext.refl, rp2, h2⟩
  | @ref j p hp =>
    unfold planV at g1
    dsimp only at g1
    split at g1
    · rename_i xs hx
      obtain ⟨vs, h1, h2⟩ := rp1.of hp hx
      refine ⟨p, rfl, .inl ⟨⟨vs, SqL.of h1⟩, g1.ok rp1 (plays_still rp1 rfl rfl ?_)⟩⟩
      intro al2 H2 μ2 i e2 rp2 hst
      obtain ⟨vs2, h1, rs2⟩ := rp2.of (Ext.at e2 hp) hst
      refine ⟨fun hi => ⟨vs2, SqL.of h1, by rw [← rs2.length]; exact Nat.le_of_eq hi.symm⟩, fun d hd => ?_⟩
      obtain ⟨v, k1, k2⟩ := rs2.get hd
      refine ⟨⟨vs2, v, SqL.of h1, k1⟩, fun x H' hy => ?_⟩
      obtain ⟨rfl, hy⟩ := hy
      have z := hy vs2 (SqL.of h1)
      rw [k1] at z; cases z
      exact ⟨al2, Ext.refl, rp2, k2⟩
    · exact g1.elim
  | _ => exact g1.elim
theorem planW_run {al : List Addr} {H : Hp} {μ : MH} {E : XW} {R : It → Hp → Prop} {d : D} {v : V} (rp : Rep X.w X.K al H μ) (r : RV X.K al H d v) (g : gI X al H E R (planW d μ)) :
    (∃ a, v = .ref a ∧ (((∃ xs, SqL X.K H a xs) ∧ R (Itl X.K a) H) ∨ ((∃ xs, SqT X.K H a xs) ∧ R (Itt X.K a) H))) ∨ iLockD X Idk v H R ∨ ∃ y, v = .str y ∧ R (Its y) H := by
  unfold planW at g
  split at g
  · rename_i x
    cases r
    refine .inr (.inr ⟨x, rfl, g.ok rp (plays_still rp rfl rfl fun al2 H2 μ2 i e2 rp2 _ => ?_)⟩)
    refine ⟨fun hi => by rw [hi]; show x.cps.size ≤ _; simp, fun d hd => ?_⟩
    rw [List.getElem?_map] at hd
    obtain ⟨c, hc, rfl⟩ := Option.map_eq_some_iff.mp hd
    have hi : i < x.cps.size := by simpa using (List.getElem?_eq_some_iff.mp hc).1
    refine ⟨hi, fun y H' hy => ?_⟩
    obtain ⟨rfl, c', hc', rfl⟩ := hy
    have : c' = c := by
      rw [Array.getElem?_toList] at hc
      rw [hc'] at hc; exact Option.some.inj hc
    subst this
    exact ⟨al2, Ext.refl, rp2, .str _⟩
  · split at g
    · exact .inr (.inl (planD_run gives_k rp r g))
    · exact .inl (planV_run rp r g)
  · exact .inl (planV_run rp r g)
theorem pim_val2 {tg iter : Expr} {m : Mx} (he : PEm X iter m) : PIm X tg iter (iVal2 m) := fun W tk => PI.imp (pi_seqW (he W tk)) fun σ H R ⟨al, τ, μ, sr, rp, g⟩ =>
  ⟨al, τ, μ, sr, rp, gI.bind (k := planW) g fun d μ1 al1 H1 v ex rp1 r g1 => planW_run rp1 r g1⟩
/-- d.values(), d.items() -/
def iTV (X : Cx) (J : Addr → Obj → List DictEntry → It) (te : TE) : TI := fun σ H R => te σ H fun x H1 => iLockD X J x H1 R
theorem pi_dv {tg e : Expr} {td : TE} {apos cpos : Pos} (he : PE X e td) (h0 : notCall0 e = true) (hline : (apos.endLine == cpos.line) = true) : PI X tg (.Call (.Attribute e "values" apos) [] [] cpos) (iTV X Idv td) := by
  refine ⟨fun pins s σ H R I h => ?_⟩
  refine wpAny_Call_method (T := "dict") (id := "dict.values") (attrBase (notCall0_ne h0)) rfl hline F.plainAttrs_dict F.slot_dict_values F.type_dict_values (thn (he.run pins s σ H _ I h) fun u s1 ⟨x, H1, I1, rx, q⟩ => ?_)
  obtain ⟨d, rfl, hT, hd, hw⟩ := iter_dv (tg := tg) I1 rx q cpos
  exact ⟨hT, hd, hw⟩
theorem pi_di {elts : List Expr} {kk : Nat} {tpos : Pos} {e : Expr} {td : TE} {apos cpos : Pos} (he : PE X e td) (h0 : notCall0 e = true) (hline : (apos.endLine == cpos.line) = true) : PI X (.Tuple elts kk tpos) (.Call (.Attribute e "items" apos) [] [] cpos) (iTV X Idi td) := by
  refine ⟨fun pins s σ H R I h => ?_⟩
  refine wpAny_Call_method (T := "dict") (id := "dict.items") (attrBase (notCall0_ne h0)) rfl hline F.plainAttrs_dict F.slot_dict_items F.type_dict_items (thn (he.run pins s σ H _ I h) fun u s1 ⟨x, H1, I1, rx, q⟩ => ?_)
  obtain ⟨d, rfl, hT, hd, hw⟩ := iter_di (elts := elts) (kk := kk) (tpos := tpos) I1 rx q cpos
  exact ⟨hT, hd, hw⟩
def iDv (m : Mx) : Mi := fun τ μ => (m τ μ).bind (planD fun kvs => kvs.map (·.2))
def iDi (m : Mx) : Mi := fun τ μ => (m τ μ).bind (planD fun kvs => kvs.map fun p => .tup [p.1, p.2])
theorem pim_dv {tg e : Expr} {m : Mx} {apos cpos : Pos} (he : PEm X e m) (h0 : notCall0 e = true) (hline : (apos.endLine == cpos.line) = true) : PIm X tg (.Call (.Attribute e "values" apos) [] [] cpos) (iDv m) := fun W tk => PI.imp (pi_dv (he W tk) h0 hline) fun σ H R ⟨al, τ, μ, sr, rp, g⟩ =>
  ⟨al, τ, μ, sr, rp, gI.bind (k := planD fun kvs => kvs.map (·.2)) g fun d μ1 al1 H1 v ex rp1 r g1 => planD_run gives_v rp1 r g1⟩
theorem pim_di {elts : List Expr} {kk : Nat} {tpos : Pos} {e : Expr} {m : Mx} {apos cpos : Pos} (he : PEm X e m) (h0 : notCall0 e = true) (hline : (apos.endLine == cpos.line) = true) : PIm X (.Tuple elts kk tpos) (.Call (.Attribute e "items" apos) [] [] cpos) (iDi m) := fun W tk =>
  PI.imp (pi_di (he W tk) h0 hline) fun σ H R ⟨al, τ, μ, sr, rp, g⟩ =>
  ⟨al, τ, μ, sr, rp, gI.bind (k := planD fun kvs => kvs.map fun p => .tup [p.1, p.2]) g fun d μ1 al1 H1 v ex rp1 r g1 => planD_run gives_i rp1 r g1⟩
end
end MM
namespace MM
open PySem PySem.Spec PyProof.Rows L2

/-! ### lists and tuples, as they stand while one walks -/
/-- the items of a list, and that they stay -/
def lstOf (d : D) (μ : MH) : Option (List D × (MH → Prop)) := match d with
  | .frl xs => some (xs, fun _ => True)
  | .ref j => match μ[j]? with
    | some (.lst xs) => some (xs, fun μ => μ[j]? = some (.lst xs))
    | _ => none
  | _ => none
def tupOf (d : D) : Option (List D) := match d with
  | .tup xs => some xs
  | _ => none
section
variable {X : Cx}
theorem lstOf_run {al : List Addr} {H : Hp} {μ : MH} {d : D} {v : V} {xs : List D} {st : MH → Prop} (rp : Rep X.w X.K al H μ) (r : RV X.K al H d v) (h : lstOf d μ = some (xs, st)) :
    ∃ p, v = .ref p ∧ (∃ vs, SqL X.K H p vs ∧ RVs X.K al H xs vs) ∧ ∀ al2 H2 μ2, Ext X.K al H al2 H2 → Rep X.w X.K al2 H2 μ2 → st μ2 → ∃ vs, SqL X.K H2 p vs ∧ RVs X.K al2 H2 xs vs := by
  cases r with
  | @frl p ys vs hs rs =>
    have h : some (ys, fun _ : MH => True) = some (xs, st) := h
    cases h
    exact ⟨p, rfl, ⟨vs, hs.seq, rs⟩, fun al2 H2 μ2 e _ _ => ⟨vs, (e.frl _ _ hs).seq, rs.mono e⟩⟩
  | @ref j p hp =>
    unfold lstOf at h
    dsimp only at h
    split at h
    · rename_i ys hy
      cases h
      obtain ⟨vs, h1, h2⟩ := rp.of hp hy
      exact ⟨p, rfl, ⟨vs, SqL.of h1, h2⟩, fun al2 H2 μ2 e rp2 hst => (let ⟨vs2, k1, k2⟩ := rp2.of (e.get hp) hst; ⟨vs2, SqL.of k1, k2⟩)⟩
    · cases h
  | _ => cases h
theorem tupOf_run {al : List Addr} {H : Hp} {d : D} {v : V} {xs : List D} (r : RV X.K al H d v) (h : tupOf d = some xs) : ∃ p, v = .ref p ∧ ∀ al2 H2, Ext X.K al H al2 H2 → ∃ vs, SqT X.K H2 p vs ∧ RVs X.K al2 H2 xs vs := by
  cases r with
  | @tup p ys vs hs rs =>
    have h : some ys = some xs := h
    cases h
    exact ⟨p, rfl, fun al2 H2 e => ⟨vs, e.tup _ _ hs, rs.mono e⟩⟩
  | _ => cases h

/-! ### range(a, b, c) -/
def rgN (i j c : Int) : Nat := (Builtin.Range.rangeSize i j c).toNat
def rngC (i c : Int) (n : Nat) : Plan := ⟨(List.range n).map fun k => .int (i + (k : Nat) * c), fun _ => True, id, some⟩
def okRg (i j c : Int) : Bool := decide (c ≠ 0) && (decide (c.natAbs < 1073741824) && (Builtin.Range.small i j c && decide (Builtin.Range.rangeSize i j c = (rgN i j c : Int))))
def kRng3 (ds : List D) (μ : MH) : Out Plan := match ds with
  | [.int i, .int j, .int c] => if okRg i j c = true then .ok (rngC i c (rgN i j c)) μ else .bad
  | _ => .bad
theorem RVs.three {K : PySem.W.Frag} {al : List Addr} {H : Hp} {d e f : D} {vs : List V} (r : RVs K al H [d, e, f] vs) : ∃ v u w, vs = [v, u, w] ∧ RV K al H d v ∧ RV K al H e u ∧ RV K al H f w := by
  cases r with
  | cons a r =>
    obtain ⟨v, u, rfl, h1, h2⟩ := r.two
    exact ⟨_, _, _, rfl, a, h1, h2⟩
theorem plays_rngC {al : List Addr} {H : Hp} {μ : MH} (rp : Rep X.w X.K al H μ) (lo c : Int) (n : Nat) : Plays X al H μ (rngC lo c n) (Itc lo c n) H := plays_still rp rfl rfl fun al2 H2 μ2 i e2 rp2 _ => by
  refine ⟨fun hi => by rw [hi]; show n ≤ _; simp [rngC], fun d hd => ?_⟩
  have hi : i < n := by
    have := (List.getElem?_eq_some_iff.mp hd).1
    simpa [rngC] using this
  refine ⟨hi, fun x H' hy => ?_⟩
  obtain ⟨rfl, rfl⟩ := hy
  have : d = .int (lo + (i : Nat) * c) := by
    have : (rngC lo c n).items[i]? = some (.int (lo + (i : Nat) * c)) := by simp [rngC, hi]
    rw [this] at hd; exact (Option.some.inj hd).symm
  subst this
  exact ⟨al2, Ext.refl, rp2, .int _⟩
theorem pim_rng3 {tg a b c : Expr} {ma : Ma} {p pos : Pos} (hg : Gl X "range") (hm : X.mg "range" = none) (ha : PAm X [a, b, c] ma) (hl : [a, b, c].all notStar = true) : PIm X tg (.Call (.Name "range" p) [a, b, c] [] pos) (iA kRng3 ma) := fun W tk => by
  simp only [List.all_cons, Bool.and_eq_true] at hl
  exact PI.imp (pi_range3 hg hm (ha W tk) (starEach_cons hl.1) (star_plain _ _ _ (by simp [hl.2.1, hl.2.2.1]))) fun σ H R ⟨al, τ, μ, sr, rp, g⟩ => by
    refine ⟨al, τ, μ, sr, rp, gI.bind (k := kRng3) g fun ds μ1 al1 H1 vs ex rp1 r g1 => ?_⟩
    unfold kRng3 at g1
    split at g1
    · split at g1
      · rename_i h
        obtain ⟨v, u, w, rfl, rv, ru, rw'⟩ := r.three
        cases rv; cases ru; cases rw'
        unfold okRg at h
        simp only [Bool.and_eq_true, decide_eq_true_eq] at h
        obtain ⟨h1, h2, h3, h4⟩ := h
        exact ⟨_, _, _, _, rfl, ⟨h1, h2, h3, h4⟩, g1.ok rp1 (plays_rngC rp1 _ _ _)⟩
      · exact g1.elim
    · exact g1.elim

/-! ### reversed -/
def planRv (d : D) (μ : MH) : Out Plan := match lstOf d μ with
  | some (xs, st) => .ok ⟨xs.reverse, st, id, some⟩ μ
  | none => match tupOf d with
    | some xs => .ok ⟨xs.reverse, fun _ => True, id, some⟩ μ
    | none => .bad
def iRv (m : Mx) : Mi := fun τ μ => (m τ μ).bind planRv
theorem rev_at {α : Type} {xs : List α} {i : Nat} {x : α} (h : xs.reverse[i]? = some x) : i < xs.length ∧ xs[xs.length - 1 - i]? = some x := by
  have hi : i < xs.length := by simpa using (List.getElem?_eq_some_iff.mp h).1
  rw [List.getElem?_reverse hi] at h
  exact ⟨hi, h⟩
theorem pim_rev {tg e : Expr} {m : Mx} {p pos : Pos} (hg : Gl X "reversed") (hm : X.mg "reversed" = none) (he : PEm X e m) (hs : notStar e = true) : PIm X tg (.Call (.Name "reversed" p) [e] [] pos) (iRv m) := fun W tk =>
  PI.imp (RT.pi_revA hg hm (he W tk) (starEach_cons hs)) fun σ H R ⟨al, τ, μ, sr, rp, g⟩ => by
    refine ⟨al, τ, μ, sr, rp, gI.bind (k := planRv) g fun d μ1 al1 H1 v ex rp1 r g1 => ?_⟩
    unfold planRv at g1
    split at g1
    · rename_i xs st hl
      obtain ⟨q, rfl, ⟨vs, h1, h2⟩, h3⟩ := lstOf_run rp1 r hl
      have el := h2.length
      refine ⟨q, vs, rfl, .inl ⟨h1, g1.ok rp1 (plays_still rp1 rfl rfl fun al2 H2 μ2 i e2 rp2 hst => ?_)⟩⟩
      obtain ⟨vs2, k1, k2⟩ := h3 al2 H2 μ2 e2 rp2 hst
      have el2 := k2.length
      refine ⟨fun hi => by show vs.length ≤ i; simp at hi; omega, fun d hd => ?_⟩
      obtain ⟨hi, hx⟩ := rev_at hd
      obtain ⟨v, q1, q2⟩ := k2.get hx
      have e1 : vs.length - 1 - i = xs.length - 1 - i := by omega
      refine ⟨⟨by omega, vs2, v, k1, by rw [e1]; exact q1⟩, fun x H' hy => ?_⟩
      obtain ⟨rfl, hy⟩ := hy
      have z := hy vs2 k1
      rw [e1, q1] at z; cases z
      exact ⟨al2, Ext.refl, rp2, q2⟩
    · split at g1
      · rename_i xs ht
        obtain ⟨q, rfl, h3⟩ := tupOf_run r ht
        obtain ⟨vs, h1, h2⟩ := h3 _ _ Ext.refl
        have el := h2.length
        refine ⟨q, vs, rfl, .inr ⟨h1, g1.ok rp1 (plays_still rp1 rfl rfl fun al2 H2 μ2 i e2 rp2 hst => ?_)⟩⟩
        obtain ⟨vs2, k1, k2⟩ := h3 al2 H2 e2
        have el2 := k2.length
        refine ⟨fun hi => by show vs.length ≤ i; simp at hi; omega, fun d hd => ?_⟩
        obtain ⟨hi, hx⟩ := rev_at hd
        obtain ⟨v, q1, q2⟩ := k2.get hx
        have e1 : vs.length - 1 - i = xs.length - 1 - i := by omega
        refine ⟨⟨by omega, vs2, v, k1, by rw [e1]; exact q1⟩, fun x H' hy => ?_⟩
        obtain ⟨rfl, hy⟩ := hy
        have z := hy vs2 k1
        rw [e1, q1] at z; cases z
        exact ⟨al2, Ext.refl, rp2, q2⟩
      · exact g1.elim

/-! ### enumerate -/
def enumD (xs : List D) : List D := xs.mapIdx fun i x => .tup [.int (i : Nat), x]
def kEnum (ds : List D) (μ : MH) : Out Plan := match ds with
  | [d] => match lstOf d μ with
    | some (xs, st) => .ok ⟨enumD xs, st, id, some⟩ μ
    | none => .bad
  | _ => .bad
theorem pim_enum {elts : List Expr} {kk : Nat} {tpos : Pos} {e : Expr} {ma : Ma} {p pos : Pos} (hg : Gl X "enumerate") (hm : X.mg "enumerate" = none) (ha : PAm X [e] ma) (hs : notStar e = true) : PIm X (.Tuple elts kk tpos) (.Call (.Name "enumerate" p) [e] [] pos) (iA kEnum ma) := fun W tk =>
  PI.imp (pi_enum hg hm (ha W tk) (by rw [starEach_cons hs] <;> rfl)) fun σ H R ⟨al, τ, μ, sr, rp, g⟩ => by
    refine ⟨al, τ, μ, sr, rp, gI.bind (k := kEnum) g fun ds μ1 al1 H1 vs ex rp1 r g1 => ?_⟩
    unfold kEnum at g1
    split at g1
    · split at g1
      · rename_i xs st hl
        obtain ⟨v, rfl, rv⟩ := r.one
        obtain ⟨q, rfl, ⟨vs, h1, h2⟩, h3⟩ := lstOf_run rp1 rv hl
        refine ⟨q, vs, rfl, h1, g1.ok rp1 (plays_still rp1 rfl rfl fun al2 H2 μ2 i e2 rp2 hst => ?_)⟩
        obtain ⟨vs2, k1, k2⟩ := h3 al2 H2 μ2 e2 rp2 hst
        have el2 := k2.length
        refine ⟨fun hi => ⟨vs2, k1, by simp [enumD] at hi; omega⟩, fun d hd => ?_⟩
        unfold enumD at hd
        rw [List.getElem?_mapIdx] at hd
        obtain ⟨y, hy, rfl⟩ := Option.map_eq_some_iff.mp hd
        obtain ⟨v, q1, q2⟩ := k2.get hy
        refine ⟨⟨vs2, v, k1, q1⟩, fun x H' hyl => ?_⟩
        obtain ⟨T, x', rfl, hT, rfl, hx'⟩ := hyl
        have z := hx' vs2 k1
        rw [q1] at z; cases z
        exact ⟨al2, Ext.tup1 hT _, rp2.tup1 hT _, .newTup hT (.cons (.int _) (.cons q2 .nil))⟩
      · exact g1.elim
    · exact g1.elim

/-! ### zip -/
def zipD (xs ys : List D) : List D := (xs.zip ys).map fun p => .tup [p.1, p.2]
def kZip (ds : List D) (μ : MH) : Out Plan := match ds with
  | [d, e] => match lstOf d μ, lstOf e μ with
    | some (xs, st), some (ys, st') => .ok ⟨zipD xs ys, fun μ => st μ ∧ st' μ, id, some⟩ μ
    | _, _ => match tupOf d, tupOf e with
      | some xs, some ys => .ok ⟨zipD xs ys, fun _ => True, id, some⟩ μ
      | _, _ => .bad
  | _ => .bad
theorem zip_at {xs ys : List D} {i : Nat} {d : D} (h : (zipD xs ys)[i]? = some d) : ∃ x y, xs[i]? = some x ∧ ys[i]? = some y ∧ d = .tup [x, y] := by
  unfold zipD at h
  rw [List.getElem?_map] at h
  obtain ⟨p, hp, rfl⟩ := Option.map_eq_some_iff.mp h
  rw [List.getElem?_zip_eq_some] at hp
  exact ⟨p.1, p.2, hp.1, hp.2, rfl⟩
theorem zip_end {xs ys : List D} {i : Nat} (h : i = (zipD xs ys).length) : xs.length ≤ i ∨ ys.length ≤ i := by
  unfold zipD at h
  rw [List.length_map, List.length_zip] at h
  omega
theorem pim_zip {elts : List Expr} {kk : Nat} {tpos : Pos} {e e2 : Expr} {ma : Ma} {p pos : Pos} (hg : Gl X "zip") (hm : X.mg "zip" = none) (ha : PAm X [e, e2] ma) (hs : notStar e = true) (hs2 : notStar e2 = true) : PIm X (.Tuple elts kk tpos) (.Call (.Name "zip" p) [e, e2] [] pos) (iA kZip ma) := fun W tk =>
  PI.imp (RZ.pi_zipA hg hm (ha W tk) (starEach_cons hs) (star_plain _ _ _ (by simp [hs2]))) fun σ H R ⟨al, τ, μ, sr, rp, g⟩ => by
    refine ⟨al, τ, μ, sr, rp, gI.bind (k := kZip) g fun ds μ1 al1 H1 vs ex rp1 r g1 => ?_⟩
    unfold kZip at g1
    split at g1
    · obtain ⟨v, u, rfl, rv, ru⟩ := r.two
      split at g1
      · rename_i xs st ys st' hl hl'
        obtain ⟨q, rfl, ⟨ws, h1, h2⟩, h3⟩ := lstOf_run rp1 rv hl
        obtain ⟨q', rfl, ⟨ws', h1', h2'⟩, h3'⟩ := lstOf_run rp1 ru hl'
        refine ⟨q, q', ws, ws', rfl, .inl ⟨h1, h1', g1.ok rp1 (plays_still rp1 rfl rfl fun al2 H2 μ2 i e2 rp2 hst => ?_)⟩⟩
        obtain ⟨vs2, k1, k2⟩ := h3 al2 H2 μ2 e2 rp2 hst.1
        obtain ⟨vs2', k1', k2'⟩ := h3' al2 H2 μ2 e2 rp2 hst.2
        refine ⟨fun hi => ⟨vs2, vs2', k1, k1', by rw [← k2.length, ← k2'.length]; exact zip_end hi⟩, fun d hd => ?_⟩
        obtain ⟨x, y, hx, hy, rfl⟩ := zip_at hd
        obtain ⟨v, q1, q2⟩ := k2.get hx
        obtain ⟨v', q1', q2'⟩ := k2'.get hy
        refine ⟨⟨vs2, vs2', v, v', k1, k1', q1, q1'⟩, fun z H' hyl => ?_⟩
        obtain ⟨T, x', y', rfl, hT, rfl, hx', hy'⟩ := hyl
        have z := hx' vs2 k1
        rw [q1] at z; cases z
        have z := hy' vs2' k1'
        rw [q1'] at z; cases z
        exact ⟨al2, Ext.tup1 hT _, rp2.tup1 hT _, .newTup hT (.cons q2 (.cons q2' .nil))⟩
      · split at g1
        · rename_i xs ys hl hl'
          obtain ⟨q, rfl, h3⟩ := tupOf_run rv hl
          obtain ⟨q', rfl, h3'⟩ := tupOf_run ru hl'
          obtain ⟨ws, h1, h2⟩ := h3 _ _ Ext.refl
          obtain ⟨ws', h1', h2'⟩ := h3' _ _ Ext.refl
          refine ⟨q, q', ws, ws', rfl, .inr ⟨h1, h1', g1.ok rp1 (plays_still rp1 rfl rfl fun al2 H2 μ2 i e2 rp2 hst => ?_)⟩⟩
          obtain ⟨vs2, k1, k2⟩ := h3 al2 H2 e2
          obtain ⟨vs2', k1', k2'⟩ := h3' al2 H2 e2
          refine ⟨fun hi => ⟨vs2, vs2', k1, k1', by rw [← k2.length, ← k2'.length]; exact zip_end hi⟩, fun d hd => ?_⟩
          obtain ⟨x, y, hx, hy, rfl⟩ := zip_at hd
          obtain ⟨v, q1, q2⟩ := k2.get hx
          obtain ⟨v', q1', q2'⟩ := k2'.get hy
          refine ⟨⟨vs2, vs2', v, v', k1, k1', q1, q1'⟩, fun z H' hyl => ?_⟩
          obtain ⟨T, x', y', rfl, hT, rfl, hx', hy'⟩ := hyl
          have z := hx' vs2 k1
          rw [q1] at z; cases z
          have z := hy' vs2' k1'
          rw [q1'] at z; cases z
          exact ⟨al2, Ext.tup1 hT _, rp2.tup1 hT _, .newTup hT (.cons q2 (.cons q2' .nil))⟩
        · exact g1.elim
    · exact g1.elim
end
end MM
namespace MM
open PySem PySem.Spec PyProof.Rows L2

/-! ### raise C('..'), try .. except C -/
def sRaise0 (C : Str) : Ms := fun τ μ => .ok (.ex C [] τ) μ
def noEx (r : Out Fl) : Out Fl := match r with
  | .ok (.ex _ _ _) _ => .bad
  | r => r
def catchM (exm : Str → Str → Option Bool) : List (Str × Ms) → Str → List (Str × D) → MSt → MH → Out Fl
  | [], C, fs, τ, μ => .ok (.ex C fs τ) μ
  | (Cn, m) :: r, C, fs, τ, μ => match exm C Cn with
    | some true => noEx (m τ μ)
    | some false => catchM exm r C fs τ μ
    | none => .bad
def sTry (exm : Str → Str → Option Bool) (b : Ms) (hs : List (Str × Ms)) : Ms := fun τ μ => match b τ μ with
  | .ok (.ex C fs τ') μ' => catchM exm hs C fs τ' μ'
  | r => r
section
variable {X : Cx} {pos pos' p p2 : Pos} {C : Str}
theorem psm_raise0 {m : Str} {j} (hc : X.calm = true) (hg : Gl X C) (hm : X.mg C = some (.ref (He.ga X.K C))) (hx : (He.Fa.exc C).ok X.K = true) (hdb : (C == ("__debug__" : Str)) = false) :
    PSm X (.Raise (some (.Call (.Name C p) [.Constant (.str m) j p2] [] pos)) none pos') (sRaise0 C) := fun W tk => by
  obtain ⟨h1, h2, h3, h4⟩ := He.exc_ok hx
  refine PS.imp (L2.ps_raise hc tk (L2.pmk_own PySem.F.excBase_ValueError h1 hm h2 (raises_own h3 h4) hg hdb)) fun D σ H h => ?_
  obtain ⟨al, τ, μ, sr, rp, g⟩ := h
  exact g al H _ none σ Ext.refl rp sr ⟨rfl, .inl ⟨rfl, rfl⟩⟩
/-- the clauses -/
inductive HdsM (X : Cx) : List ExceptHandler → List (Str × Ms) → Prop
  | nil : HdsM X [] []
  | cons {Cn : Str} {m : Ms} {b₀ : Stmt} {suite : List Stmt} {np pos' : Pos} {hds : List ExceptHandler} {l : List (Str × Ms)} (hc : L2.Names X Cn (.ref (He.ga X.K Cn)))
      (hsu : ∀ (a : Addr) (pn : List (Addr × Obj)), PSsm (X.suite a pn) (b₀ :: suite) m) (r : HdsM X hds l) : HdsM X (.ExceptHandler (some (.Name Cn np)) none (b₀ :: suite) pos' :: hds) ((Cn, m) :: l)
def lOf (X : Cx) (l : List (Str × Ms)) : List (Value × (Addr → Value → Option Addr → TS)) := l.map fun p => (.ref (He.ga X.K p.1), fun _ _ _ => tMS X.w X.K WF p.2)
theorem HdsM.ok : ∀ {hds : List ExceptHandler} {l : List (Str × Ms)}, HdsM X hds l → L2.HdsOk X hds (lOf X l)
  | _, _, .nil => .nil
  | _, _, .cons hc hsu r => .cons hc (fun a oe cls d pn _ _ => hsu a _ WF takes_no) (HdsM.ok r)
theorem gS.noEx {w : World} {K : PySem.W.Frag} {al : List Addr} {H : Hp} {W : WX} {D : Ends} {r : Out Fl} (h : gS w K al H W D (noEx r)) : gS w K al H WF D r := by
  cases r with
  | bad => exact h.elim
  | exc _ _ _ => exact h.elim
  | ok f μ => cases f with
    | ex _ _ _ => exact h.elim
    | nx _ => exact h
    | ret _ => exact h
    | bk _ => exact h
    | ct _ => exact h
theorem catch_run {exm : Str → Str → Option Bool} (he : ∀ C Cn b, exm C Cn = some b → PySem.W.exmOne X.K (.ref (He.ga X.K C)) (.ref (He.ga X.K Cn)) = some b) {W : WX} {DD : Ends} {C : Str} {fs : List (Str × D)} {τ : MSt} {μ : MH} {al : List Addr} {H : Hp} {σ : L2.St} {cls : Value} {od : Option Addr} :
    ∀ {l : List (Str × Ms)}, gS X.w X.K al H W DD (catchM exm l C fs τ μ) → Rep X.w X.K al H μ → SR X.K al H τ σ → XR X.K al H C fs cls od → L2.wMany X.K W DD (lOf X l) cls od σ H
  | [], g, rp, sr, x => g al H cls od σ Ext.refl rp sr x
  | (Cn, m) :: r, g, rp, sr, x => by
    have g : gS X.w X.K al H W DD (match exm C Cn with | some true => noEx (m τ μ) | some false => catchM exm r C fs τ μ | none => .bad) := g
    cases q : exm C Cn with
    | none => rw [q] at g; exact g.elim
    | some b =>
      rw [q] at g
      have hcls := x.1
      subst hcls
      refine ⟨b, he _ _ _ q, fun hb a _ => ?_, fun hb => ?_⟩
      · subst hb
        exact ⟨al, τ, μ, sr, rp, gS.noEx g⟩
      · subst hb
        exact catch_run he g rp sr x
theorem psm_try {exm : Str → Str → Option Bool} {body : List Stmt} {b : Ms} {h₀ : ExceptHandler} {hds : List ExceptHandler} {l : List (Str × Ms)} (hs : X.stack = X.env :: X.outer) (hf : X.env.frame = some X.env.locals)
    (he : ∀ C Cn b, exm C Cn = some b → PySem.W.exmOne X.K (.ref (He.ga X.K C)) (.ref (He.ga X.K Cn)) = some b)
    (hb : ∀ (pn : List (Addr × Obj)) (xe : Value → Shared → Prop), PassesOwn (model X.prog X.w) X.A X.env xe → PSsm (X.tr pn xe) body b) (hh : HdsM X (h₀ :: hds) l) : PSm X (.Try body (h₀ :: hds) [] [] pos) (sTry exm b l) := fun W tk =>
  PS.imp (L2.ps_try_many (tb := fun W => tMS X.w X.K W b) hs hf tk (fun W' pn xe tk' hp => hb pn xe hp W' tk') hh.ok) fun D σ H h => by
    obtain ⟨al, τ, μ, sr, rp, g⟩ := h
    refine ⟨al, τ, μ, sr, rp, ?_⟩
    have g : gS X.w X.K al H W D (match b τ μ with | .ok (.ex C fs τ') μ' => catchM exm l C fs τ' μ' | r => r) := g
    cases q : b τ μ with
    | bad => rw [q] at g; exact g.elim
    | exc _ _ _ => rw [q] at g; exact g.elim
    | ok f μ' =>
      rw [q] at g
      cases f with
      | nx _ => exact g
      | ret _ => exact g
      | bk _ => exact g
      | ct _ => exact g
      | ex C fs τ' => exact fun al' H' cls od σ' e rp' sr' x => catch_run he (gS.rebase g e) rp' sr' x
end
end MM
namespace MM
open PySem PySem.Spec PyProof.Rows L2

/-! ### {k: v, ..} -/
def dPairs : List (Mx × Mx) → MSt → MH → Out (List (D × D))
  | [], _, μ => .ok [] μ
  | (k, v) :: r, τ, μ => (k τ μ).bind fun x μ => (v τ μ).bind fun y μ => (dPairs r τ μ).bind fun ps μ => .ok ((x, y) :: ps) μ
def dputs (acc : List (D × D)) : List (D × D) → List (D × D)
  | [] => acc
  | p :: r => dputs (dput acc p.1 p.2) r
def kDictD (j : Nat) (kvs : List (D × D)) (μ' : MH) : Out D := if (kvs.all fun p => (fk p.1).isSome) = true ∧ μ'[j]? = some (.dict [] false) ∧ kvs.length ≤ 15 then .ok (.ref j) (μ'.set j (.dict (dputs [] kvs) false)) else .bad
def eDictD (ps : List (Mx × Mx)) : Mx := fun τ μ => (dPairs ps τ (μ ++ [.dict [] false])).bind (kDictD μ.length)
abbrev PVR (K : PySem.W.Frag) (al : List Addr) (H : Hp) : List (D × D) → List (Value × Value) → Prop := Paired fun p q => (∃ x, RelV x q.1 ∧ RV K al H p.1 x) ∧ ∃ y, RelV y q.2 ∧ RV K al H p.2 y
section
variable {X : Cx} {pos : Pos}
theorem PVR.mono {K : PySem.W.Frag} {al al' : List Addr} {H H' : Hp} (e : Ext K al H al' H') {ps : List (D × D)} {vs : List (Value × Value)} (h : PVR K al H ps vs) : PVR K al' H' ps vs :=
  L2.Paired.mapP h fun _ _ ⟨⟨x, a, b⟩, y, c, d⟩ => ⟨⟨x, a, b.mono e⟩, y, c, d.mono e⟩
/-- keys and values, by expressions -/
inductive PPs (X : Cx) : List (Option Expr) → List Expr → List (Mx × Mx) → Prop
  | nil : PPs X [] [] []
  | cons {k v : Expr} {mk mv : Mx} {ks : List (Option Expr)} {vs : List Expr} {ms : List (Mx × Mx)} (hk : PEm X k mk) (hv : PEm X v mv) (t : PPs X ks vs ms) : PPs X (some k :: ks) (v :: vs) ((mk, mv) :: ms)
def semPairs (env : Env) (pos : Pos) : List (Option Expr) → List Expr → List (Sem Value × Sem Value)
  | some k :: ks, v :: vs => (eval k env, do let x ← eval v env; standAt pos; pure x) :: semPairs env pos ks vs
  | _, _ => []
theorem semPairs_shape {ks : List (Option Expr)} {vs : List Expr} {ms : List (Mx × Mx)} (h : PPs X ks vs ms) : (evalEachOpt ks X.env).zip ((evalEach vs X.env).map fun v => do let x ← v; standAt pos; pure x) = (semPairs X.env pos ks vs).map fun p => (some p.1, p.2) := by
  induction h with
  | nil => rfl
  | @cons k v mk mv ks vs ms _ _ t ih =>
    show (some (eval k X.env), do let x ← eval v X.env; standAt pos; pure x) :: ((evalEachOpt ks X.env).zip ((evalEach vs X.env).map fun v => do let x ← v; standAt pos; pure x)) = _
    rw [ih]
    rfl
theorem semPairs_len {ks : List (Option Expr)} {vs : List Expr} {ms : List (Mx × Mx)} (h : PPs X ks vs ms) : (semPairs X.env pos ks vs).length = ms.length := by
  induction h with
  | nil => rfl
  | cons _ _ t ih => exact congrArg (· + 1) ih
theorem pairs_run {W : WX} (tk : Takes X W) {ks : List (Option Expr)} {vs : List Expr} {ms : List (Mx × Mx)} (h : PPs X ks vs ms) : ∀ {pins : List (Addr × Obj)} {s : Shared} {σ : L2.St} {H : Hp} {al : List Addr} {τ : MSt} {μ : MH} {RR : List Addr → Hp → D → V → Prop} {Q : V → Hp → Prop} {k : List (D × D) → MH → Out D} {R : List (Value × Value) → Shared → Prop},
    Inv X pins σ H s → SR X.K al H τ σ → Rep X.w X.K al H μ → gEnd X.w X.K al H RR (fun c d H' => W c d σ H') Q ((dPairs ms τ μ).bind k) →
    (∀ us s1 H1 al1 μ1 kvs, Inv X pins σ H1 s1 → Ext X.K al H al1 H1 → Rep X.w X.K al1 H1 μ1 → PVR X.K al1 H1 kvs us → gEnd X.w X.K al1 H1 RR (fun c d H' => W c d σ H') Q (k kvs μ1) → R us s1) →
    wpAny (model X.prog X.w) X.A (evalPairs (semPairs X.env pos ks vs)) R X.xe s := by
  induction h with
  | nil => exact fun I sr rp g hR => evalPairs_nil (hR [] _ _ _ _ [] I Ext.refl rp .nil g)
  | @cons k v mk mv ks vs ms hk hv t ih =>
    intro pins s σ H al τ μ RR Q kk R I sr rp g hR
    refine evalPairs_cons (thn ((hk W tk).run pins s σ H (fun x H1 => ∃ al1 μ1 d, Ext X.K al H al1 H1 ∧ Rep X.w X.K al1 H1 μ1 ∧ RV X.K al1 H1 d x ∧ gEnd X.w X.K al1 H1 RR (fun c d H' => W c d σ H') Q (((mv τ μ1).bind fun y μ => (dPairs ms τ μ).bind fun ps μ => .ok ((d, y) :: ps) μ).bind kk)) I ⟨al, τ, μ, sr, rp, ?_⟩) fun kv s1 h1 => ?_)
    · have g' : gEnd X.w X.K al H RR (fun c d H' => W c d σ H') Q ((mk τ μ).bind fun x μ => ((mv τ μ).bind fun y μ => (dPairs ms τ μ).bind fun ps μ => .ok ((x, y) :: ps) μ).bind kk) := by
        have e : ((dPairs ((mk, mv) :: ms) τ μ).bind kk) = ((mk τ μ).bind fun x μ => ((mv τ μ).bind fun y μ => (dPairs ms τ μ).bind fun ps μ => .ok ((x, y) :: ps) μ).bind kk) := by
          show (((mk τ μ).bind _).bind kk) = _
          cases mk τ μ <;> rfl
        rw [← e]; exact g
      exact gEnd.bind (k := fun x μ => ((mv τ μ).bind fun y μ => (dPairs ms τ μ).bind fun ps μ => .ok ((x, y) :: ps) μ).bind kk) g' fun d μ1 al1 H1 v e rp1 r g1 => ⟨al1, μ1, d, e, rp1, r, g1⟩
    · obtain ⟨x, H1, I1, rx, al1, μ1, d, e1, rp1, r1, g1⟩ := h1
      refine wpAny_bind (thn ((hv W tk).run pins s1 σ H1 (fun y H2 => ∃ al2 μ2 d2, Ext X.K al1 H1 al2 H2 ∧ Rep X.w X.K al2 H2 μ2 ∧ RV X.K al2 H2 d2 y ∧ gEnd X.w X.K al2 H2 RR (fun c d H' => W c d σ H') Q ((dPairs ms τ μ2).bind fun ps μ => kk ((d, d2) :: ps) μ)) I1 ⟨al1, τ, μ1, sr.mono e1, rp1, ?_⟩) fun vv s2 h2 => ?_)
      · have g' : gEnd X.w X.K al1 H1 RR (fun c d H' => W c d σ H') Q ((mv τ μ1).bind fun y μ => (dPairs ms τ μ).bind fun ps μ => kk ((d, y) :: ps) μ) := by
          have e : (((mv τ μ1).bind fun y μ => (dPairs ms τ μ).bind fun ps μ => .ok ((d, y) :: ps) μ).bind kk) = ((mv τ μ1).bind fun y μ => (dPairs ms τ μ).bind fun ps μ => kk ((d, y) :: ps) μ) := by
            cases mv τ μ1 with
            | ok y μ2 =>
              show ((dPairs ms τ μ2).bind _).bind kk = (dPairs ms τ μ2).bind _
              cases dPairs ms τ μ2 <;> rfl
            | exc _ _ _ => rfl
            | bad => rfl
          rw [← e]; exact g1
        exact gEnd.bind (k := fun y μ => (dPairs ms τ μ).bind fun ps μ => kk ((d, y) :: ps) μ) g' fun d2 μ2 al2 H2 v e rp2 r g2 => ⟨al2, μ2, d2, e, rp2, r, g2⟩
      · obtain ⟨y, H2, I2, ry, al2, μ2, d2, e2, rp2, r2, g2⟩ := h2
        refine wpAny_bind (wpAny_standAt (wpAny_pure ?_))
        exact ih I2 ((sr.mono e1).mono e2) rp2 g2 fun us s3 H3 al3 μ3 kvs I3 e3 rp3 pv g3 => hR _ s3 H3 al3 μ3 _ I3 ((e1.trans e2).trans e3) rp3 (.cons ⟨⟨x, rx, (r1.mono e2).mono e3⟩, y, ry, r2.mono e3⟩ pv) g3
theorem carries_of {K : PySem.W.Frag} {al : List Addr} {H : Hp} {P : Program} {w : World} : ∀ {kvs : List (D × D)} {us : List (Value × Value)}, PVR K al H kvs us → (∀ p ∈ kvs, (fk p.1).isSome = true) → ∃ vs, Carries (mixKind P w) us vs ∧ Paired (FV K al H) kvs vs
  | _, _, .nil, _ => ⟨[], True.intro, .nil⟩
  | (k, d) :: kvs, (uk, ud) :: us, .cons ⟨⟨x, rx, rk⟩, y, ry, rd⟩ t, hf => by
    obtain ⟨vs, h1, h2⟩ := carries_of t fun p hp => hf p (List.mem_cons_of_mem _ hp)
    obtain ⟨f, ef⟩ := Option.isSome_iff_exists.mp (hf (k, d) List.mem_cons_self)
    exact ⟨(f, ud) :: vs, ⟨rk.flat ef rx, rfl, h1⟩, .cons ⟨ef, y, ry, rd⟩ h2⟩
theorem fv_merged {K : PySem.W.Frag} {al : List Addr} {H : Hp} : ∀ {kvs : List (D × D)} {vs : List (Key × Value)}, Paired (FV K al H) kvs vs → ∀ {acc : List (D × D)} {av : List (Key × Value)}, Paired (FV K al H) acc av → Paired (FV K al H) (dputs acc kvs) (merged av vs)
  | _, _, .nil, _, _, ha => by simpa [merged, dputs] using ha
  | (k, d) :: kvs, (f, v) :: vs, .cons ⟨ef, y, ry, rd⟩ t, acc, av, ha => by
    have := fv_merged t (fv_put ha ef ry rd)
    simpa [merged, dputs] using this
theorem dputs_hom : ∀ {kvs acc : List (D × D)}, (∀ p ∈ kvs, (fk p.1).isSome = true) → (∀ p ∈ acc, (fk p.1).isSome = true) → ∀ p ∈ dputs acc kvs, (fk p.1).isSome = true
  | [], _, _, h => h
  | q :: kvs, acc, hk, h => by
    show ∀ p ∈ dputs (dput acc q.1 q.2) kvs, _
    refine dputs_hom (kvs := kvs) (acc := dput acc q.1 q.2) (fun p hp => hk p (List.mem_cons_of_mem _ hp)) fun p hp => ?_
    rcases dput_mem hp with e | ⟨q', hq', e⟩
    · rw [e]; exact hk q List.mem_cons_self
    · rw [← e]; exact h q' hq'
theorem dputs_nodup : ∀ {kvs acc : List (D × D)}, (acc.map (·.1)).Nodup → ((dputs acc kvs).map (·.1)).Nodup
  | [], _, h => h
  | q :: kvs, acc, h => by
    show ((dputs (dput acc q.1 q.2) kvs).map (·.1)).Nodup
    exact dputs_nodup (kvs := kvs) (acc := dput acc q.1 q.2) (dput_nodup h q.1 q.2)
theorem dputs_len : ∀ {kvs acc : List (D × D)}, (dputs acc kvs).length ≤ acc.length + kvs.length
  | [], _ => Nat.le_refl _
  | q :: kvs, acc => by
    have h1 := dputs_len (kvs := kvs) (acc := dput acc q.1 q.2)
    have h2 := dput_le acc q.1 q.2
    show (dputs (dput acc q.1 q.2) kvs).length ≤ acc.length + (kvs.length + 1)
    omega
theorem pem_dictD {ks : List (Option Expr)} {vs : List Expr} {ms : List (Mx × Mx)} (h : PPs X ks vs ms) (h0 : ms ≠ []) (hl : ms.length ≤ 15) : PEm X (.Dict ks vs pos) (eDictD ms) := fun W tk => ⟨fun pins s σ H Q I hh => by
  obtain ⟨al, τ, μ, sr, rp, g⟩ := hh
  have hn : H s.heap.objs.size = none := I.hok.fresh (Nat.le_refl _)
  have len := semPairs_len (pos := pos) h
  refine wpAny_Dict_pairs (knd := mixKind X.prog X.w) (pairs := semPairs X.env pos ks vs) (semPairs_shape h) (fun e => h0 (List.eq_nil_of_length_eq_zero (by rw [← len, e] <;> rfl))) (by rw [len]; exact hl) ?_
  have I1 : Inv X pins σ (upd H s.heap.objs.size (.ext (DRaw s.heap.objs.size []))) { s with heap := s.heap.push { cls := .type "dict", data := .dict #[] } } :=
    I.laid (t' := s.toks) (o := .ext (DRaw s.heap.objs.size [])) (fun b o e => Heap.get?_push_of_some _ e) (Nat.le_refl _) (raw_ok ⟨_, 0, Heap.get?_push_size _ rfl, ⟨rfl, rfl, rfl⟩, rfl⟩)
  have ex : Ext X.K al H (al ++ [s.heap.objs.size]) (upd H s.heap.objs.size (.ext (DRaw s.heap.objs.size []))) := Ext.new hn _
  have rp1 : Rep X.w X.K (al ++ [s.heap.objs.size]) (upd H s.heap.objs.size (.ext (DRaw s.heap.objs.size []))) (μ ++ [.dict [] false]) := rp.new hn ⟨big_ne I (Nat.le_refl _), by simp, by simp, .inl (by simp), [], upd_same, .nil⟩
  have hj : (al ++ [s.heap.objs.size])[μ.length]? = some s.heap.objs.size := by rw [← rp.len, List.getElem?_append_right (Nat.le_refl _)]; simp
  refine pairs_run (k := kDictD μ.length) tk h I1 (sr.mono ex) rp1 (gEnd.rebase g ex) fun us s1 H1 al1 μ1 kvs I2 e2 rp2 pv g2 => ?_
  unfold kDictD at g2
  split at g2
  · rename_i hc
    obtain ⟨hf, hx, e3⟩ := hc
    have hf' : ∀ p ∈ kvs, (fk p.1).isSome = true := fun p hp => List.all_eq_true.mp hf p hp
    obtain ⟨vs', hcar, hfv⟩ := carries_of (P := X.prog) (w := X.w) pv hf'
    have hj2 := e2.get hj
    have ob := rp2.of hj2 hx
    obtain ⟨ws, rr, dd⟩ := dictOf_flat I2 ob (by simp)
    cases rr
    refine ⟨vs', hcar, dd, fun h' dd' hs => ?_⟩
    obtain ⟨es, hr, he⟩ := raw_flat (w := X.w) dd' (fv_merged hfv .nil)
    have el := PySem.Paired.length hfv
    have eul := hcar.length
    obtain ⟨I', rp', ex'⟩ := inv_dwrite (t' := s1.toks + us.length) I2 rp2 hj2 hx hs hr he (by
      have := dputs_len (kvs := kvs) (acc := [])
      rw [sizeLine_eq]
      simp at this
      omega) (dputs_nodup (by simp)) (.inl (dputs_hom hf' (by simp)))
    exact ⟨.ref s.heap.objs.size, _, I', rfl, g2.ok' ex' rp' (.ref (ex'.get hj2))⟩
  · exact g2.elim⟩
end
end MM
namespace MM
open PySem PySem.Spec PyProof.Rows L2

/-! ### sorted(xs, key=f), f a def whose body is `return x[c]` -/
/-- a call f(t) keeps all and gives t[c] -/
def KT (P : Program) (w : World) (K : PySem.W.Frag) (f : Addr) (c : Int) : Prop :=
  ∀ (A : Around) (s : Shared) (t : Addr) (its : List Value) (j : Nat) (u : Value) (k : PyData), A.depth < recursionLimit → K.In s.heap → s.heap.NoLimit → IsTup s.heap t its.toArray → its.length ≤ sizeLine → seqIndex? c its.length = some j →
    its[j]? = some u → Reads s.heap u k [] → wpAny (model P w) A (call (.ref f) [.ref t]) (PySem.W.KeyPure k s) (fun _ _ => False) s
theorem kt_of {P : Program} {w : World} {K : PySem.W.Frag} {f : Addr} {name qual x : Str} {params : Arguments} {c : Int} {cj : Nat} {p1 p2 p3 p4 : Pos} {scope : Scope} {dV kV doc pm cdv ct oc : Value} {an od : Option Addr} {osl : Array (Option Value)} {N : List Str}
    (lk : K.lookup f = some ⟨oc, od, .func (PySem.W.fnOf name qual params [.Return (some (.Subscript (.Name x p1) (.Constant (.int c) cj p2) p3)) p4] scope dV kV doc pm an cdv ct), osl⟩) (hcd : PySem.W.codeIn K cdv qual = true)
    (S : FnScope N [x] scope) (hb : ∀ (s : Shared) (u : Value), BindsTo s (PySem.W.fnOf name qual params [.Return (some (.Subscript (.Name x p1) (.Constant (.int c) cj p2) p3)) p4] scope dV kV doc pm an cdv ct) ⟨[u], []⟩ [(x, u)])
    (hx : scope.names.lookup x = some .local) (hd : (x == ("__debug__" : Str)) = false) : KT P w K f c := by
  intro A s t its j u k hroom KX lim ht hlen hj hu hr
  have hz := sizeLine_eq
  refine wpAny_call (codeAny_call_function hroom (KX _ _ lk) rfl S.co S.gen rfl (PySem.W.codeRec_of KX hcd) (hb s (.ref t) _ _ _ _ ?_))
  refine wpAny_newFunctionEnv_cells S.kind (fun y hy => ?_) fun env he s1 x1 => ?_
  · simp only [List.mem_singleton] at hy
    subst hy; exact .inl hx
  subst he
  refine ⟨lim.keeps x1.toInCall.keep, codeAny_func ?_⟩
  obtain ⟨h', tk, e1, k1⟩ := x1.done
  have hl := x1.toInCall.ns
  have hjl : j < its.length := (List.getElem?_eq_some_iff.mp hu).1
  refine wpAny_execs_cons (wpAny_Return_some (Subscript_ (wpAny_Name (wpAny_loadName_local S.kind hx hl (v := Value.ref t) ?_ (wpAny_Constant_int ?_)) hd)))
  · exact bindL_get (P := [x]) (vs := [Value.ref t]) (i := 0) (List.nodup_cons.mpr ⟨List.not_mem_nil, List.nodup_nil⟩) rfl rfl hx
  · subst e1
    have hc : -(its.length : Int) ≤ c ∧ c < its.length := by
      unfold seqIndex? at hj
      by_cases h0 : c < 0 <;> simp [h0] at hj <;> omega
    refine item_tupleL (l := its) (j := j) (ht.keeps k1) (by omega) (by omega) hj hu ?_ rfl (fun _ => rfl)
    exact ⟨h', _, rfl, k1, PyProof.Rows.Reads.keeps k1 hr⟩
/-- the whole numbers of a key; [] of what is none -/
def intsD : List D → Option (List Int)
  | [] => some []
  | .int i :: r => (intsD r).map (i :: ·)
  | _ => none
def keyOf (c : Int) (d : D) : List Int := match d with
  | .tup ys => match atI ys c with
    | some (.tup zs) => (intsD zs).getD []
    | _ => []
  | _ => []
def leK (c : Int) (a b : D) : Bool := decide (keyOf c a ≤ keyOf c b)
def fSortK (c : Int) : D → MH → Out D := fun d μ => match d with
  | .ref i => match μ[i]? with
    | some (.lst xs) => if (xs.all fun d => !(keyOf c d).isEmpty) = true then .ok (.ref μ.length) (μ ++ [.lst (xs.mergeSort (leK c))]) else .bad
    | _ => .bad
  | _ => .bad
theorem mild1_sortK {c : Int} : Mild1 (fSortK c) := fun d μ C fs μ' h => by
  unfold fSortK at h
  split at h
  · split at h
    · split at h <;> cases h
    · cases h
  · cases h
theorem intsD_map : ∀ {zs : List D} {is : List Int}, intsD zs = some is → zs = is.map D.int
  | [], _, h => by cases h; rfl
  | .int i :: r, is, h => by
    have h' : (intsD r).map (i :: ·) = some is := h
    cases e : intsD r with
    | none => rw [e] at h'; cases h'
    | some js => rw [e] at h'; cases h'; rw [intsD_map e]; rfl
  | .non :: _, _, h | .bl _ :: _, _, h | .str _ :: _, _, h | .tup _ :: _, _, h | .frl _ :: _, _, h | .ref _ :: _, _, h => by cases h
theorem keyOf_tup {c : Int} {d : D} (h : keyOf c d ≠ []) : ∃ ys zs, d = .tup ys ∧ atI ys c = some (.tup zs) ∧ zs = (keyOf c d).map D.int := by
  unfold keyOf at h ⊢
  split at h
  · rename_i ys
    split at h
    · rename_i zs e
      refine ⟨ys, zs, rfl, e, ?_⟩
      cases q : intsD zs with
      | none => rw [q] at h; exact absurd rfl h
      | some is => exact intsD_map q
    · exact absurd rfl h
  · exact absurd rfl h
theorem reads_ints {K : PySem.W.Frag} {al : List Addr} {H : Hp} {h : Heap} : ∀ {is : List Int} {vs : List V} {us : List Value}, RVs K al H (is.map D.int) vs → Vals vs us → ReadsAll h us (is.map .int) []
  | [], _, _, r, v => by cases r; cases v; exact .nil
  | i :: is, _, _, r, v => by
    cases r with
    | cons r1 r2 =>
      cases r1
      cases v with
      | cons v1 v2 =>
        obtain ⟨t, rfl⟩ := v1
        exact ReadsAll.cons (as := []) (.int i t) (reads_ints r2 v2)
theorem dataLe_tups {β : Type} (x : β → List Int) : PySem.W.dataLe false (fun b => .tuple ((x b).map .int)) = fun p q => decide (x p ≤ x q) := by
  funext p q
  show (!PySem.W.dataLt (.tuple ((x q).map .int)) (.tuple ((x p).map .int))) = _
  rw [PySem.W.dataLt_tuple]
  show (!PySem.W.rowLt ((x q).map .int) ((x p).map .int)) = _
  rw [PySem.W.dataLt_ints]
  by_cases h : x q < x p
  · have h' : ¬ x p ≤ x q := fun r => List.not_lt.mpr r h
    simp [h, h']
  · have h' : x p ≤ x q := List.not_lt.mp h
    simp [h, h']
section
variable {X : Cx}
def rSortK (w : World) (K : PySem.W.Frag) (f : Addr) (c : Int) : List V → List V → Hp → VK → Prop := fun xs zs H Q => zs = [.ref f] ∧ ∃ x, xs = [x] ∧ rM1 w K (fSortK c) x H Q
theorem each_rv {K : PySem.W.Frag} {al : List Addr} {H : Hp} {R : Value → D → Prop} (hR : ∀ v d, R v d → ∃ x, RelV x v ∧ RV K al H d x) : ∀ {us : List Value} {ds : List D}, PySem.W.EachIs R us ds → ∃ vs, Vals vs us ∧ RVs K al H ds vs
  | _, _, .nil => ⟨[], .nil, .nil⟩
  | _, _, .cons r t => by
    obtain ⟨vs, h1, h2⟩ := each_rv hR t
    obtain ⟨x, h3, h4⟩ := hR _ _ r
    exact ⟨x :: vs, .cons h3 h1, .cons h4 h2⟩
theorem rv_each {K : PySem.W.Frag} {al : List Addr} {H : Hp} {R : Value → D → Prop} : ∀ {us : List Value} {ds : List D} {vs : List V}, (∀ v d x, d ∈ ds → RelV x v → RV K al H d x → R v d) → Vals vs us → RVs K al H ds vs → PySem.W.EachIs R us ds
  | _, _, _, hR, v, r => by
    cases r with
    | nil => cases v; exact .nil
    | cons r1 r2 =>
      cases v with
      | cons v1 v2 => exact .cons (hR _ _ _ (List.mem_cons_self ..) v1 r1) (rv_each (fun v d x hd => hR v d x (List.mem_cons_of_mem _ hd)) v2 r2)
theorem cr_sortK {f : Addr} {c : Int} (T : KT X.prog X.w X.K f c) (hr : Room 0 X.A) : CallRK X (.builtin "sorted") [Str.ofString "key"] (rSortK X.w X.K f c) := by
  intro pins s σ H xs zs us ws Q I r rz h
  obtain ⟨rfl, x, rfl, al, μ, d, rp, rd, g⟩ := h
  obtain ⟨u, ru, rfl⟩ : ∃ u, RelV x u ∧ us = [u] := by
    cases r with
    | cons r1 r2 => cases r2; exact ⟨_, r1, rfl⟩
  obtain rfl : ws = [Value.ref f] := by
    cases rz with
    | cons r1 r2 => cases r2; cases r1; rfl
  unfold fSortK at g
  split at g
  case h_2 => exact g.elim
  rename_i i
  split at g
  case h_2 => exact g.elim
  rename_i ds hds
  split at g
  case isFalse => exact g.elim
  rename_i hall
  cases rd with
  | @ref j a ha =>
  obtain ⟨vs, h1, h2⟩ := rp.of ha hds
  obtain rfl : u = Value.ref a := ru
  obtain ⟨its, rv, pl, hz⟩ := I.list (SqL.of h1)
  have hlen : ds.length ≤ sizeLine := by rw [h2.length]; exact hz
  have hk : ∀ d ∈ ds, keyOf c d ≠ [] := fun d hd e => by
    have := List.all_eq_true.mp hall d hd
    rw [e] at this; cases this
  refine PySem.W.sorted_key_data (b := false) (vs := its) (bs := ds) (R := fun v d => ∃ x, RelV x v ∧ RV X.K al H d x) (fun d => .tuple ((keyOf c d).map .int)) pl.isList (rv_each (fun v d x _ h3 h4 => ⟨x, h3, h4⟩) rv h2)
    (PySem.W.AllAlike.of fun b b' => by rw [PySem.W.alike]; exact PySem.W.alike_ints _ _) (.inl fun d hd => ?_) hlen (fun d hd => ?_) (ksk_s1 _ _) (fun _ => ksk_l1 _ _) (fun _ => ksk_t1 _ _) (fun v d hR hd h tk kp => ?_) fun out e h' tk kp _ hD hl eo => ?_
  · obtain ⟨b, hb, rfl⟩ := List.mem_map.mp hd
    cases q : keyOf c b with
    | nil => exact absurd q (hk b hb)
    | cons z zs => exact ⟨.int z, zs.map .int, rfl⟩
  · have : (PyData.tuple ((keyOf c d).map .int)).depth ≤ 1 := by
      rw [PyData.depth, PySem.W.depth_ints]; omega
    have := hr.un
    omega
  · obtain ⟨x, rx, rd⟩ := hR
    obtain ⟨ys, zs, rfl, e1, e2⟩ := keyOf_tup (hk d hd)
    have I2 : Inv X pins σ H { s with heap := h, toks := tk } := I.kept kp
    cases rd with
    | @tup t _ vs2 q1 q2 =>
    obtain rfl : v = Value.ref t := rx
    obtain ⟨it2, rv2, p2, z2⟩ := I2.tuple q1
    obtain ⟨w, ew, rw'⟩ := atI_rv q2 e1
    obtain ⟨j, h5, h6, h7, _, _⟩ := atI_get ew
    obtain ⟨u2, eu, ru2⟩ := rv2.get h6
    have hl2 := rv2.length
    cases rw' with
    | @tup t3 _ vs3 q3 q4 =>
    obtain rfl : u2 = Value.ref t3 := ru2
    obtain ⟨it3, rv3, p3, z3⟩ := I2.tuple q3
    obtain ⟨o3, g1, g2, n3, g3⟩ := p3
    rw [e2] at q4
    exact T _ _ t it2 j _ _ hr.depth I2.kIn I2.nolimit p2 (by rw [← hl2]; exact z2) (by rw [← hl2]; exact h5) eu (.tuple g1 g2 g3 (reads_ints q4 rv3))
  · rw [dataLe_tups] at eo
    obtain ⟨vs2, k1, k2⟩ := each_rv (K := X.K) (al := al) (H := H) (fun v d h => h) eo
    have k3 := k1.length
    have hn0 : H (s.heap.objs.size + 1) = none := I.hok.fresh (Nat.le_succ _)
    exact ⟨.ref (s.heap.objs.size + 1), _, I.laid (o := .lst vs2) kp (Nat.le_succ _) ⟨by rw [k3, hl]; exact hlen, out, e, k1, hD⟩, rfl, gV.newL g rp k2 hn0⟩
theorem pem_sortK {f : Addr} {c : Int} {x : Str} {p p2 p3 pos : Pos} {e : Expr} {m : Mx} (T : KT X.prog X.w X.K f c) (hr : Room 0 X.A) (hg : Gl X "sorted") (hm : X.mg "sorted" = none) (hx : Gl X x) (hf : X.mg x = some (.ref f)) (hxd : (x == ("__debug__" : Str)) = false)
    (he : PEm X e m) (hs : notStar e = true) : PEm X (.Call (.Name (Str.ofString "sorted") p) [e] [⟨some (Str.ofString "key"), .Name x p2, p3⟩] pos) (e1 (fSortK c) m) := fun W tk =>
  PE.imp (pe_callBK (cr_sortK T hr) hg hm rfl (pa_cons (he W tk) pa_nil (starEach_cons hs)) (pk_cons (pe_glob (v := .ref f) hx hf rfl hxd) pk_nil) (by decide) (by decide) (by rw [starEach_cons hs]; rfl) (by rw [starEach_cons hs]; rfl)) fun σ H Q h => by
    obtain ⟨al, τ, μ, sr, rp, g⟩ := h
    refine ⟨al, τ, μ, sr, rp, gEnd.bind (k := fSortK c) g fun d μ1 al1 H1 v e rp1 r g1 => ?_⟩
    exact ⟨rfl, v, rfl, al1, μ1, d, rp1, r, g1.mild (mild1_sortK d μ1)⟩
end
end MM
namespace MM
open PySem PySem.Spec PyProof.Rows L2

/-! ### what a def's text is read against -/
def slotOf : List Str → Str → Option Nat
  | [], _ => none
  | y :: ys, x => if y = x then some 0 else (slotOf ys x).map (· + 1)
theorem slotOf_ok : ∀ {N : List Str} {x : Str} {i : Nat}, slotOf N x = some i → N[i]? = some x
  | y :: ys, x, i, h => by
    unfold slotOf at h
    split at h
    · rename_i e
      cases h; simp [e]
    · cases q : slotOf ys x with
      | none => rw [q] at h; cases h
      | some j => rw [q] at h; cases h; simpa using slotOf_ok q
open He (Fa) in
section
def isGlo (gs : List Fa) (x : Str) : Bool := gs.any fun f => match f with | .glo y => decide (y = x) | _ => false
def isFree (gs : List Fa) (x : Str) : Bool := gs.any fun f => match f with | .free y => decide (y = x) | _ => false
def isKeep (gs : List Fa) (x : Str) : Bool := gs.any fun f => match f with | .keep y => decide (y = x) | _ => false
def isMkr (gs : List Fa) (x : Str) : Bool := gs.any fun f => match f with | .mkr y => decide (y = x) | _ => false
def isCls (gs : List Fa) (x : Str) : Bool := gs.any fun f => match f with | .cls y => decide (y = x) | _ => false
def isMeth (gs : List Fa) (x m : Str) : Bool := gs.any fun f => match f with | .meth y n => decide (n = m) && decide (y = x) | _ => false
def isNoat (gs : List Fa) (x m : Str) : Bool := gs.any fun f => match f with | .noat y n => decide (n = m) && decide (y = x) | _ => false
def intOf (gs : List Fa) (x : Str) : Option Int := gs.findSome? fun f => match f with | .int y i => if y = x then some i else none | _ => none
def strOf (gs : List Fa) (x : Str) : Option Str := gs.findSome? fun f => match f with | .str y i => if y = x then some i else none | _ => none
theorem isGlo_ok {gs : List Fa} {x : Str} (h : isGlo gs x = true) : Fa.glo x ∈ gs := by
  obtain ⟨f, h1, h2⟩ := List.any_eq_true.mp h
  cases f <;> first | (cases h2; done) | (cases of_decide_eq_true h2; exact h1)
theorem isFree_ok {gs : List Fa} {x : Str} (h : isFree gs x = true) : Fa.free x ∈ gs := by
  obtain ⟨f, h1, h2⟩ := List.any_eq_true.mp h
  cases f <;> first | (cases h2; done) | (cases of_decide_eq_true h2; exact h1)
theorem isKeep_ok {gs : List Fa} {x : Str} (h : isKeep gs x = true) : Fa.keep x ∈ gs := by
  obtain ⟨f, h1, h2⟩ := List.any_eq_true.mp h
  cases f <;> first | (cases h2; done) | (cases of_decide_eq_true h2; exact h1)
theorem isMkr_ok {gs : List Fa} {x : Str} (h : isMkr gs x = true) : Fa.mkr x ∈ gs := by
  obtain ⟨f, h1, h2⟩ := List.any_eq_true.mp h
  cases f <;> first | (cases h2; done) | (cases of_decide_eq_true h2; exact h1)
theorem isCls_ok {gs : List Fa} {x : Str} (h : isCls gs x = true) : Fa.cls x ∈ gs := by
  obtain ⟨f, h1, h2⟩ := List.any_eq_true.mp h
  cases f <;> first | (cases h2; done) | (cases of_decide_eq_true h2; exact h1)
theorem isMeth_ok {gs : List Fa} {x m : Str} (h : isMeth gs x m = true) : Fa.meth x m ∈ gs := by
  obtain ⟨f, h1, h2⟩ := List.any_eq_true.mp h
  cases f <;> first | (cases h2; done) | (obtain ⟨a, b⟩ := Bool.and_eq_true_iff.mp h2; cases of_decide_eq_true a; cases of_decide_eq_true b; exact h1)
theorem isNoat_ok {gs : List Fa} {x m : Str} (h : isNoat gs x m = true) : Fa.noat x m ∈ gs := by
  obtain ⟨f, h1, h2⟩ := List.any_eq_true.mp h
  cases f <;> first | (cases h2; done) | (obtain ⟨a, b⟩ := Bool.and_eq_true_iff.mp h2; cases of_decide_eq_true a; cases of_decide_eq_true b; exact h1)
theorem intOf_ok {gs : List Fa} {x : Str} {i : Int} (h : intOf gs x = some i) : Fa.int x i ∈ gs := by
  obtain ⟨f, h1, h2⟩ := List.exists_of_findSome?_eq_some h
  cases f with
  | int y j =>
    have h2 : (if y = x then some j else none) = some i := h2
    by_cases e : y = x
    · rw [if_pos e] at h2; cases h2; cases e; exact h1
    · rw [if_neg e] at h2; cases h2
  | _ => cases h2
theorem strOf_ok {gs : List Fa} {x : Str} {i : Str} (h : strOf gs x = some i) : Fa.str x i ∈ gs := by
  obtain ⟨f, h1, h2⟩ := List.exists_of_findSome?_eq_some h
  cases f with
  | str y j =>
    have h2 : (if y = x then some j else none) = some i := h2
    by_cases e : y = x
    · rw [if_pos e] at h2; cases h2; cases e; exact h1
    · rw [if_neg e] at h2; cases h2
  | _ => cases h2
end
abbrev Ky := Str × Option Str
/-- names, facts, the callees' mirrors, the makers' -/
structure Gv where
  N : List Str
  gs : List He.Fa
  φ : Ky → Fn
  ψ : Str → Fn
  kf : Str → Option Int
structure Good (G : Gv) (X : Cx) (sc : Scope) : Prop where
  N : X.N = G.N
  nd : G.N.Nodup
  sc : X.env.scope = sc
  calm : X.calm = true
  facts : ∀ f ∈ G.gs, f.ok X.K = true
  glo : ∀ x, He.Fa.glo x ∈ G.gs → X.mg x = some (.ref (He.ga X.K x))
  free : ∀ x, He.Fa.free x ∈ G.gs → X.mg x = none
  int : ∀ x i, He.Fa.int x i ∈ G.gs → ∃ t, X.mg x = some (.int i t)
  str : ∀ x i, He.Fa.str x i ∈ G.gs → ∃ t, X.mg x = some (.str i t)
  call : ∀ a, ∃ k, Room k X.A ∧ FU X.prog X.w X.K X.mg X.base k (He.fAd X.K a) (G.φ a)
  make : ∀ C, ∃ k fi, Room (k + 1) X.A ∧ FU X.prog X.w X.K X.mg X.base k (He.ma X.K (He.ga X.K C) "__init__") fi ∧ G.ψ C = fMake C fi
  room : Room 0 X.A
  key : ∀ x c, G.kf x = some c → KT X.prog X.w X.K (He.ga X.K x) c ∧ X.mg x = some (.ref (He.ga X.K x))
def visB (sc : Scope) (x : Str) : Bool := match sc.names.lookup x with
  | some .local => true
  | some .cell => true
  | some .free => true
  | _ => false
theorem visB_ok {sc : Scope} {x : Str} (h : visB sc x = true) : Vis sc x := by
  unfold visB at h
  split at h
  · rename_i e; exact .inl e
  · rename_i e; exact .inr (.inl e)
  · rename_i e; exact .inr (.inr e)
  · cases h
def gloB (sc : Scope) (x : Str) : Bool := match sc.names.lookup x with
  | some .globalImplicit => true
  | _ => false
theorem Good.gl {G : Gv} {X : Cx} {sc : Scope} (g : Good G X sc) {x : Str} (h : gloB sc x = true) : Gl X x := by
  unfold gloB at h
  split at h
  · rename_i e
    show X.env.scope.names.lookup x = _
    rw [g.sc]; exact e
  · cases h
theorem Good.vis {G : Gv} {X : Cx} {sc : Scope} (g : Good G X sc) {x : Str} (h : visB sc x = true) : Vis X.env.scope x := by rw [g.sc]; exact visB_ok h
theorem Good.un {G : Gv} {X : Cx} {sc : Scope} (g : Good G X sc) : X.A.units + 70 < cLine := by have := g.room.un; omega
def okName (x : Str) : Bool := decide (x ≠ ("__debug__" : Str)) && (decide (x ≠ ("__classdict__" : Str)) && decide (x ≠ ("__name__" : Str)))
theorem okName_ok {x : Str} (h : okName x = true) : (x == ("__debug__" : Str)) = false ∧ (x == ("__classdict__" : Str)) = false ∧ x ≠ "__name__" := by
  unfold okName at h
  simp only [Bool.and_eq_true, decide_eq_true_eq] at h
  exact ⟨beq_eq_false_iff_ne.mpr h.1, beq_eq_false_iff_ne.mpr h.2.1, h.2.2⟩

/-! ### one step of the reading -/
structure Den where
  E : Scope → Expr → Mx
  T : Scope → Expr → Mt
  A : Scope → List Expr → Ma
  I : Scope → Expr → Expr → Mi
  S : Scope → Stmt → Ms
  B : Scope → List Stmt → Ms
def tBad : Mt := fun _ _ => .bad
def aBad : Ma := fun _ _ => .bad
def iBad : Mi := fun _ _ => .bad
theorem ptm_bad {X : Cx} {e : Expr} : PTm X e tBad := fun W tk => ⟨fun _ _ _ _ _ _ ⟨_, _, _, _, _, g⟩ => g.elim⟩
theorem pam_bad {X : Cx} {e : List Expr} : PAm X e aBad := fun W tk => ⟨fun _ _ _ _ _ _ _ ⟨_, _, _, _, _, g⟩ => g.elim⟩
theorem pim_bad {X : Cx} {tg e : Expr} : PIm X tg e iBad := fun W tk => ⟨fun _ _ _ _ _ _ ⟨_, _, _, _, _, g⟩ => g.elim⟩
def den0 : Den := ⟨fun _ _ => eBad, fun _ _ => tBad, fun _ _ => aBad, fun _ _ _ => iBad, fun _ _ => sBad, fun _ _ => sBad⟩
structure DenOk (G : Gv) (d : Den) : Prop where
  E : ∀ X sc e, Good G X sc → PEm X e (d.E sc e)
  T : ∀ X sc e, Good G X sc → PTm X e (d.T sc e)
  A : ∀ X sc e, Good G X sc → PAm X e (d.A sc e)
  I : ∀ X sc tg e, Good G X sc → PIm X tg e (d.I sc tg e)
  S : ∀ X sc st, Good G X sc → PassesOwn (model X.prog X.w) X.A X.env X.xe → (∀ x, X.fn x = true) → PSm X st (d.S sc st)
  B : ∀ X sc st, Good G X sc → PassesOwn (model X.prog X.w) X.A X.env X.xe → (∀ x, X.fn x = true) → PSsm X st (d.B sc st)
theorem den0_ok {G : Gv} : DenOk G den0 := ⟨fun _ _ _ _ => pem_bad, fun _ _ _ _ => ptm_bad, fun _ _ _ _ => pam_bad, fun _ _ _ _ _ => pim_bad, fun _ _ _ _ _ _ => psm_bad, fun _ _ _ _ _ _ => pssm_bad⟩

/-! operators -/
def binF : Operator → Option (D → D → MH → Out D)
  | .Add => some opAdd
  | .Sub => some opSub
  | .Mult => some opMul
  | .FloorDiv => some opDiv
  | .Mod => some opMod
  | .Pow => some opPow
  | _ => none
theorem binF_ok {X : Cx} {op : Operator} {f : D → D → MH → Out D} (h : binF op = some f) : Mild2 f ∧ OpR X (binaryOp op) (rM2 X.w X.K f) := by
  cases op <;> first
    | (cases h; done)
    | (cases h; first | exact ⟨mild2_add, opr_add⟩ | exact ⟨mild2_sub, opr_sub⟩ | exact ⟨mild2_mul, opr_mul⟩ | exact ⟨mild2_div, opr_div⟩ | exact ⟨mild2_mod, opr_mod⟩ | exact ⟨mild2_pow, opr_pow⟩)
def cmpF : CmpOp → Option (D → D → MH → Out D)
  | .Eq => some opEq
  | .NotEq => some opNe
  | .Lt => some opLt
  | .LtE => some opLe
  | .Gt => some opGt
  | .GtE => some opGe
  | .Is => some opIs
  | .IsNot => some opIsNot
  | .In => some opIn
  | .NotIn => some opNotIn
theorem cmpF_ok {X : Cx} (hu : X.A.units + 70 < cLine) {op : CmpOp} {f : D → D → MH → Out D} (h : cmpF op = some f) : Mild2 f ∧ OpR X (compareOp op) (rM2 X.w X.K f) := by
  have hu' : X.A.units + 64 < cLine := by omega
  cases op <;> (cases h; first | exact ⟨mild2_eq, opr_eq hu'⟩ | exact ⟨mild2_ne, opr_ne hu'⟩ | exact ⟨mild2_lt, opr_lt⟩ | exact ⟨mild2_le, opr_le⟩ | exact ⟨mild2_gt, opr_gt⟩ | exact ⟨mild2_ge, opr_ge⟩ | exact ⟨mild2_is, opr_is⟩ | exact ⟨mild2_isnot, opr_isnot⟩ | exact ⟨mild2_in, opr_in hu⟩ | exact ⟨mild2_notIn, opr_notIn hu⟩)
def isSet : Expr → Bool
  | .Set .. => true
  | _ => false
theorem behind_no {op : CmpOp} {b : Expr} (h : isSet b = false) : behindInMarks op b = false := by
  cases b <;> first | rfl | cases h

/-! names, constants -/
def dName (G : Gv) (sc : Scope) (x : Str) : Mx := if okName x = true then match slotOf G.N x with
  | some i => if visB sc x = true then eVar i else eBad
  | none => if gloB sc x = true then match intOf G.gs x with
    | some i => eCon (.int i)
    | none => match strOf G.gs x with
      | some z => eCon (.str z)
      | none => eBad
    else eBad
  else eBad
def dCon : Const → Mx
  | .int i => eCon (.int i)
  | .bool b => eCon (.bl b)
  | .none => eCon .non
  | .str x => eCon (.str x)
  | _ => eBad
section
variable {G : Gv} {X : Cx} {sc : Scope} {d : Den}
theorem dName_ok (g : Good G X sc) {x : Str} {pos : Pos} : PEm X (.Name x pos) (dName G sc x) := by
  unfold dName
  split
  · rename_i hx
    obtain ⟨h1, h2, h3⟩ := okName_ok hx
    split
    · rename_i i hi
      split
      · rename_i hv
        exact pem_var (by rw [g.N]; exact slotOf_ok hi) (g.vis hv) h1 h2
      · exact pem_bad
    · split
      · rename_i hg
        split
        · rename_i i hi
          obtain ⟨t, ht⟩ := g.int x i (intOf_ok hi)
          exact pem_con (v := .int i) (pe_glob (v := .int i) (g.gl hg) ht ⟨t, rfl⟩ h1) fun _ _ => .int i
        · split
          · rename_i z hz
            obtain ⟨t, ht⟩ := g.str x z (strOf_ok hz)
            exact pem_con (v := .str z) (pe_glob (v := .str z) (g.gl hg) ht ⟨t, rfl⟩ h1) fun _ _ => .str z
          · exact pem_bad
      · exact pem_bad
  · exact pem_bad
theorem dCon_ok {c : Const} {j} {pos : Pos} : PEm X (.Constant c j pos) (dCon c) := by
  cases c <;> first | exact pem_int | exact pem_bl | exact pem_non | exact pem_str | exact pem_bad
end
end MM
namespace MM
open PySem PySem.Spec PyProof.Rows L2

/-! ### and, or -/
def dBoolE (E : Expr → Mx) (op : BoolOp) : List Expr → Mx
  | [] => eBad
  | [a] => E a
  | a :: b :: r => (match op with
    | .And => eAnd
    | .Or => eOr) (E a) (dBoolE E op (b :: r))
def dBoolT (T : Expr → Mt) (op : BoolOp) : List Expr → Mt
  | [] => tBad
  | [a] => T a
  | a :: b :: r => (match op with
    | .And => tAndM
    | .Or => tOrM) (T a) (dBoolT T op (b :: r))
theorem dBoolE_ok {X : Cx} {E : Expr → Mx} (h : ∀ e, PEm X e (E e)) {op : BoolOp} {pos : Pos} : ∀ es, PEm X (.BoolOp op es pos) (dBoolE E op es)
  | [] => pem_bad
  | [a] => pem_one (h a)
  | a :: b :: r => by
    cases op with
    | And => exact pem_and (h a) (dBoolE_ok h (b :: r))
    | Or => exact pem_or (h a) (dBoolE_ok h (b :: r))
theorem dBoolT_ok {X : Cx} {T : Expr → Mt} (h : ∀ e, PTm X e (T e)) {op : BoolOp} {pos : Pos} : ∀ es, es ≠ [] → PWm X (.BoolOp op es pos) (dBoolT T op es)
  | [], z => absurd rfl z
  | [a], _ => by
    cases op with
    | And => exact pwm_and1 (h a)
    | Or => exact pwm_or1 (h a)
  | a :: b :: r, _ => by
    cases op with
    | And => exact pwm_and (h a) (dBoolT_ok h (b :: r) (by simp))
    | Or => exact pwm_or (h a) (dBoolT_ok h (b :: r) (by simp))

/-! ### comparisons -/
def dCmp (E : Expr → Mx) (a : Expr) : List CmpOp → List Expr → Mx
  | [op], [b] => match cmpF op with
    | some f => if isSet b = false then e2 f (E a) (E b) else eBad
    | none => eBad
  | [op, op'], [b, c] => match cmpF op, cmpF op' with
    | some f, some g => if isSet c = false then eChain f g (E a) (E b) (E c) else eBad
    | _, _ => eBad
  | _, _ => eBad
section
variable {G : Gv} {X : Cx} {sc : Scope}
theorem dCmp_ok (g : Good G X sc) {E : Expr → Mx} (h : ∀ e, PEm X e (E e)) {a : Expr} {ops : List CmpOp} {es : List Expr} {pos : Pos} : PEm X (.Compare a ops es pos) (dCmp E a ops es) ∧ PTm X (.Compare a ops es pos) (tBl (dCmp E a ops es)) := by
  have bad : ∀ {e : Expr}, PEm X e eBad ∧ PTm X e (tBl eBad) := ⟨pem_bad, fun W tk => ⟨fun _ _ _ _ _ _ ⟨_, _, _, _, _, g⟩ => g.elim⟩⟩
  unfold dCmp
  split
  · split
    · rename_i f hf
      split
      · rename_i hs
        obtain ⟨h1, h2⟩ := cmpF_ok g.un hf
        exact ⟨pem_cmp h1 h2 (h _) (h _) (behind_no hs), ptm_cmp h1 h2 (h _) (h _) (behind_no hs)⟩
      · exact bad
    · exact bad
  · split
    · rename_i f f' hf hf'
      split
      · rename_i hs
        obtain ⟨h1, h2⟩ := cmpF_ok g.un hf
        obtain ⟨h3, h4⟩ := cmpF_ok g.un hf'
        exact ⟨pem_chain h1 h3 h2 h4 (h _) (h _) (h _) (behind_no hs), ptm_chain h1 h3 h2 h4 (h _) (h _) (h _) (behind_no hs)⟩
      · exact bad
    · exact bad
  · exact bad

/-! ### subscripts -/
def plainIx : Expr → Bool
  | .Slice .. => false
  | _ => true
theorem plainIx_ok {b : Expr} (h : plainIx b = true) : PlainIx b := fun o i => by
  cases b <;> first | rfl | exact absurd h Bool.false_ne_true
def dOpt (E : Expr → Mx) : Option Expr → Mp
  | none => pNone
  | some e => pSome (E e)
theorem dOpt_ok {E : Expr → Mx} (h : ∀ e, PEm X e (E e)) : ∀ o, POm X o (dOpt E o)
  | none => pom_none
  | some e => pom_some (h e)
def dSub (E : Expr → Mx) (a b : Expr) : Mx := match b with
  | .Slice lo hi none _ => eSl (E a) (dOpt E lo) (dOpt E hi)
  | _ => if plainIx b = true then e2 opIx (E a) (E b) else eBad
theorem dSub_ok (g : Good G X sc) {E : Expr → Mx} (h : ∀ e, PEm X e (E e)) {a b : Expr} {pos : Pos} : PEm X (.Subscript a b pos) (dSub E a b) := by
  unfold dSub
  split
  · exact pem_sl (h _) (dOpt_ok h _) (dOpt_ok h _)
  · split
    · rename_i hs
      exact pem_ix (by have := g.un; omega) (h _) (h _) (plainIx_ok hs)
    · exact pem_bad

/-! ### attributes -/
def okAt (gs : List He.Fa) (f C : Str) : Bool := isCls gs C && isNoat gs C f
theorem okAt_ok (g : Good G X sc) {f : Str} (C : Str) (h : okAt G.gs f C = true) : Cls X.K (He.ga X.K C) ∧ NoAttr X.K (He.ga X.K C) f := by
  obtain ⟨h1, h2⟩ := Bool.and_eq_true_iff.mp h
  exact ⟨He.cls_ok (g.facts _ (isCls_ok h1)), He.noat_ok (g.facts _ (isNoat_ok h2))⟩

/-! ### calls -/
inductive BI where
  | len | max | min | list | tuple | int | str | dict
def biOf (x : Str) : Option BI := if x = "len" then some .len else if x = "max" then some .max else if x = "min" then some .min else if x = "list" then some .list else if x = "tuple" then some .tuple else if x = "int" then some .int
  else if x = "str" then some .str else if x = "dict" then some .dict else none
def BI.fn : BI → Fn
  | .len => fLen
  | .max => fMax
  | .min => fMin
  | .list => fList
  | .tuple => fTuple
  | .int => fInt
  | .str => fStr
  | .dict => fDict
theorem bi_ok (g : Good G X sc) {x : Str} {b : BI} {p pos : Pos} {e : Expr} {es : List Expr} {ma : Ma} (hb : biOf x = some b) (hg : Gl X x) (hm : X.mg x = none) (ha : PAm X (e :: es) ma) (hs : (e :: es).all notStar = true) (hn : x ≠ "__name__") (hdb : (x == ("__debug__" : Str)) = false) :
    PEm X (.Call (.Name x p) (e :: es) [] pos) (eN b.fn ma) := by
  unfold biOf at hb
  split at hb
  · rename_i q; subst q; cases hb; exact pem_callB mildN_len cm_len hg hm boot_len ha hs hn hdb
  split at hb
  · rename_i q; subst q; cases hb; exact pem_callB mildN_max (cm_max g.calm) hg hm boot_max ha hs hn hdb
  split at hb
  · rename_i q; subst q; cases hb; exact pem_callB mildN_min (cm_min g.calm) hg hm boot_min ha hs hn hdb
  split at hb
  · rename_i q; subst q; cases hb; exact pem_callTy mildN_list cm_list hg hm PyProof.Rows.boot_list ha hs hn hdb
  split at hb
  · rename_i q; subst q; cases hb; exact pem_callTy mildN_tuple cm_tuple hg hm PyProof.Rows.boot_tuple ha hs hn hdb
  split at hb
  · rename_i q; subst q; cases hb; exact pem_callTy mildN_int cm_int hg hm PyProof.Rows.boot_int ha hs hn hdb
  split at hb
  · rename_i q; subst q; cases hb; exact pem_callTy mildN_str cm_str hg hm PyProof.Rows.boot_str ha hs hn hdb
  split at hb
  · rename_i q; subst q; cases hb; exact pem_callTy mildN_dict cm_dict hg hm PyProof.Rows.boot_dict ha hs hn hdb
  · cases hb
def tyOf (x : Str) : Option Ty := if x = "bool" then some .bool else if x = "int" then some .int else if x = "str" then some .str else if x = "list" then some .list else if x = "tuple" then some .tuple else if x = "dict" then some .dict else none
theorem tyOf_ok {x : Str} {T : Ty} (h : tyOf x = some T) : T ≠ .none ∧ bootBuiltins x = some (.type T.name) ∧ x ≠ "__name__" ∧ (x == ("__debug__" : Str)) = false := by
  unfold tyOf at h
  split at h
  · rename_i q; subst q; cases h; exact ⟨(nomatch ·), by decide +kernel, by decide, by decide⟩
  split at h
  · rename_i q; subst q; cases h; exact ⟨(nomatch ·), by decide +kernel, by decide, by decide⟩
  split at h
  · rename_i q; subst q; cases h; exact ⟨(nomatch ·), by decide +kernel, by decide, by decide⟩
  split at h
  · rename_i q; subst q; cases h; exact ⟨(nomatch ·), by decide +kernel, by decide, by decide⟩
  split at h
  · rename_i q; subst q; cases h; exact ⟨(nomatch ·), by decide +kernel, by decide, by decide⟩
  split at h
  · rename_i q; subst q; cases h; exact ⟨(nomatch ·), by decide +kernel, by decide, by decide⟩
  · cases h
def freeB (G : Gv) (sc : Scope) (x : Str) : Bool := gloB sc x && isFree G.gs x
theorem freeB_ok (g : Good G X sc) {x : Str} (h : freeB G sc x = true) : Gl X x ∧ X.mg x = none := by
  obtain ⟨h1, h2⟩ := Bool.and_eq_true_iff.mp h
  exact ⟨g.gl h1, g.free x (isFree_ok h2)⟩
/-- isinstance(e, T) -/
def dIsi (G : Gv) (E : Scope → Expr → Mx) (sc : Scope) (x : Str) : List Expr → Mx
  | [e, .Name y _] => if x = "isinstance" ∧ freeB G sc x = true ∧ freeB G sc y = true ∧ notStar e = true then match tyOf y with
    | some T => e1 (opIsi T) (E sc e)
    | none => eBad
    else eBad
  | _ => eBad
theorem dIsi_ok (g : Good G X sc) {E : Scope → Expr → Mx} (h : ∀ e, PEm X e (E sc e)) {x : Str} {es : List Expr} {p pos : Pos} : PEm X (.Call (.Name x p) es [] pos) (dIsi G E sc x es) := by
  unfold dIsi
  split
  · split
    · rename_i hh
      obtain ⟨rfl, h1, h2, h3⟩ := hh
      split
      · rename_i T hT
        obtain ⟨t1, t2, t3, t4⟩ := tyOf_ok hT
        obtain ⟨a1, a2⟩ := freeB_ok g h1
        obtain ⟨b1, b2⟩ := freeB_ok g h2
        exact pem_isi t1 a1 a2 PyProof.Rows.boot_isinstance b1 b2 t2 (h _) h3 (by decide) (by decide) t3 t4
      · exact pem_bad
    · exact pem_bad
  · exact pem_bad
/-- list(range(..)) -/
def isRange : Expr → Option (List Expr)
  | .Call (.Name x _) es [] _ => if x = "range" then some es else none
  | _ => none
def dLr (G : Gv) (E : Scope → Expr → Mx) (sc : Scope) (x : Str) : List Expr → Mx
  | [.Call (.Name y _) [e] [] _] => if x = "list" ∧ y = "range" ∧ freeB G sc x = true ∧ freeB G sc y = true ∧ notStar e = true then e1 opRg1 (E sc e) else eBad
  | [.Call (.Name y _) [e, f] [] _] => if x = "list" ∧ y = "range" ∧ freeB G sc x = true ∧ freeB G sc y = true ∧ notStar e = true ∧ notStar f = true then e2 opRg2 (E sc e) (E sc f) else eBad
  | _ => eBad
theorem dLr_ok (g : Good G X sc) {E : Scope → Expr → Mx} (h : ∀ e, PEm X e (E sc e)) {x : Str} {es : List Expr} {p pos : Pos} : PEm X (.Call (.Name x p) es [] pos) (dLr G E sc x es) := by
  unfold dLr
  split
  · split
    · rename_i hh
      obtain ⟨rfl, rfl, h1, h2, h3⟩ := hh
      obtain ⟨a1, a2⟩ := freeB_ok g h1
      obtain ⟨b1, b2⟩ := freeB_ok g h2
      exact pem_listRg1 g.calm a1 a2 b1 b2 (h _) h3
    · exact pem_bad
  · split
    · rename_i hh
      obtain ⟨rfl, rfl, h1, h2, h3, h4⟩ := hh
      obtain ⟨a1, a2⟩ := freeB_ok g h1
      obtain ⟨b1, b2⟩ := freeB_ok g h2
      exact pem_listRg2 g.calm a1 a2 b1 b2 (h _) (h _) h3 h4
    · exact pem_bad
  · exact pem_bad
def isListRange (x : Str) : List Expr → Bool
  | [.Call (.Name y _) _ [] _] => decide (x = "list") && decide (y = "range")
  | _ => false
/-- f(..) -/
def dCall (G : Gv) (E : Scope → Expr → Mx) (A : Scope → List Expr → Ma) (sc : Scope) (x : Str) (es : List Expr) : Mx :=
  if okName x = true ∧ gloB sc x = true ∧ es.all notStar = true then
    if isGlo G.gs x = true then
      if isMkr G.gs x = true then match es with
        | [] => eN (G.ψ x) aNil
        | _ => eN (G.ψ x) (A sc es)
      else if isKeep G.gs x = true then match es with
        | [] => eN (G.φ (x, none)) aNil
        | _ => eN (G.φ (x, none)) (A sc es)
      else eBad
    else if isFree G.gs x = true then
      if x = "isinstance" then dIsi G E sc x es
      else if isListRange x es = true then dLr G E sc x es
      else match es, biOf x with
        | [], _ => eBad
        | _, some b => eN b.fn (A sc es)
        | _, none => eBad
    else eBad
  else eBad
theorem dCall_ok (g : Good G X sc) {E : Scope → Expr → Mx} {A : Scope → List Expr → Ma} (h : ∀ e, PEm X e (E sc e)) (hA : ∀ es, PAm X es (A sc es)) {x : Str} {es : List Expr} {p pos : Pos} : PEm X (.Call (.Name x p) es [] pos) (dCall G E A sc x es) := by
  unfold dCall
  split
  · rename_i hh
    obtain ⟨h1, h2, h3⟩ := hh
    obtain ⟨n1, n2, n3⟩ := okName_ok h1
    have hg := g.gl h2
    split
    · rename_i hglo
      have hm := g.glo x (isGlo_ok hglo)
      split
      · rename_i hmk
        have M := He.mkr_ok (g.facts _ (isMkr_ok hmk))
        split
        · obtain ⟨k, fi, hr, F, e⟩ := g.make x
          rw [e]; exact pem_make0 M F hr hg hm n1
        · rename_i hne
          cases es with
          | nil => exact absurd rfl hne
          | cons e1 es =>
            obtain ⟨k, fi, hr, F, e⟩ := g.make x
            rw [e]; exact pem_make M F hr hg hm n1 (hA _) h3
      · split
        · rename_i hkp
          have kp := He.keep_ok (g.facts _ (isKeep_ok hkp))
          obtain ⟨k, hr, F⟩ := g.call (x, none)
          split
          · exact pem_call0 F hr hg hm kp n1
          · rename_i hne
            cases es with
            | nil => exact absurd rfl hne
            | cons e1 es => exact pem_call F hr hg hm kp n1 (hA _) h3
        · exact pem_bad
    · split
      · rename_i hf
        have hm := g.free x (isFree_ok hf)
        split
        · exact dIsi_ok g h
        · split
          · exact dLr_ok g h
          · cases es with
            | nil => exact pem_bad
            | cons e1 es =>
              cases hb : biOf x with
              | none => exact pem_bad
              | some b => exact bi_ok g hb hg hm (hA _) h3 n3 n1
      · exact pem_bad
  · exact pem_bad
end
end MM
namespace MM
open PySem PySem.Spec PyProof.Rows L2

/-! ### methods -/
def onT (T : Ty) (f : D → Fn) : Ty → Option (D → Fn) := fun t => if t = T then some f else none
def bmOf (m : Str) : Option (Ty → Option (D → Fn)) := if m = "append" then some (onT .list mAppend) else if m = "extend" then some (onT .list mExtend) else if m = "pop" then some (onT .list mPop) else if m = "reverse" then some (onT .list mReverse)
  else if m = "clear" then some (onT .list mClear) else none
theorem onT_ok {X : Cx} {T T' : Ty} {f g : D → Fn} {m : Str} (h : onT T f T' = some g) (hk : T = .list ∨ T = .dict ∨ T = .str) (b : BM X T m f) : (T' = .list ∨ T' = .dict ∨ T' = .str) ∧ BM X T' m g := by
  unfold onT at h
  split at h
  · rename_i e; subst e; cases h; exact ⟨hk, b⟩
  · cases h
theorem bmOf_ok {X : Cx} {m : Str} {f : Ty → Option (D → Fn)} (h : bmOf m = some f) : ∀ T g, f T = some g → (T = .list ∨ T = .dict ∨ T = .str) ∧ BM X T m g := by
  intro T g hg
  unfold bmOf at h
  split at h
  · rename_i q; subst q; cases h; exact onT_ok hg (.inl rfl) bm_append
  split at h
  · rename_i q; subst q; cases h; exact onT_ok hg (.inl rfl) bm_extend
  split at h
  · rename_i q; subst q; cases h; exact onT_ok hg (.inl rfl) bm_pop
  split at h
  · rename_i q; subst q; cases h; exact onT_ok hg (.inl rfl) bm_reverse
  split at h
  · rename_i q; subst q; cases h; exact onT_ok hg (.inl rfl) bm_clear
  · cases h
def dArgs (A : List Expr → Ma) : List Expr → Ma
  | [] => aNil
  | es => A es
theorem dArgs_ok {X : Cx} {A : List Expr → Ma} (h : ∀ es, PAm X es (A es)) : ∀ es, PAm X es (dArgs A es)
  | [] => pam_nil
  | e :: es => h _
def dM (gs : List He.Fa) (φ : Ky → Fn) (m : Str) (C : Str) : Option Fn := if isMeth gs C m = true ∧ isCls gs C = true then some (φ (C, some m)) else none
def dMeth (G : Gv) (E : Expr → Mx) (A : List Expr → Ma) (o : Expr) (m : Str) (es : List Expr) (apos pos : Pos) : Mx :=
  if notCall0 o = true ∧ es.all notStar = true ∧ es.length < 30 ∧ (apos.endLine == pos.line) = true then match bmOf m with
    | some f => eMeth f (E o) (dArgs A es)
    | none => eMethO (dM G.gs G.φ m) m (E o) (dArgs A es)
  else eBad
section
variable {G : Gv} {X : Cx} {sc : Scope}
theorem MO.mono {k : Nat} {C m : Str} {g : Fn} : MO X k C m g → MO X k C m g := id
theorem pem_methO' {f : Str → Option Fn} {o : Expr} {m : Str} {es : List Expr} {apos pos : Pos} {mo : Mx} {ma : Ma} (hf : ∀ C g, f C = some g → ∃ k, Room k X.A ∧ MO X k C m g) (ho : PEm X o mo) (ha : PAm X es ma) (hs : es.all notStar = true) (hma : es = [] → ma = aNil)
    (h0 : notCall0 o = true) (hl : es.length < 30) (hline : (apos.endLine == pos.line) = true) : PEm X (.Call (.Attribute o m apos) es [] pos) (eMethO f m mo ma) := fun W tk => ⟨fun pins s σ H Q I h => by
  obtain ⟨al, τ, μ, sr, rp, g⟩ := h
  refine callO (te := tM X.w X.K W mo) (ho W tk) I h0 hs hl hline ⟨al, τ, μ, sr, rp, gEnd.bind (k := kMethO f m (ma τ)) g fun d μ1 al1 H1 v e rp1 r g1 => ?_⟩
  obtain ⟨a, C, dx, vs, gg, rfl, h1, hn, hC, g2⟩ := methO_obj rp1 r g1
  obtain ⟨k, hr, hmo⟩ := hf C gg hC
  obtain ⟨fa, c, hm, F⟩ := hmo.ex
  refine ⟨a, _, dx, vs, fa, rfl, h1, c, hm, hn, fun s1 I1 => ?_⟩
  cases es with
  | nil =>
    rw [hma rfl] at g2
    exact PySem.W.callWith_K0 (first := [.ref a]) I1.kIn hm.kp (run_FU (us := [.ref a]) (vs := [.ref a]) tk F hr I1 (.cons rfl .nil) rp1 (.cons r .nil) g2)
  | cons e2 es =>
    simp only [List.all_cons, Bool.and_eq_true] at hs
    refine PySem.W.callWith_K (first := [.ref a]) (h₀ := X.base) I1.ok.mod.kin hm.kp (thn (ma_run ha tk I1 (sr.mono e) rp1 g2 pos) fun us s2 ⟨vs2, H2, I2, r2, al2, μ2, ds, ex, rp2, rs2, g3⟩ => ⟨I2.kIn, ?_⟩) (starEach_cons hs.1) (star_plain _ _ _ hs.2)
    exact run_FU (us := .ref a :: us) (vs := .ref a :: vs2) tk F hr I2 (.cons rfl r2) rp2 (.cons (r.mono ex) rs2) g3⟩
theorem dMeth_ok (g : Good G X sc) {E : Expr → Mx} {A : List Expr → Ma} (h : ∀ e, PEm X e (E e)) (hA : ∀ es, PAm X es (A es)) {o : Expr} {m : Str} {es : List Expr} {apos pos : Pos} : PEm X (.Call (.Attribute o m apos) es [] pos) (dMeth G E A o m es apos pos) := by
  unfold dMeth
  split
  · rename_i hh
    obtain ⟨h0, hs, hl, hline⟩ := hh
    split
    · rename_i f hf
      exact pem_meth (bmOf_ok hf) (h o) (dArgs_ok hA es) hs h0 hl hline
    · refine pem_methO' (fun C gg hC => ?_) (h o) (dArgs_ok hA es) hs (fun e => by subst e; rfl) h0 hl hline
      unfold dM at hC
      split at hC
      · rename_i hh
        cases hC
        obtain ⟨k, hr, F⟩ := g.call (C, some m)
        exact ⟨k, hr, ⟨He.ma X.K (He.ga X.K C) m, He.cls_ok (g.facts _ (isCls_ok hh.2)), He.meth_ok (g.facts _ (isMeth_ok hh.1)), F⟩⟩
      · cases hC
  · exact pem_bad

/-! ### targets -/
def nmB (sc : Scope) (x : Str) : Bool := match sc.names.lookup x with
  | some .local => true
  | some .cell => true
  | _ => false
def nmsOf (N : List Str) (sc : Scope) : List Expr → Option (List Nat)
  | [] => some []
  | .Name x _ :: r => if nmB sc x = true then match slotOf N x, nmsOf N sc r with
    | some i, some is => some (i :: is)
    | _, _ => none
    else none
  | _ => none
def tgOf (N : List Str) (sc : Scope) : Expr → Option Tg
  | .Name x _ => if nmB sc x = true then (slotOf N x).map .nm else none
  | .Tuple es _ _ => (nmsOf N sc es).map .tp
  | _ => none
theorem nmB_ok {sc : Scope} {x : Str} (h : nmB sc x = true) : sc.names.lookup x = some .local ∨ sc.names.lookup x = some .cell := by
  unfold nmB at h
  split at h
  · rename_i e; exact .inl e
  · rename_i e; exact .inr e
  · cases h
theorem nmsOf_ok {N : List Str} {sc : Scope} (hn : ∀ x i, N[i]? = some x → nmB sc x = true → Nm X x i) : ∀ {es : List Expr} {is : List Nat}, nmsOf N sc es = some is → Nms X es is
  | [], is, h => by cases h; exact .nil
  | e :: r, is, h => by
    unfold nmsOf at h
    split at h
    · cases h; rename_i hh; cases hh
    · rename_i x p r' hh
      cases hh
      split at h
      · rename_i hx
        split at h
        · rename_i i js hi hjs
          cases h
          exact .cons (hn x i (slotOf_ok hi) hx) (nmsOf_ok hn hjs)
        · cases h
      · cases h
    · cases h
theorem tgOf_ok {N : List Str} {sc : Scope} (hn : ∀ x i, N[i]? = some x → nmB sc x = true → Nm X x i) {e : Expr} {t : Tg} (h : tgOf N sc e = some t) : TgOf X e t := by
  unfold tgOf at h
  split at h
  · split at h
    · rename_i x p hx
      obtain ⟨i, hi, rfl⟩ := Option.map_eq_some_iff.mp h
      exact .nm (hn x i (slotOf_ok hi) hx)
    · cases h
  · obtain ⟨is, his, rfl⟩ := Option.map_eq_some_iff.mp h
    exact .tp (nmsOf_ok hn his)
  · cases h
theorem Good.nm (g : Good G X sc) (hf : ∀ x, X.fn x = true) (x : Str) (i : Nat) (h : G.N[i]? = some x) (hx : nmB sc x = true) : Nm X x i :=
  ⟨by rw [g.N]; exact h, by show L2.Loc X.env.scope x; rw [g.sc]; exact nmB_ok hx, .inl (hf x)⟩

/-! ### comprehensions -/
def ownOf (N : List Str) (scope : Scope) : List (Str × Nat) := scope.names.filterMap fun p => match p.2 with
  | .local => (slotOf N p.1).map fun i => (p.1, i)
  | .cell => (slotOf N p.1).map fun i => (p.1, i)
  | _ => none
def dTests (T : Expr → Mt) : List Expr → Mt
  | [] => tYesM
  | [c] => T c
  | _ => tBad
noncomputable def dLc (G : Gv) (d : Den) (sc : Scope) (elt : Expr) (gs : List Comprehension) (scope : Scope) : Mx := match gs with
  | [⟨tg, iter, ifs, 0⟩] => if blkC G.N sc scope (ownOf G.N scope) = true then match tgOf G.N scope tg with
    | some t => if (t.slots.all fun i => decide (i ∈ (ownOf G.N scope).map (·.2))) = true ∧ noSet iter = true ∧ ifs.length ≤ 1 then
        eLc (d.I sc tg iter) t (dTests (d.T (relS scope sc)) ifs) (d.E (relS scope sc) elt) ((ownOf G.N scope).map (·.2))
      else eBad
    | none => eBad
    else eBad
  | _ => eBad
theorem Good.blk (g : Good G X sc) {s : Shared} {H : Hp} {C : Addr} {cl : List (Str × Addr)} {fp : List Addr} {scope : Scope} : Good G (X.blk s H scope (compEnvC scope cl C X.env) fp) (relS scope sc) where
  N := g.N
  nd := g.nd
  sc := by rw [← g.sc]; rfl
  calm := g.calm
  facts := g.facts
  glo := g.glo
  free := g.free
  int := g.int
  str := g.str
  call := g.call
  make := g.make
  room := g.room
  key := g.key
theorem dLc_ok (g : Good G X sc) {d : Den} (ok : DenOk G d) {elt : Expr} {gs : List Comprehension} {scope : Scope} {pos : Pos} : PEm X (.ListComp elt gs scope pos) (dLc G d sc elt gs scope) := by
  unfold dLc
  split
  · rename_i tg iter ifs
    split
    · rename_i hb
      split
      · rename_i t ht
        split
        · rename_i hh
          obtain ⟨h1, h2, h3⟩ := hh
          have hsl : ∀ i ∈ t.slots, i ∈ (ownOf G.N scope).map (·.2) := fun i hi => of_decide_eq_true (List.all_eq_true.mp h1 i hi)
          refine pem_lc g.calm (by rw [g.N]; exact g.nd) (ok.I X sc tg iter g) (by rw [g.N, g.sc]; exact blkOk_by hb) hsl (fun s H C cl fp => ?_) (fun s H C cl fp => ?_) (fun s H C cl fp => ok.E _ _ _ g.blk) h2
          · refine tgOf_ok (fun x i hi hx => ⟨by show X.N[i]? = _; rw [g.N]; exact hi, ?_, ?_⟩) ht
            · rcases nmB_ok hx with z | z
              · exact .inl (lookup_relS_keep (by decide) z)
              · exact .inr (lookup_relS_keep (by decide) z)
            · rcases nmB_ok hx with z | z
              · exact .inr (lookup_relS_keep (by decide) z)
              · exact .inl (by show (scope.names.lookup x == some .cell) = true; rw [z]; rfl)
          · cases ifs with
            | nil => exact ptsm_nil
            | cons c cs =>
              cases cs with
              | nil => exact ptsm_one (ok.T _ _ _ g.blk)
              | cons c2 cs => simp at h3
        · exact pem_bad
      · exact pem_bad
    · exact pem_bad
  · exact pem_bad

/-! ### what a loop walks -/
def dRng (G : Gv) (d : Den) (sc : Scope) (x : Str) : List Expr → Option Mi
  | [a] => if x = "range" ∧ freeB G sc x = true ∧ notStar a = true then some (iA kRng1 (d.A sc [a])) else none
  | [a, b] => if x = "range" ∧ freeB G sc x = true ∧ notStar a = true ∧ notStar b = true then some (iA kRng2 (d.A sc [a, b])) else none
  | _ => none
theorem dRng_ok (g : Good G X sc) {d : Den} (ok : DenOk G d) {x : Str} {es : List Expr} {m : Mi} {tg : Expr} {p pos : Pos} (h : dRng G d sc x es = some m) : PIm X tg (.Call (.Name x p) es [] pos) m := by
  unfold dRng at h
  split at h
  · split at h
    · rename_i hh
      obtain ⟨rfl, h1, h2⟩ := hh
      cases h
      obtain ⟨a1, a2⟩ := freeB_ok g h1
      exact pim_rng1 a1 a2 (ok.A _ _ _ g) h2
    · cases h
  · split at h
    · rename_i hh
      obtain ⟨rfl, h1, h2, h3⟩ := hh
      cases h
      obtain ⟨a1, a2⟩ := freeB_ok g h1
      exact pim_rng2 a1 a2 (ok.A _ _ _ g) h2 h3
    · cases h
  · cases h
def dIter (G : Gv) (d : Den) (sc : Scope) (tg e : Expr) : Mi := match e with
  | .Call (.Name x _) es [] _ => match dRng G d sc x es with
    | some m => m
    | none => iVal (d.E sc e)
  | _ => iVal (d.E sc e)
theorem dIter_ok (g : Good G X sc) {d : Den} (ok : DenOk G d) {tg e : Expr} : PIm X tg e (dIter G d sc tg e) := by
  unfold dIter
  split
  · split
    · rename_i m hm
      exact dRng_ok g ok hm
    · exact pim_val (ok.E _ _ _ g)
  · exact pim_val (ok.E _ _ _ g)

/-! ### sorted(e, key=y) -/
def dSortK (G : Gv) (d : Den) (sc : Scope) (x : Str) (e : Expr) (k y : Str) : Mx :=
  if x = Str.ofString "sorted" ∧ k = Str.ofString "key" ∧ freeB G sc "sorted" = true ∧ gloB sc y = true ∧ okName y = true ∧ notStar e = true then match G.kf y with
    | some c => e1 (fSortK c) (d.E sc e)
    | none => eBad
  else eBad
theorem dSortK_ok (g : Good G X sc) {d : Den} (ok : DenOk G d) {x k y : Str} {e : Expr} {p p2 p3 pos : Pos} : PEm X (.Call (.Name x p) [e] [⟨some k, .Name y p2, p3⟩] pos) (dSortK G d sc x e k y) := by
  unfold dSortK
  split
  · rename_i hh
    obtain ⟨rfl, rfl, h1, h2, h3, h4⟩ := hh
    obtain ⟨a1, a2⟩ := freeB_ok g h1
    split
    · rename_i c hc
      obtain ⟨T, hm⟩ := g.key y c hc
      exact pem_sortK T g.room a1 a2 (g.gl h2) hm (okName_ok h3).1 (ok.E _ _ _ g) h4
    · exact pem_bad
  · exact pem_bad

/-! ### expressions -/
noncomputable def dE (G : Gv) (d : Den) (sc : Scope) : Expr → Mx
  | .Name x _ => dName G sc x
  | .Constant c _ _ => dCon c
  | .BinOp a op b _ => match binF op with
    | some f => e2 f (d.E sc a) (d.E sc b)
    | none => eBad
  | .UnaryOp .USub a _ => e1 opNeg (d.E sc a)
  | .UnaryOp .Not a _ => eNot (d.E sc a)
  | .Compare a ops es _ => dCmp (d.E sc) a ops es
  | .BoolOp op es _ => dBoolE (d.E sc) op es
  | .IfExp c a b _ => eIf (d.T sc c) (d.E sc a) (d.E sc b)
  | .Tuple es _ _ => eTup (d.A sc es)
  | .List es _ => eLst (d.A sc es)
  | .Dict [] [] _ => eDict0
  | .Subscript a b _ => dSub (d.E sc) a b
  | .Attribute o f _ => if notCall0 o = true then e1 (opAt (okAt G.gs f) f) (d.E sc o) else eBad
  | .Call (.Name x _) es [] _ => dCall G d.E d.A sc x es
  | .Call (.Attribute o m apos) es [] pos => dMeth G (d.E sc) (d.A sc) o m es apos pos
  | .ListComp elt gs scope _ => dLc G d sc elt gs scope
  | .Call (.Name x _) [e] [⟨some k, .Name y _, _⟩] _ => dSortK G d sc x e k y
  | _ => eBad
def dT (d : Den) (sc : Scope) : Expr → Mt
  | .Compare a ops es _ => tBl (dCmp (d.E sc) a ops es)
  | .BoolOp op es _ => match es with
    | [] => tBad
    | _ => dBoolT (d.T sc) op es
  | .UnaryOp .Not a _ => tNotM (d.T sc a)
  | .Name x p => tTru (d.E sc (.Name x p))
  | .Call f es kws p => tTru (d.E sc (.Call f es kws p))
  | .Attribute o f p => tTru (d.E sc (.Attribute o f p))
  | .Subscript a b p => tTru (d.E sc (.Subscript a b p))
  | .BinOp a op b p => tTru (d.E sc (.BinOp a op b p))
  | .Constant c k p => tTru (d.E sc (.Constant c k p))
  | _ => tBad
def dA (d : Den) (sc : Scope) : List Expr → Ma
  | [] => aNil
  | e :: es => if notStar e = true then aCons (d.E sc e) (d.A sc es) else aBad
theorem dE_ok (g : Good G X sc) {d : Den} (ok : DenOk G d) (e : Expr) : PEm X e (dE G d sc e) := by
  unfold dE
  split
  · exact dName_ok g
  · exact dCon_ok
  · split
    · rename_i f hf
      exact pem_bin (binF_ok (X := X) hf).1 (binF_ok hf).2 (ok.E _ _ _ g) (ok.E _ _ _ g)
    · exact pem_bad
  · exact pem_un mild1_neg unr_neg (ok.E _ _ _ g)
  · exact pem_not (ok.E _ _ _ g)
  · exact (dCmp_ok g fun e => ok.E _ _ e g).1
  · exact dBoolE_ok (fun e => ok.E _ _ e g) _
  · exact pem_if (ok.T _ _ _ g) (ok.E _ _ _ g) (ok.E _ _ _ g)
  · exact pem_tup (ok.A _ _ _ g)
  · exact pem_lst (ok.A _ _ _ g)
  · exact pem_dict0
  · exact dSub_ok g fun e => ok.E _ _ e g
  · split
    · rename_i h0
      exact pem_at (okAt_ok g) (ok.E _ _ _ g) h0
    · exact pem_bad
  · exact dCall_ok g (fun e => ok.E _ _ e g) fun es => ok.A _ _ es g
  · exact dMeth_ok g (fun e => ok.E _ _ e g) fun es => ok.A _ _ es g
  · exact dLc_ok g ok
  · exact dSortK_ok g ok
  · exact pem_bad
theorem dT_ok (g : Good G X sc) {d : Den} (ok : DenOk G d) (e : Expr) : PTm X e (dT d sc e) := by
  unfold dT
  split
  · exact (dCmp_ok g fun e => ok.E _ _ e g).2
  · split
    · exact ptm_bad
    · rename_i hne
      exact (dBoolT_ok (fun e => ok.T _ _ e g) _ (by first | exact hne | exact fun z => hne z)).pt
  · exact ptm_not (ok.T _ _ _ g)
  · exact ptm_truth (ok.E _ _ _ g) fun _ => rfl
  · exact ptm_truth (ok.E _ _ _ g) fun _ => rfl
  · exact ptm_truth (ok.E _ _ _ g) fun _ => rfl
  · exact ptm_truth (ok.E _ _ _ g) fun _ => rfl
  · exact ptm_truth (ok.E _ _ _ g) fun _ => rfl
  · exact ptm_truth (ok.E _ _ _ g) fun _ => rfl
  · exact ptm_bad
theorem dA_ok (g : Good G X sc) {d : Den} (ok : DenOk G d) : ∀ es : List Expr, PAm X es (dA d sc es)
  | [] => pam_nil
  | e :: es => by
    show PAm X (e :: es) (if notStar e = true then aCons (d.E sc e) (d.A sc es) else aBad)
    split
    · rename_i h
      exact pam_cons (ok.E _ _ _ g) (ok.A _ _ _ g) h
    · exact pam_bad
end
end MM
namespace MM
open PySem PySem.Spec PyProof.Rows L2

/-! ### statements -/
section
variable {G : Gv} {X : Cx} {sc : Scope}
theorem psm_setLc {tg iter elt : Expr} {it : Mi} {t : Tg} {i : Nat} {y : Str} {py : Pos} {ifs : List Expr} {scope : Scope} {own : List (Str × Nat)} {pos spos : Pos} {c : Mt} {m : Mx} (hc : X.calm = true) (hN : X.N.Nodup) (hy : X.N[i]? = some y) (hyl : X.env.scope.names.lookup y = some .local)
    (hsw : swapsWith (.ListComp elt [⟨tg, iter, ifs, 0⟩] scope pos) (some (.Name y py)) spos.line X.env = pure true) (hi : PIm X tg iter it) (ok : BlkOk X.N X.env.scope scope own) (hsl : ∀ i ∈ t.slots, i ∈ own.map (·.2))
    (hg : ∀ (s : Shared) (H : Hp) (C : Addr) (cl : List (Str × Addr)) (fp : List Addr), TgOf (X.blk s H scope (compEnvC scope cl C X.env) fp) tg t) (ht : ∀ (s : Shared) (H : Hp) (C : Addr) (cl : List (Str × Addr)) (fp : List Addr), PTsm (X.blk s H scope (compEnvC scope cl C X.env) fp) ifs c)
    (he : ∀ (s : Shared) (H : Hp) (C : Addr) (cl : List (Str × Addr)) (fp : List Addr), PEm (X.blk s H scope (compEnvC scope cl C X.env) fp) elt m) (hs : noSet iter = true) :
    PSm X (.Assign [.Name y py] (.ListComp elt [⟨tg, iter, ifs, 0⟩] scope pos) spos) (sAsg (eLc it t c m (own.map (·.2))) (.nm i)) := fun W tk =>
  PS.imp (ps_unl (ps_setLc (g := gTg X.K t) (tt := tMT X.w X.K WF c) (te := tM X.w X.K WF m) hc hN hy hyl hsw (hi W tk) ok (fun s H C cl fp => pg_of (X := X.blk s H scope (compEnvC scope cl C X.env) fp) hN hc (hg s H C cl fp)) (fun s H C cl fp => ht s H C cl fp WF takes_no) (fun s H C cl fp => he s H C cl fp WF takes_no) (folded_no hs))) fun D σ H h => by
    have h2 := tM_asg h
    exact tM_lc hsl h2
theorem swaps_lc {elt : Expr} {gs : List Comprehension} {scope : Scope} {pos : Pos} {y : Str} {py : Pos} {l : Nat} {env : Env} : ∃ b, swapsWith (.ListComp elt gs scope pos) (some (.Name y py)) l env = pure b ∧ (b = true → env.kindOf y = some .local) := by
  refine ⟨_, rfl, fun h => ?_⟩
  simp only [Bool.and_eq_true, beq_iff_eq] at h
  exact h.1.1.2
theorem swaps_tup {e : Expr} {es : List Expr} {k : Nat} {p : Pos} {l : Nat} {env : Env} : swapsWith e (some (.Tuple es k p)) l env = pure false := by
  unfold swapsWith
  cases e <;> rfl
noncomputable def dAsg (G : Gv) (d : Den) (sc : Scope) (tg e : Expr) : Ms := match tg with
  | .Subscript o i _ => if notSlice i = true then sSub (d.E sc e) (d.E sc o) (d.E sc i) else sBad
  | .Attribute o f _ => sAtt (okAt G.gs f) f (d.E sc e) (d.E sc o)
  | .Tuple es k p => match tgOf G.N sc (.Tuple es k p) with
    | some t => if isTup e = false then sAsg (d.E sc e) t else sBad
    | none => sBad
  | .Name x p => match tgOf G.N sc (.Name x p) with
    | some t => if noComp e = true then sAsg (d.E sc e) t else match e with
      | .ListComp elt gs scope _ => sAsg (dLc G d sc elt gs scope) t
      | _ => sBad
    | none => sBad
  | _ => sBad
theorem sAsg_bad {t : Tg} {st : Stmt} : PSm X st (sAsg eBad t) := fun W tk => ⟨fun _ _ _ _ _ _ ⟨_, _, _, _, _, g⟩ => g.elim⟩
theorem dAsg_ok (g : Good G X sc) (hf : ∀ x, X.fn x = true) {d : Den} (ok : DenOk G d) {tg e : Expr} {pos : Pos} : PSm X (.Assign [tg] e pos) (dAsg G d sc tg e) := by
  have hu : X.A.units + 10 < cLine := by have := g.un; omega
  have hN : X.N.Nodup := by rw [g.N]; exact g.nd
  unfold dAsg
  split
  · split
    · rename_i h
      exact psm_sub hu (ok.E _ _ _ g) (ok.E _ _ _ g) (ok.E _ _ _ g) h
    · exact psm_bad
  · exact psm_att (okAt_ok g) (ok.E _ _ _ g) (ok.E _ _ _ g)
  · split
    · rename_i t ht
      split
      · rename_i he
        exact psm_asg hN g.calm (tgOf_ok (g.nm hf) ht) (ok.E _ _ _ g) swaps_tup (by rw [he]; exact Bool.and_false _)
      · exact psm_bad
    · exact psm_bad
  · rename_i x p
    split
    · rename_i t ht
      split
      · rename_i he
        exact psm_asg hN g.calm (tgOf_ok (g.nm hf) ht) (ok.E _ _ _ g) (swaps_no he) rfl
      · split
        · rename_i elt gs scope cp _
          obtain ⟨b, hb, hb2⟩ := swaps_lc (elt := elt) (gs := gs) (scope := scope) (pos := cp) (y := x) (py := p) (l := pos.line) (env := X.env)
          cases b with
          | false => exact psm_asg hN g.calm (tgOf_ok (g.nm hf) ht) (dLc_ok g ok) hb rfl
          | true =>
            unfold dLc
            split
            · rename_i tg iter ifs _
              split
              · rename_i hbk
                split
                · rename_i t' ht'
                  split
                  · rename_i hh
                    obtain ⟨h1, h2, h3⟩ := hh
                    have hsl : ∀ i ∈ t'.slots, i ∈ (ownOf G.N scope).map (·.2) := fun i hi => of_decide_eq_true (List.all_eq_true.mp h1 i hi)
                    have htg := tgOf_ok (g.nm hf) ht
                    cases htg with
                    | nm hnm =>
                      refine psm_setLc g.calm hN hnm.at_ (hb2 rfl) hb (ok.I X sc tg iter g) (by rw [g.N, g.sc]; exact blkOk_by hbk) hsl (fun s H C cl fp => ?_) (fun s H C cl fp => ?_) (fun s H C cl fp => ok.E _ _ _ g.blk) h2
                      · refine tgOf_ok (fun x i hi hx => ⟨by show X.N[i]? = _; rw [g.N]; exact hi, ?_, ?_⟩) ht'
                        · rcases nmB_ok hx with z | z
                          · exact .inl (lookup_relS_keep (by decide) z)
                          · exact .inr (lookup_relS_keep (by decide) z)
                        · rcases nmB_ok hx with z | z
                          · exact .inr (lookup_relS_keep (by decide) z)
                          · exact .inl (by show (scope.names.lookup x == some .cell) = true; rw [z]; rfl)
                      · cases ifs with
                        | nil => exact ptsm_nil
                        | cons c cs =>
                          cases cs with
                          | nil => exact ptsm_one (ok.T _ _ _ g.blk)
                          | cons c2 cs => simp at h3
                  · exact sAsg_bad
                · exact sAsg_bad
              · exact sAsg_bad
            · exact sAsg_bad
        · exact psm_bad
    · exact psm_bad
  · exact psm_bad
noncomputable def dAug (G : Gv) (d : Den) (sc : Scope) (tg : Expr) (op : Operator) (e : Expr) : Ms := match tg, op with
  | .Name x _, .Add => match slotOf G.N x with
    | some i => if nmB sc x = true then sAug (fun a b => a + b) i (d.E sc e) else sBad
    | none => sBad
  | .Name x _, .Sub => match slotOf G.N x with
    | some i => if nmB sc x = true then sAug (fun a b => a - b) i (d.E sc e) else sBad
    | none => sBad
  | _, _ => sBad
theorem dAug_ok (g : Good G X sc) (hf : ∀ x, X.fn x = true) {d : Den} (ok : DenOk G d) {tg e : Expr} {op : Operator} {pos : Pos} : PSm X (.AugAssign tg op e pos) (dAug G d sc tg op e) := by
  have hN : X.N.Nodup := by rw [g.N]; exact g.nd
  unfold dAug
  split
  · split
    · rename_i i hi
      split
      · rename_i hx
        exact psm_aug hN (g.nm hf _ _ (slotOf_ok hi) hx) ip_add (ok.E _ _ _ g)
      · exact psm_bad
    · exact psm_bad
  · split
    · rename_i i hi
      split
      · rename_i hx
        exact psm_aug hN (g.nm hf _ _ (slotOf_ok hi) hx) ip_sub (ok.E _ _ _ g)
      · exact psm_bad
    · exact psm_bad
  · exact psm_bad
noncomputable def dS (G : Gv) (d : Den) (sc : Scope) : Stmt → Ms
  | .Pass _ => sNx
  | .Break _ => sBk
  | .Continue _ => sCt
  | .Return none _ => sRetN
  | .Return (some e) _ => sRet (d.E sc e)
  | .If c a b _ => sIf (d.T sc c) (d.B sc a) (d.B sc b)
  | .While c b [] _ => sWhile (d.T sc c) (d.B sc b)
  | .For tg it b [] _ => match tgOf G.N sc tg with
    | some t => if noSet it = true then sFor (d.I sc tg it) t (d.B sc b) else sBad
    | none => sBad
  | .Expr (.Constant (.str _) _ _) _ => sNx
  | .Expr e _ => if noComp e = true then sEx (d.E sc e) else sBad
  | .Assign [tg] e _ => dAsg G d sc tg e
  | .AugAssign tg op e _ => dAug G d sc tg op e
  | _ => sBad
noncomputable def dB (d : Den) (sc : Scope) : List Stmt → Ms
  | [] => sNx
  | [s] => d.S sc s
  | s :: r => sSeq (d.S sc s) (d.B sc r)
theorem psm_doc {x : Str} {j} {pos pos' : Pos} : PSm X (.Expr (.Constant (.str x) j pos) pos') sNx := fun W tk => PS.imp ps_doc fun D σ H ⟨al, τ, μ, sr, rp, g⟩ => gS.nx g rp sr
theorem dS_ok (g : Good G X sc) (hp : PassesOwn (model X.prog X.w) X.A X.env X.xe) (hf : ∀ x, X.fn x = true) {d : Den} (ok : DenOk G d) (st : Stmt) : PSm X st (dS G d sc st) := by
  unfold dS
  split
  · exact psm_pass
  · exact psm_break
  · exact psm_continue
  · exact psm_retN
  · exact psm_ret (ok.E _ _ _ g)
  · exact psm_if (ok.T _ _ _ g) (ok.B _ _ _ g hp hf) (ok.B _ _ _ g hp hf)
  · exact psm_while hp (ok.T _ _ _ g) (ok.B _ _ _ g hp hf)
  · split
    · rename_i t ht
      split
      · rename_i hs
        exact psm_for (by rw [g.N]; exact g.nd) g.calm hp (ok.I _ _ _ _ g) (tgOf_ok (g.nm hf) ht) (ok.B _ _ _ g hp hf) hs
      · exact psm_bad
    · exact psm_bad
  · exact psm_doc
  · split
    · rename_i h
      exact psm_expr (ok.E _ _ _ g) (swaps_no h)
    · exact psm_bad
  · exact dAsg_ok g hf ok
  · exact dAug_ok g hf ok
  · exact psm_bad
theorem dB_ok (g : Good G X sc) (hp : PassesOwn (model X.prog X.w) X.A X.env X.xe) (hf : ∀ x, X.fn x = true) {d : Den} (ok : DenOk G d) : ∀ st : List Stmt, PSsm X st (dB d sc st)
  | [] => pssm_nil
  | [s] => pssm_one (ok.S _ _ _ g hp hf)
  | s :: s2 :: r => pssm_cons (ok.S _ _ _ g hp hf) (ok.B _ _ _ g hp hf)
end
noncomputable def denS (G : Gv) (d : Den) : Den := ⟨fun sc e => dE G d sc e, fun sc e => dT d sc e, fun sc es => dA d sc es, fun sc tg e => dIter G d sc tg e, fun sc s => dS G d sc s, fun sc b => dB d sc b⟩
noncomputable def den (G : Gv) : Nat → Den
  | 0 => den0
  | n + 1 => denS G (den G n)
theorem den_ok {G : Gv} : ∀ n, DenOk G (den G n)
  | 0 => den0_ok
  | n + 1 => ⟨fun X sc e g => dE_ok g (den_ok n) e, fun X sc e g => dT_ok g (den_ok n) e, fun X sc es g => dA_ok g (den_ok n) es, fun X sc tg e g => dIter_ok g (den_ok n), fun X sc st g hp hf => dS_ok g hp hf (den_ok n) st, fun X sc st g hp hf => dB_ok g hp hf (den_ok n) st⟩

/-! ### the program -/
structure FD where
  N : List Str
  ps : List Str
  d : He.FnD
  gs : List He.Fa
  ks : List (Str × Int)
def runFn (np nN : Nat) (b : Ms) : Fn := fun ds μ => if ds.length = np then match b (ds.map some ++ List.replicate (nN - ds.length) none) μ with
  | .ok (.ret d) μ' => .ok d μ'
  | .ok (.nx _) μ' => .ok .non μ'
  | .ok (.ex C fs _) μ' => .exc C fs μ'
  | _ => .bad
  else .bad
def tabOf : List (Ky × FD) → Ky → Option FD
  | [], _ => none
  | (a, f) :: r, k => if a = k then some f else tabOf r k
noncomputable def gOf (f : FD) (φ φ' : Ky → Fn) : Gv := ⟨f.N, f.gs, φ, fun C => fMake C (φ' (C, some "__init__")), fun x => f.ks.lookup x⟩
noncomputable def fnOf (dep : Nat) (f : FD) (φ φ' : Ky → Fn) : Fn := runFn f.ps.length f.N.length ((den (gOf f φ φ') dep).B f.d.scope f.d.body)
noncomputable def Ph (dep : Nat) (tab : List (Ky × FD)) : Nat → Ky → Fn
  | 0, _ => fun _ _ => .bad
  | 1, _ => fun _ _ => .bad
  | n + 2, a => match tabOf tab a with
    | some f => fnOf dep f (Ph dep tab (n + 1)) (Ph dep tab n)
    | none => fun _ _ => .bad
def BindOk (f : FD) : Prop := ∀ (kV doc pm : Value) (an : Option Addr) (cdv ct : Value) (us : List Value), us.length = f.ps.length → bindArgs (PySem.W.fnOf f.d.name f.d.qual f.d.params f.d.body f.d.scope .none kV doc pm an cdv ct) ⟨us, []⟩ = pure (f.ps.zip us)
/-- x is a def whose body is `return y[c]` -/
structure KeyOk (fa : List He.Fa) (fn : List He.FnD) (x : Str) (c : Int) : Prop where
  ex : ∃ (d : He.FnD) (y : Str) (i : Nat) (cj : Nat) (p1 p2 p3 p4 : Pos), fn[i]? = some d ∧ d.at_ = (x, none) ∧ He.Fa.glo x ∈ fa ∧ d.body = [.Return (some (.Subscript (.Name y p1) (.Constant (.int c) cj p2) p3)) p4] ∧ C8.scC [y] [y] d.scope = true ∧
    d.scope.names.lookup y = some .local ∧ (y == ("__debug__" : Str)) = false ∧ ∀ (kV doc pm : Value) (an : Option Addr) (cdv ct u : Value), bindArgs (PySem.W.fnOf d.name d.qual d.params d.body d.scope .none kV doc pm an cdv ct) ⟨[u], []⟩ = pure [(y, u)]
structure FDOk (fa : List He.Fa) (fn : List He.FnD) (a : Ky) (f : FD) : Prop where
  at_ : f.d.at_ = a
  mem : ∃ i : Nat, fn[i]? = some f.d
  gs : ∀ g ∈ f.gs, g ∈ fa
  sc : C8.scC f.N f.ps f.d.scope = true
  bind : BindOk f
  keys : ∀ p ∈ f.ks, KeyOk fa fn p.1 p.2
def TabOk (fa : List He.Fa) (fn : List He.FnD) : List (Ky × FD) → Prop
  | [] => True
  | (a, f) :: r => FDOk fa fn a f ∧ TabOk fa fn r
theorem TabOk.get {fa : List He.Fa} {fn : List He.FnD} : ∀ {tab : List (Ky × FD)}, TabOk fa fn tab → ∀ {a : Ky} {f : FD}, tabOf tab a = some f → FDOk fa fn a f
  | (a, f) :: r, ⟨h, t⟩, k, f', e => by
    unfold tabOf at e
    split at e
    · rename_i q; cases e; subst q; exact h
    · exact TabOk.get t e
section
variable {P : Program} {w : World} {K : PySem.W.Frag} {mg : Str → Option Value} {base h : Heap} {fa : List He.Fa} {fn : List He.FnD} {dep : Nat} {tab : List (Ky × FD)}
theorem sr_nones {al : List Addr} {H : Hp} : ∀ n : Nat, SR K al H (List.replicate n none) (List.replicate n none)
  | 0 => .nil
  | n + 1 => .cons True.intro (sr_nones n)
theorem sr_start {al : List Addr} {H : Hp} : ∀ {ds : List D} {vs : List V}, RVs K al H ds vs → ∀ n : Nat, SR K al H (ds.map some ++ List.replicate n none) (vs.map some ++ List.replicate n none)
  | _, _, .nil, n => sr_nones n
  | _, _, .cons r t, n => .cons r (sr_start t n)
theorem says_mem (c : He.SaysE fa fn K) {g : He.Fa} (h : g ∈ fa) : g.ok K = true := by
  obtain ⟨i, hi⟩ := List.getElem?_of_mem h
  exact c.fact i hi
theorem KeyOk.kt (c : He.SaysE fa fn K) {x : Str} {z : Int} (k : KeyOk fa fn x z) : KT P w K (He.ga K x) z := by
  obtain ⟨d, y, i, cj, p1, p2, p3, p4, h1, h2, h3, h4, h5, h6, h7, h8⟩ := k.ex
  obtain ⟨oc, od, osl, kV, doc, pm, an, cdv, ct, lk, hcd⟩ := c.def_ i h1
  rw [h2] at lk
  have hb := h8 kV doc pm an cdv ct
  rw [h4] at lk hb
  exact kt_of (f := He.fAd K (x, none)) lk hcd (C8.fnScope_by h5) (fun s u => .of_eq (hb u)) h6 h7
theorem keys_get {ks : List (Str × Int)} (h : ∀ p ∈ ks, KeyOk fa fn p.1 p.2) {x : Str} {z : Int} (e : ks.lookup x = some z) : KeyOk fa fn x z := h (x, z) (PySem.mem_of_lookup e)
theorem fn_body (X : K.In h) (Gm : h.Ns mainGlobals mg) (c : He.SaysE fa fn K) {a : Ky} {f : FD} (ok : FDOk fa fn a f) {n : Nat} {φ φ' : Ky → Fn} (hφ : ∀ a, FU P w K mg base (n + 1) (He.fAd K a) (φ a)) (hφ' : ∀ a, FU P w K mg base n (He.fAd K a) (φ' a))
    {oc : Value} {od : Option Addr} {osl : Array (Option Value)} {kV doc pm : Value} {an : Option Addr} {cdv ct : Value} (lk : K.lookup (He.fAd K a) = some ⟨oc, od, .func (PySem.W.fnOf f.d.name f.d.qual f.d.params f.d.body f.d.scope .none kV doc pm an cdv ct), osl⟩) (hcd : PySem.W.codeIn K cdv f.d.qual = true) :
    FnOk P w K mg base (L2.CX P w) (n + 2) (He.fAd K a) (PySem.W.fnOf f.d.name f.d.qual f.d.params f.d.body f.d.scope .none kV doc pm an cdv ct) f.ps (spU w K f.ps.length (fnOf dep f φ φ')) := by
  have S := C8.fnScope_by ok.sc
  refine fn_of lk hcd S (fun vs H Q E q => q.1) fun A outer s H vs Q E hr hsp => ?_
  obtain ⟨hvl, al, μ, ds, rp, rs, g⟩ := hsp
  generalize hX : cxOf (L2.CX P w) P w K mg base f.N f.d.qual f.d.scope (He.fAd K a) cdv A outer s H E = XX
  have gg : Good (gOf f φ φ') XX f.d.scope := by
    subst hX
    refine ⟨rfl, S.nd, rfl, rfl, fun g hg => says_mem c (ok.gs g hg), fun x hx => He.glo_ok X Gm (says_mem c (ok.gs _ hx)), fun x hx => He.free_ok X Gm (says_mem c (ok.gs _ hx)), fun x i hx => He.int_ok X Gm (says_mem c (ok.gs _ hx)), fun x i hx => He.str_ok X Gm (says_mem c (ok.gs _ hx)),
      fun a => ⟨n + 1, hr, hφ a⟩, fun C => ⟨n, φ' (C, some "__init__"), hr, hφ' (C, some "__init__"), rfl⟩, hr.mono (Nat.zero_le _), fun x z hx => ?_⟩
    have ko := keys_get ok.keys hx
    refine ⟨ko.kt c, ?_⟩
    obtain ⟨_, _, _, _, _, _, _, _, _, _, h3, _⟩ := ko.ex
    exact He.glo_ok X Gm (says_mem c h3)
  have hp : PassesOwn (model XX.prog XX.w) XX.A XX.env XX.xe := by subst hX; exact passes_of (K := fun e s'' => L2.CX P w outer H s E e s'') (E₁ := fun e' s'' => L2.CX P w outer H s E e' s'') rfl
  have tk : Takes XX (fun cls d _ H => E cls d H) := by
    subst hX
    exact takes_of (E₁ := fun e' s'' => L2.CX P w outer H s E e' s'') rfl rfl rfl rfl
  have hbody := (den_ok (G := gOf f φ φ') dep).B XX f.d.scope f.d.body gg hp (by subst hX; exact fun _ => rfl) _ tk
  have hw : XX.w = w := by subst hX; rfl
  have hK : XX.K = K := by subst hX; rfl
  have hl : ds.length = f.ps.length := by rw [rs.length]; exact hvl
  refine ⟨_, hbody, al, ds.map some ++ List.replicate (f.N.length - ds.length) none, μ, ?_, by rw [hw, hK]; exact rp, ?_⟩
  · rw [hK]
    unfold L2.start
    rw [rs.length]
    exact sr_start rs _
  · rw [hw, hK]
    unfold fnOf runFn at g
    rw [if_pos hl] at g
    generalize hq : ((den (gOf f φ φ') dep).B f.d.scope f.d.body) (ds.map some ++ List.replicate (f.N.length - ds.length) none) μ = q at g ⊢
    cases q with
    | bad => exact g.elim
    | exc _ _ _ => exact g.elim
    | ok fl μ' =>
      cases fl with
      | nx τ => exact fun al' H' σ' e rp' _ => g al' H' .non e rp' .non
      | ret d => exact g
      | bk _ => exact g.elim
      | ct _ => exact g.elim
      | ex C fs τ => exact fun al' H' cls od σ' e rp' _ x => g al' H' cls od e rp' x
theorem fu_body (X : K.In h) (Gm : h.Ns mainGlobals mg) (c : He.SaysE fa fn K) {a : Ky} {f : FD} (ok : FDOk fa fn a f) {n : Nat} {φ φ' : Ky → Fn} (hφ : ∀ a, FU P w K mg base (n + 1) (He.fAd K a) (φ a)) (hφ' : ∀ a, FU P w K mg base n (He.fAd K a) (φ' a)) :
    FU P w K mg base (n + 2) (He.fAd K a) (fnOf dep f φ φ') := by
  obtain ⟨i, hi⟩ := ok.mem
  obtain ⟨oc, od, osl, kV, doc, pm, an, cdv, ct, lk, hcd⟩ := c.def_ i hi
  rw [ok.at_] at lk
  have hb : Binds K (PySem.W.fnOf f.d.name f.d.qual f.d.params f.d.body f.d.scope .none kV doc pm an cdv ct) f.ps [] := .all fun us hl => ok.bind kV doc pm an cdv ct us hl
  exact ⟨.inl ⟨_, f.ps, fn_body X Gm c ok hφ hφ' lk hcd, hb, fun ds μ hl => by unfold fnOf runFn; rw [if_neg hl]⟩⟩
theorem fu_all (X : K.In h) (Gm : h.Ns mainGlobals mg) (c : He.SaysE fa fn K) (T : TabOk fa fn tab) : ∀ n, (∀ a, FU P w K mg base n (He.fAd K a) (Ph dep tab n a)) ∧ ∀ a, FU P w K mg base (n + 1) (He.fAd K a) (Ph dep tab (n + 1) a)
  | 0 => ⟨fun _ => ⟨.inr fun _ _ => rfl⟩, fun _ => ⟨.inr fun _ _ => rfl⟩⟩
  | n + 1 => by
    obtain ⟨h1, h2⟩ := fu_all X Gm c T n
    refine ⟨h2, fun a => ?_⟩
    unfold Ph
    split
    · rename_i f hf
      exact fu_body X Gm c (T.get hf) h2 h1
    · exact ⟨.inr fun _ _ => rfl⟩
/-! ### a law's end -/
def CXE (P : Program) : CXT := fun outer H s E e s' => ∃ w, L2.CX P w outer H s E e s'
theorem cxe_no {P : Program} (H : Hp) (s : Shared) (e : Value) (s' : Shared) (h : CXE P [] H s (fun _ _ _ => False) e s') : False := by
  obtain ⟨w, a, B, H', cls, d, _, _, _, _, _, _, _, f⟩ := h
  exact f
theorem FnOk.cx {CX CX' : CXT} {k : Nat} {f : Addr} {fd : FuncData} {ps : List Str} {sp : Sp} (F : FnOk P w K mg base CX k f fd ps sp) (hc : ∀ outer H s E e s', CX outer H s E e s' → CX' outer H s E e s') : FnOk P w K mg base CX' k f fd ps sp :=
  ⟨F.len, fun A outer s H args us vs Q E hr he hb hv hs => codeAny_mono (F.run A outer s H args us vs Q E hr he hb hv hs) fun r s' hq => by
    cases r with
    | error e => exact hc _ _ _ _ _ _ hq
    | ok fl => cases fl <;> exact hq⟩
theorem law_ok (X : K.In h) (Gm : h.Ns mainGlobals mg) (c : He.SaysE fa fn K) (T : TabOk fa fn tab) {fl : FD} {x : Str} (hlaw : tabOf tab ("law", none) = some fl) (hx : fl.ps = [x]) {f : Addr} (hf : mg ("law" : Str) = some (.ref f)) (hg : He.Fa.glo "law" ∈ fa) (n : Nat) :
    ∃ fd : FuncData, (∀ (s : Shared) (u : Value), BindsTo s fd ⟨[u], []⟩ [(x, u)]) ∧ ∀ base : Heap, K.In base → base.Ns mainGlobals mg → FnOk P w K mg base (CXE P) (n + 2) f fd [x] (spU w K 1 (Ph dep tab (n + 2) ("law", none))) := by
  have ok := T.get hlaw
  obtain ⟨i, hi⟩ := ok.mem
  obtain ⟨oc, od, osl, kV, doc, pm, an, cdv, ct, lk, hcd⟩ := c.def_ i hi
  rw [ok.at_] at lk
  have e := hf.symm.trans (He.glo_ok X Gm (says_mem c hg))
  have e : f = He.fAd K ("law", none) := by
    have := Option.some.inj e
    cases this
    rfl
  subst e
  refine ⟨PySem.W.fnOf fl.d.name fl.d.qual fl.d.params fl.d.body fl.d.scope .none kV doc pm an cdv ct, fun s u => ?_, fun base _ _ => ?_⟩
  · have b := ok.bind kV doc pm an cdv ct [u] (by rw [hx] <;> rfl)
    rw [hx] at b
    exact .of_eq b
  · obtain ⟨h1, h2⟩ := fu_all (P := P) (w := w) (base := base) (dep := dep) X Gm c T n
    have F := fn_body (P := P) (w := w) (base := base) (dep := dep) X Gm c ok h2 h1 lk hcd
    rw [hx] at F
    have e2 : Ph dep tab (n + 2) ("law", none) = fnOf dep fl (Ph dep tab (n + 1)) (Ph dep tab n) := by
      show (match tabOf tab ("law", none) with | some f => fnOf dep f (Ph dep tab (n + 1)) (Ph dep tab n) | none => fun _ _ => .bad) = _
      rw [hlaw]
    rw [e2]
    exact FnOk.cx F fun _ _ _ _ _ _ h => ⟨w, h⟩
theorem law_sp {f : Fn} {H : Hp} {a : Addr} {ns : List Int} (hO : Only H) (hS : SqL K H a (ns.map V.int)) (hok : ∃ μ', f [.frl (ns.map D.int)] [] = .ok (.bl true) μ') : spU w K 1 f [.ref a] H (fun v _ => v = .bl true) fun _ _ _ => False := by
  obtain ⟨μ', e⟩ := hok
  have fz : FzL K H a (ns.map V.int) := by
    rcases hS with (h | ⟨o, h⟩) | h
    · rcases hO a with z | ⟨o, xs, z⟩
      · rw [z] at h; cases h
      · rw [z] at h; cases h
    · exact .inl ⟨o, h⟩
    · exact .inr h
  have rv : ∀ ns : List Int, RVs K [] H (ns.map D.int) (ns.map V.int) := fun ns => by
    induction ns with
    | nil => exact .nil
    | cons n ns ih => exact .cons (.int n) ih
  refine ⟨rfl, [], [], [.frl (ns.map D.int)], ⟨List.nodup_nil, rfl, fun i a o h => by simp at h⟩, .cons (.frl fz (rv ns)) .nil, ?_⟩
  rw [e]
  intro al' H' v _ _ r
  cases r
  rfl
end
end MM
namespace MM
theorem mem_fa {fa : List He.Fa} {x : PySem.Str} (h : isGlo fa x = true) : He.Fa.glo x ∈ fa := isGlo_ok h
end MM
namespace MM
open PySem PySem.Spec PyProof.Rows L2

/-! ### the mirror is run -/
section
variable {a b m o i : Mx} {s1 s2 : Ms} {c c2 : Mt} {ma : Ma} {τ τ1 τ2 : MSt} {μ μ1 μ2 : MH} {d x y : D} {f : D → D → MH → Out D} {g : D → MH → Out D} {n k : Nat} {F : Fn}
def seqK (b : Ms) (r : Out Fl) : Out Fl := match r with
  | .ok (.nx τ') μ' => b τ' μ'
  | r => r
theorem sSeq_ap : sSeq s1 s2 τ μ = seqK s2 (s1 τ μ) := (rfl)
theorem seqK_nx : seqK s2 (.ok (.nx τ) μ) = s2 τ μ := (rfl)
theorem seqK_ret : seqK s2 (.ok (.ret d) μ) = .ok (.ret d) μ := (rfl)
theorem seqK_ct : seqK s2 (.ok (.ct τ) μ) = .ok (.ct τ) μ := (rfl)
theorem seqK_bk : seqK s2 (.ok (.bk τ) μ) = .ok (.bk τ) μ := (rfl)
def asgK (t : Tg) (τ : MSt) (d : D) (μ : MH) : Out Fl := match bindT t d τ with
  | some τ' => .ok (.nx τ') μ
  | none => .bad
theorem sAsg_ap {t : Tg} : sAsg m t τ μ = toS τ (m τ μ) (asgK t τ) := (rfl)
theorem asgK_nm : asgK (.nm n) τ d μ = .ok (.nx (τ.set n (some d))) μ := (rfl)
theorem asgK_tp2 : asgK (.tp [n, k]) τ (.tup [x, y]) μ = .ok (.nx ((τ.set n (some x)).set k (some y))) μ := (rfl)
theorem toS_ok {α : Type} {r : α} {q : α → MH → Out Fl} : toS τ (.ok r μ) q = q r μ := (rfl)
def ifK (a b : Ms) (τ : MSt) (c : Bool) (μ : MH) : Out Fl := if c = true then a τ μ else b τ μ
theorem sIf_ap : sIf c s1 s2 τ μ = toS τ (c τ μ) (ifK s1 s2 τ) := (rfl)
theorem ifK_t : ifK s1 s2 τ true μ = s1 τ μ := (rfl)
theorem ifK_f : ifK s1 s2 τ false μ = s2 τ μ := (rfl)
theorem sRet_ap : sRet m τ μ = toS τ (m τ μ) fun d μ => .ok (.ret d) μ := (rfl)
theorem sEx_ap : sEx m τ μ = toS τ (m τ μ) fun _ μ => .ok (.nx τ) μ := (rfl)
theorem sNx_ap : sNx τ μ = .ok (.nx τ) μ := (rfl)
theorem sCt_ap : sCt τ μ = .ok (.ct τ) μ := (rfl)
theorem eCon_ap : eCon d τ μ = .ok d μ := (rfl)
def varK (o : Option (Option D)) (μ : MH) : Out D := match o with
  | some (some d) => .ok d μ
  | _ => .bad
theorem eVar_ap : eVar n τ μ = varK τ[n]? μ := (rfl)
theorem varK_some : varK (some (some d)) μ = .ok d μ := (rfl)
theorem e1_ap : e1 g m τ μ = (m τ μ).bind g := (rfl)
def e2K (f : D → D → MH → Out D) (b : Mx) (τ : MSt) (x : D) (μ : MH) : Out D := (b τ μ).bind (f x)
theorem e2_ap : e2 f a b τ μ = (a τ μ).bind (e2K f b τ) := (rfl)
theorem e2K_ap : e2K f b τ x μ = (b τ μ).bind (f x) := (rfl)
theorem aNil_ap : aNil τ μ = .ok [] μ := (rfl)
def consK (r : Ma) (τ : MSt) (x : D) (μ : MH) : Out (List D) := (r τ μ).bind fun xs μ => .ok (x :: xs) μ
theorem aCons_ap : aCons a ma τ μ = (a τ μ).bind (consK ma τ) := (rfl)
theorem consK_ap : consK ma τ x μ = (ma τ μ).bind fun xs μ => .ok (x :: xs) μ := (rfl)
theorem eN_ap : eN F ma τ μ = (ma τ μ).bind F := (rfl)
def blK (x : D) (μ : MH) : Out Bool := match x with
  | .bl b => .ok b μ
  | _ => .bad
theorem tBl_ap : tBl m τ μ = (m τ μ).bind blK := (rfl)
theorem blK_ap {q : Bool} : blK (.bl q) μ = .ok q μ := (rfl)
theorem tTru_ap : tTru m τ μ = (m τ μ).bind opTru := (rfl)
theorem opTru_bl {q : Bool} : opTru (.bl q) μ = .ok q μ := (rfl)
def andK (b : Mt) (τ : MSt) (x : Bool) (μ : MH) : Out Bool := if x = true then b τ μ else .ok false μ
theorem tAndM_ap : tAndM c c2 τ μ = (c τ μ).bind (andK c2 τ) := (rfl)
theorem andK_t : andK c τ true μ = c τ μ := (rfl)
theorem andK_f : andK c τ false μ = .ok false μ := (rfl)
def orK (b : Mt) (τ : MSt) (x : Bool) (μ : MH) : Out Bool := if x = true then .ok true μ else b τ μ
theorem tOrM_ap : tOrM c c2 τ μ = (c τ μ).bind (orK c2 τ) := (rfl)
theorem orK_t : orK c τ true μ = .ok true μ := (rfl)
theorem orK_f : orK c τ false μ = c τ μ := (rfl)
theorem tNotM_ap : tNotM c τ μ = (c τ μ).bind fun x μ => .ok (!x) μ := (rfl)
def eAndK (b : Mx) (τ : MSt) (x : D) (μ : MH) : Out D := match x with
  | .bl true => b τ μ
  | .bl false => .ok (.bl false) μ
  | _ => .bad
theorem eAnd_ap : eAnd a b τ μ = (a τ μ).bind (eAndK b τ) := (rfl)
theorem eAndK_t : eAndK b τ (.bl true) μ = b τ μ := (rfl)
theorem eAndK_f : eAndK b τ (.bl false) μ = .ok (.bl false) μ := (rfl)
def eNotK (x : D) (μ : MH) : Out D := match x with
  | .bl b => .ok (.bl (!b)) μ
  | _ => .bad
theorem eNot_ap : eNot a τ μ = (a τ μ).bind eNotK := (rfl)
theorem eNotK_ap {q : Bool} : eNotK (.bl q) μ = .ok (.bl (!q)) μ := (rfl)
def tupK (xs : List D) (μ : MH) : Out D := if xs.length ≤ sizeLine then .ok (.tup xs) μ else .bad
theorem eTup_ap : eTup ma τ μ = (ma τ μ).bind tupK := (rfl)
theorem tupK_ok {xs : List D} (h : xs.length ≤ 100) : tupK xs μ = .ok (.tup xs) μ := if_pos (by rw [sizeLine_eq]; omega)
def lstK (xs : List D) (μ : MH) : Out D := if xs.length ≤ sizeLine then .ok (.ref μ.length) (μ ++ [.lst xs]) else .bad
theorem eLst_ap : eLst ma τ μ = (ma τ μ).bind lstK := (rfl)
theorem lstK_ok {xs : List D} (h : xs.length ≤ 100) : lstK xs μ = .ok (.ref μ.length) (μ ++ [.lst xs]) := if_pos (by rw [sizeLine_eq]; omega)
def methK (f : Ty → Option (D → Fn)) (a : Ma) (τ : MSt) (x : D) (μ : MH) : Out D := match (tyD x μ).bind f with
  | some g => (a τ μ).bind fun xs μ => g x xs μ
  | Option.none => .bad
theorem eMeth_ap {f : Ty → Option (D → Fn)} : eMeth f o ma τ μ = (o τ μ).bind (methK f ma τ) := (rfl)
theorem methK_lst {h : D → Fn} {j : Nat} {xs : List D} (e : μ[j]? = some (.lst xs)) : methK (onT .list h) ma τ (.ref j) μ = (ma τ μ).bind fun ys μ => h (.ref j) ys μ := by
  unfold methK tyD onT; simp only [e]; rfl
theorem mAppend_ap {j : Nat} {xs : List D} (e : μ[j]? = some (.lst xs)) (hl : xs.length < 1000000) : mAppend (.ref j) [x] μ = .ok .non (μ.set j (.lst (xs ++ [x]))) := by
  unfold mAppend; simp only [e]; exact if_pos (by rw [sizeLine_eq]; omega)
theorem mExtend_ap {j l : Nat} {xs ys : List D} (e : μ[j]? = some (.lst xs)) (e2 : μ[l]? = some (.lst ys)) (hl : xs.length + ys.length < 1000000) : mExtend (.ref j) [.ref l] μ = .ok .non (μ.set j (.lst (xs ++ ys))) := by
  unfold mExtend; simp only [e, e2]; exact if_pos (by rw [sizeLine_eq]; omega)
theorem mPop_ap {j : Nat} {xs : List D} (e : μ[j]? = some (.lst (xs ++ [x]))) : mPop (.ref j) [] μ = .ok x (μ.set j (.lst xs)) := by
  unfold mPop; simp only [e]; simp
def finK (r : Out Fl) : Out D := match r with
  | .ok (.ret d) μ' => .ok d μ'
  | .ok (.nx _) μ' => .ok .non μ'
  | .ok (.ex C fs _) μ' => .exc C fs μ'
  | _ => .bad
theorem runFn_ap {np nN : Nat} {ds : List D} (h : ds.length = np) : runFn np nN s1 ds μ = finK (s1 (ds.map some ++ List.replicate (nN - ds.length) none) μ) := by
  unfold runFn; rw [if_pos h]; rfl
theorem runFn_1 {nN : Nat} {a : D} : runFn 1 nN s1 [a] μ = finK (s1 (some a :: List.replicate (nN - 1) none) μ) := runFn_ap (ds := [a]) rfl
theorem runFn_2 {nN : Nat} {a b : D} : runFn 2 nN s1 [a, b] μ = finK (s1 (some a :: some b :: List.replicate (nN - 2) none) μ) := runFn_ap (ds := [a, b]) rfl
theorem runFn_3 {nN : Nat} {a b c : D} : runFn 3 nN s1 [a, b, c] μ = finK (s1 (some a :: some b :: some c :: List.replicate (nN - 3) none) μ) := runFn_ap (ds := [a, b, c]) rfl
theorem runFn_4 {nN : Nat} {a b c d : D} : runFn 4 nN s1 [a, b, c, d] μ = finK (s1 (some a :: some b :: some c :: some d :: List.replicate (nN - 4) none) μ) := runFn_ap (ds := [a, b, c, d]) rfl
theorem runFn_6 {nN : Nat} {a b c d e f : D} : runFn 6 nN s1 [a, b, c, d, e, f] μ = finK (s1 (some a :: some b :: some c :: some d :: some e :: some f :: List.replicate (nN - 6) none) μ) := runFn_ap (ds := [a, b, c, d, e, f]) rfl
theorem finK_ret : finK (.ok (.ret d) μ) = .ok d μ := (rfl)
theorem finK_nx : finK (.ok (.nx τ) μ) = .ok .non μ := (rfl)
theorem opAdd_i {p q : Int} : opAdd (.int p) (.int q) μ = .ok (.int (p + q)) μ := (rfl)
theorem opAdd_t {p q : List D} (h : p.length + q.length ≤ 1000000) : opAdd (.tup p) (.tup q) μ = .ok (.tup (p ++ q)) μ := if_pos (by rw [sizeLine_eq]; omega)
theorem opSub_i {p q : Int} : opSub (.int p) (.int q) μ = .ok (.int (p - q)) μ := (rfl)
theorem opMul_i {p q : Int} (h : mulOk p q) : opMul (.int p) (.int q) μ = .ok (.int (p * q)) μ := if_pos h
theorem mulOk_l {p q : Int} (h : -(2 ^ 64) < p ∧ p < 2 ^ 64) : mulOk p q := .inl (.inl h)
theorem mulOk_r {p q : Int} (h : -(2 ^ 64) < q ∧ q < 2 ^ 64) : mulOk p q := .inl (.inr h)
theorem log2_lt {n : Nat} (h : n < 2 ^ 200) : n.log2 < 9000 := by
  rcases Nat.eq_zero_or_pos n with rfl | h0
  · decide
  · exact Nat.lt_of_lt_of_le ((Nat.log2_lt (by omega)).mpr h) (by decide)
theorem opDiv_i {p q : Int} (h : 0 < q) (h2 : q < 2 ^ 64) : opDiv (.int p) (.int q) μ = .ok (.int (p / q)) μ := if_pos ⟨h, log2_lt (by
  have : q.natAbs < 2 ^ 64 := by omega
  exact Nat.lt_trans this (by decide))⟩
theorem opMod_i {p q : Int} (h : 0 < q) : opMod (.int p) (.int q) μ = .ok (.int (p % q)) μ := if_pos h
theorem opNeg_i {p : Int} : opNeg (.int p) μ = .ok (.int (-p)) μ := (rfl)
theorem opLt_i {p q : Int} : opLt (.int p) (.int q) μ = .ok (.bl (decide (p < q))) μ := (rfl)
theorem opLe_i {p q : Int} : opLe (.int p) (.int q) μ = .ok (.bl (decide (p ≤ q))) μ := (rfl)
theorem opGt_i {p q : Int} : opGt (.int p) (.int q) μ = .ok (.bl (decide (q < p))) μ := (rfl)
theorem opGe_i {p q : Int} : opGe (.int p) (.int q) μ = .ok (.bl (decide (q ≤ p))) μ := (rfl)
theorem opEq_i {p q : Int} : opEq (.int p) (.int q) μ = .ok (.bl (decide (p = q))) μ := by
  unfold opEq eqData scalD; simp
theorem opNe_i {p q : Int} : opNe (.int p) (.int q) μ = .ok (.bl (!decide (p = q))) μ := by
  unfold opNe eqData scalD; simp
theorem opEq_s {p q : Str} : opEq (.str p) (.str q) μ = .ok (.bl (decide (p = q))) μ := by
  unfold opEq eqData scalD; simp
theorem opNe_s {p q : Str} : opNe (.str p) (.str q) μ = .ok (.bl (!decide (p = q))) μ := by
  unfold opNe eqData scalD; simp
theorem opIx_t {xs : List D} {p : Int} (h : atI xs p = some d) : opIx (.tup xs) (.int p) μ = .ok d μ := by
  show (match atI xs p with | some v => Out.ok v μ | none => .bad) = _
  rw [h]
theorem opIx_f {xs : List D} {p : Int} (h : atI xs p = some d) : opIx (.frl xs) (.int p) μ = .ok d μ := by
  show (match atI xs p with | some v => Out.ok v μ | none => .bad) = _
  rw [h]
theorem opIx_l {j : Nat} {xs : List D} {p : Int} (e : μ[j]? = some (.lst xs)) (h : atI xs p = some d) : opIx (.ref j) (.int p) μ = .ok d μ := by
  unfold opIx seqIx; simp only [e, h]
theorem opIx_d {j : Nat} {kvs : List (D × D)} {l : Bool} (e : μ[j]? = some (.dict kvs l)) (h : dget kvs y = some d) : opIx (.ref j) y μ = .ok d μ := by
  unfold opIx; simp only [e, h]
theorem atI_0 {x : D} {xs : List D} : atI (x :: xs) 0 = some x := by simp [atI, ixN]
theorem fLen_l {j : Nat} {xs : List D} (e : μ[j]? = some (.lst xs)) : fLen [.ref j] μ = .ok (.int xs.length) μ := by
  unfold fLen seqOf; simp only [e]
theorem fLen_t {xs : List D} : fLen [.tup xs] μ = .ok (.int xs.length) μ := (rfl)
theorem fLen_f {xs : List D} : fLen [.frl xs] μ = .ok (.int xs.length) μ := (rfl)
theorem fTuple_l {j : Nat} {xs : List D} (e : μ[j]? = some (.lst xs)) : fTuple [.ref j] μ = .ok (.tup xs) μ := by
  unfold fTuple seqOf; simp only [e]
theorem fMin_i {p q : Int} : fMin [.int p, .int q] μ = .ok (.int (if q < p then q else p)) μ := (rfl)
theorem planV_t {xs : List D} : planV (.tup xs) μ = .ok ⟨xs, fun _ => True, id, some⟩ μ := (rfl)
theorem planV_f {xs : List D} : planV (.frl xs) μ = .ok ⟨xs, fun _ => True, id, some⟩ μ := (rfl)
theorem planV_l {j : Nat} {xs : List D} (e : μ[j]? = some (.lst xs)) : planV (.ref j) μ = .ok ⟨xs, fun μ => μ[j]? = some (.lst xs), id, some⟩ μ := by
  unfold planV; simp only [e]
theorem iVal_ap : iVal m τ μ = (m τ μ).bind planV := (rfl)
theorem iA_ap {q : List D → MH → Out Plan} : iA q ma τ μ = (ma τ μ).bind q := (rfl)
theorem kRng1_ap {p : Int} (h : okR p = true) : kRng1 [.int p] μ = .ok (rngP 0 p.toNat) μ := if_pos h
theorem kRng2_ap {p q : Int} (h : okR p = true) (h2 : okR q = true) : kRng2 [.int p, .int q] μ = .ok (rngP p (q - p).toNat) μ := if_pos ⟨h, h2⟩
theorem opRg1_ap {p : Int} (h : 0 ≤ p) (h2 : p ≤ 16777216) : opRg1 (.int p) μ = .ok (.ref μ.length) (μ ++ [.lst (rgD 0 p)]) := if_pos (RgOk.of_le (by omega) h2 (by omega) h)
theorem opRg2_ap {p q : Int} (h : RgOk p q) : opRg2 (.int p) (.int q) μ = .ok (.ref μ.length) (μ ++ [.lst (rgD p q)]) := if_pos h
def subK (o i : Mx) (τ : MSt) (v : D) (μ : MH) : Out Fl := match (o τ μ).bind fun x μ => (i τ μ).bind fun y μ => opSet x y v μ with
  | .ok _ μ => .ok (.nx τ) μ
  | _ => .bad
theorem sSub_ap : sSub m o i τ μ = toS τ (m τ μ) (subK o i τ) := (rfl)
theorem opSet_d {j : Nat} {kvs : List (D × D)} (e : μ[j]? = some (.dict kvs false)) (h : keyOk kvs y = true) (hl : kvs.length < 1000000) : opSet (.ref j) y x μ = .ok () (μ.set j (.dict (dput kvs y x) false)) := by
  unfold opSet; simp only [e]; exact if_pos ⟨h, by rw [sizeLine_eq]; omega⟩
theorem eDict0_ap : eDict0 τ μ = .ok (.ref μ.length) (μ ++ [.dict [] false]) := (rfl)
theorem fDict_ap {j : Nat} {kvs : List (D × D)} {l : Bool} (e : μ[j]? = some (.dict kvs l)) (h : kvs.all (fun p => (fk p.1).isSome) = true) : fDict [.ref j] μ = .ok (.ref μ.length) (μ ++ [.dict kvs false]) := by
  unfold fDict; simp only [e]; exact if_pos h
theorem subK_ap : subK o i τ x μ = match (o τ μ).bind fun z μ => (i τ μ).bind fun y μ => opSet z y x μ with
  | .ok _ μ => .ok (.nx τ) μ
  | _ => .bad := (rfl)
theorem subK_ok {v : D} {μ3 : MH} (h1 : o τ μ = .ok x μ1) (h2 : i τ μ1 = .ok y μ2) (h3 : opSet x y v μ2 = .ok () μ3) : subK o i τ v μ = .ok (.nx τ) μ3 := by
  unfold subK; simp only [h1, h2, Out.bind_ok, h3]
/-! dicts -/
theorem dget_put_self {kvs : List (D × D)} {k v : D} : dget (dput kvs k v) k = some v := by
  unfold dget dput
  split
  · rename_i h
    induction kvs with
    | nil => simp at h
    | cons p r ih =>
      by_cases e : p.1 = k
      · simp [e]
      · simp only [List.map_cons, if_neg e, List.find?_cons, decide_eq_false e]
        exact ih (by simpa [e] using h)
  · rename_i h
    induction kvs with
    | nil => simp
    | cons p r ih =>
      by_cases e : p.1 = k
      · simp [e] at h
      · simp only [List.cons_append, List.find?_cons, decide_eq_false e]
        exact ih (by simpa [e] using h)
theorem dget_put_ne {kvs : List (D × D)} {k k' v : D} (hne : k' ≠ k) : dget (dput kvs k v) k' = dget kvs k' := by
  unfold dget dput
  split
  · rename_i hh
    clear hh
    induction kvs with
    | nil => rfl
    | cons p r ih =>
      by_cases e : p.1 = k
      · have : p.1 ≠ k' := fun z => hne (z.symm.trans e)
        have hne' : k ≠ k' := fun z => hne z.symm
        simp only [List.map_cons, if_pos e, List.find?_cons, decide_eq_false this]
        exact ih
      · simp only [List.map_cons, if_neg e, List.find?_cons]
        by_cases e2 : p.1 = k'
        · simp [e2]
        · simp only [decide_eq_false e2]; exact ih
  · have : k ≠ k' := fun z => hne z.symm
    simp [List.find?_append, this]
theorem nodup_le {α : Type} [DecidableEq α] : ∀ {xs ys : List α}, xs.Nodup → (∀ x ∈ xs, x ∈ ys) → xs.length ≤ ys.length
  | [], _, _, _ => Nat.zero_le _
  | x :: xs, ys, hn, hs => by
    have hx := hs x (List.mem_cons_self ..)
    rw [List.nodup_cons] at hn
    have h1 : xs.length ≤ (ys.erase x).length := nodup_le hn.2 fun y hy => (List.mem_erase_of_ne (fun e => hn.1 (by rw [← e]; exact hy))).mpr (hs y (List.mem_cons_of_mem _ hy))
    rw [List.length_erase_of_mem hx] at h1
    have : 0 < ys.length := List.length_pos_of_mem hx
    simp only [List.length_cons]
    omega
/-! loops -/
theorem forL_run {still : MH → Prop} {t : Tg} {b : Ms} (P : Nat → MSt → MH → Prop) : ∀ (xs : List D) (k : Nat) (τ : MSt) (μ : MH), (∀ i τ μ, P i τ μ → still μ) →
    (∀ i x τ μ, xs[i]? = some x → P (k + i) τ μ → ∃ τ1 τ2 μ2, bindT t x τ = some τ1 ∧ (b τ1 μ = .ok (.nx τ2) μ2 ∨ b τ1 μ = .ok (.ct τ2) μ2) ∧ P (k + i + 1) τ2 μ2) →
    P k τ μ → ∃ τ' μ', forL still t b xs τ μ = .ok (.nx τ') μ' ∧ P (k + xs.length) τ' μ'
  | [], k, τ, μ, hs, h, h0 => ⟨τ, μ, by unfold forL; rw [if_pos (hs _ _ _ h0)], h0⟩
  | x :: xs, k, τ, μ, hs, h, h0 => by
    obtain ⟨τ1, τ2, μ2, h1, h2, h3⟩ := h 0 x τ μ rfl h0
    obtain ⟨τ', μ', h4, h5⟩ := forL_run P xs (k + 1) τ2 μ2 hs (fun i y τ μ hy hp => by
      have := h (i + 1) y τ μ (by simpa using hy) (by rw [show k + (i + 1) = k + 1 + i by omega]; exact hp)
      rw [show k + (i + 1) + 1 = k + 1 + i + 1 by omega] at this; exact this) h3
    refine ⟨τ', μ', ?_, by rw [List.length_cons, show k + (xs.length + 1) = k + 1 + xs.length by omega]; exact h5⟩
    unfold forL
    rw [if_pos (hs _ _ _ h0)]
    simp only [h1]
    rcases h2 with h2 | h2 <;> (simp only [h2]; exact h4)
theorem sFor_run {it : Mi} {t : Tg} {b : Ms} {xs : List D} {still : MH → Prop} (P : Nat → MSt → MH → Prop) (e : it τ μ = .ok ⟨xs, still, id, some⟩ μ1) (hs : ∀ i τ μ, P i τ μ → still μ)
    (h : ∀ i x τ μ, xs[i]? = some x → P i τ μ → ∃ τ1 τ2 μ2, bindT t x τ = some τ1 ∧ (b τ1 μ = .ok (.nx τ2) μ2 ∨ b τ1 μ = .ok (.ct τ2) μ2) ∧ P (i + 1) τ2 μ2) (h0 : P 0 τ μ1) : ∃ τ' μ', sFor it t b τ μ = .ok (.nx τ') μ' ∧ P xs.length τ' μ' := by
  obtain ⟨τ', μ', h1, h2⟩ := forL_run P xs 0 τ μ1 hs (fun i x τ μ hx hp => by simpa using h i x τ μ hx (by simpa using hp)) h0
  refine ⟨τ', μ', ?_, by simpa using h2⟩
  unfold sFor
  rw [e]
  show endF some (forL still t b xs τ μ1) = _
  rw [h1]; rfl
theorem whileL_run {c : Mt} {b : Ms} (P : Nat → MSt → MH → Prop) (h : ∀ n τ μ, P n τ μ → (n = 0 ∧ c τ μ = .ok false μ) ∨ (∃ m, n = m + 1 ∧ c τ μ = .ok true μ ∧ ∃ τ2 μ2, b τ μ = .ok (.nx τ2) μ2 ∧ P m τ2 μ2)) :
    ∀ (N n : Nat) (τ : MSt) (μ : MH), n < N → P n τ μ → ∃ τ' μ', whileL c b N τ μ = .ok (.nx τ') μ' ∧ P 0 τ' μ'
  | 0, n, _, _, hn, _ => absurd hn (Nat.not_lt_zero _)
  | N + 1, n, τ, μ, hn, hp => by
    rcases h n τ μ hp with ⟨rfl, h1⟩ | ⟨m, rfl, h1, τ2, μ2, h2, h3⟩
    · exact ⟨τ, μ, by unfold whileL; simp only [h1, toS_ok]; rfl, hp⟩
    · obtain ⟨τ', μ', h4, h5⟩ := whileL_run P h N m τ2 μ2 (by omega) h3
      refine ⟨τ', μ', ?_, h5⟩
      unfold whileL
      simp only [h1, toS_ok, if_true, h2]
      exact h4
theorem lcL_run {still : MH → Prop} {t : Tg} {c : Mt} {e : Mx} {f : D → D} {μ0 : MH} : ∀ (xs acc : List D), (∀ acc, still (μ0 ++ [.lst acc])) → acc.length + xs.length < 1000000 →
    (∀ x ∈ xs, ∀ acc, ∃ τ1, bindT t x τ = some τ1 ∧ c τ1 (μ0 ++ [.lst acc]) = .ok true (μ0 ++ [.lst acc]) ∧ e τ1 (μ0 ++ [.lst acc]) = .ok (f x) (μ0 ++ [.lst acc])) →
    lcL still t c e τ μ0.length xs (μ0 ++ [.lst acc]) = .ok () (μ0 ++ [.lst (acc ++ xs.map f)])
  | [], acc, hs, _, _ => by unfold lcL; rw [if_pos (hs _)]; simp
  | x :: xs, acc, hs, hl, h => by
    obtain ⟨τ1, h1, h2, h3⟩ := h x (List.mem_cons_self ..) acc
    simp only [List.length_cons] at hl
    unfold lcL
    rw [if_pos (hs _)]
    simp only [h1, h2, h3]
    have e4 : (μ0 ++ [O.lst acc])[μ0.length]? = some (.lst acc) := by simp
    simp only [e4]
    rw [if_pos (by rw [sizeLine_eq]; omega)]
    have e5 : (μ0 ++ [O.lst acc]).set μ0.length (.lst (acc ++ [f x])) = μ0 ++ [.lst (acc ++ [f x])] := by simp
    rw [e5, lcL_run xs (acc ++ [f x]) hs (by simp; omega) fun y hy => h y (List.mem_cons_of_mem _ hy)]
    simp
theorem eLc_run {it : Mi} {t : Tg} {c : Mt} {e : Mx} {vs : List Nat} {f : D → D} {xs : List D} {still : MH → Prop} (hi : it τ μ = .ok ⟨xs, still, id, some⟩ μ1) (hs : ∀ acc, still (μ1 ++ [.lst acc])) (hl : xs.length < 1000000)
    (h : ∀ x ∈ xs, ∀ acc, ∃ τ1, bindT t x (wipeM τ vs) = some τ1 ∧ c τ1 (μ1 ++ [.lst acc]) = .ok true (μ1 ++ [.lst acc]) ∧ e τ1 (μ1 ++ [.lst acc]) = .ok (f x) (μ1 ++ [.lst acc])) :
    eLc it t c e vs τ μ = .ok (.ref μ1.length) (μ1 ++ [.lst (xs.map f)]) := by
  unfold eLc
  rw [hi]
  show kLc t c e vs τ _ μ1 = _
  unfold kLc
  show (lcL still t c e (wipeM τ vs) μ1.length xs (μ1 ++ [.lst []])).bind (kRef some μ1.length) = _
  rw [lcL_run xs [] hs (by simpa using hl) h]
  simp [Out.bind, kRef]
end
end MM
namespace K43
open PySem PySem.Spec PyProof.Rows L2
def top (i : Nat) : Stmt := PySem.Challenge.pw_arrayloom_k43_the_order_of_a_nest.main.body.getD i (.Pass ⟨0, 0, 0, 0⟩)
def inCls (i j : Nat) : Stmt := inClass (top i) j
def d_0 : He.FnD := ⟨("counts_of", none), "counts_of", "counts_of", defArgs (top 1), defBody (top 1), defScope (top 1)⟩
def d_1 : He.FnD := ⟨("steps_within", none), "steps_within", "steps_within", defArgs (top 2), defBody (top 2), defScope (top 2)⟩
def d_2 : He.FnD := ⟨("steps_of", none), "steps_of", "steps_of", defArgs (top 3), defBody (top 3), defScope (top 3)⟩
def d_3 : He.FnD := ⟨("_law_cell_at", none), "_law_cell_at", "_law_cell_at", defArgs (top 5), defBody (top 5), defScope (top 5)⟩
def d_4 : He.FnD := ⟨("_law_whole", none), "_law_whole", "_law_whole", defArgs (top 6), defBody (top 6), defScope (top 6)⟩
def d_5 : He.FnD := ⟨("_law_act", none), "_law_act", "_law_act", defArgs (top 7), defBody (top 7), defScope (top 7)⟩
def d_6 : He.FnD := ⟨("_law_head_by", none), "_law_head_by", "_law_head_by", defArgs (top 8), defBody (top 8), defScope (top 8)⟩
def d_7 : He.FnD := ⟨("_law_picked", none), "_law_picked", "_law_picked", defArgs (top 9), defBody (top 9), defScope (top 9)⟩
def d_8 : He.FnD := ⟨("_law_deed_by", none), "_law_deed_by", "_law_deed_by", defArgs (top 10), defBody (top 10), defScope (top 10)⟩
def d_9 : He.FnD := ⟨("_law_ways_within", none), "_law_ways_within", "_law_ways_within", defArgs (top 11), defBody (top 11), defScope (top 11)⟩
def d_10 : He.FnD := ⟨("_law_rows_of", none), "_law_rows_of", "_law_rows_of", defArgs (top 12), defBody (top 12), defScope (top 12)⟩
def d_11 : He.FnD := ⟨("_law_worth", none), "_law_worth", "_law_worth", defArgs (top 13), defBody (top 13), defScope (top 13)⟩
def d_12 : He.FnD := ⟨("_law_put", none), "_law_put", "_law_put", defArgs (top 14), defBody (top 14), defScope (top 14)⟩
def d_13 : He.FnD := ⟨("_law_end", none), "_law_end", "_law_end", defArgs (top 15), defBody (top 15), defScope (top 15)⟩
def d_14 : He.FnD := ⟨("_law_mark", none), "_law_mark", "_law_mark", defArgs (top 16), defBody (top 16), defScope (top 16)⟩
def d_15 : He.FnD := ⟨("_law_built", none), "_law_built", "_law_built", defArgs (top 17), defBody (top 17), defScope (top 17)⟩
def d_16 : He.FnD := ⟨("_law_wholes", none), "_law_wholes", "_law_wholes", defArgs (top 18), defBody (top 18), defScope (top 18)⟩
def d_17 : He.FnD := ⟨("_law_same", none), "_law_same", "_law_same", defArgs (top 19), defBody (top 19), defScope (top 19)⟩
def d_18 : He.FnD := ⟨("law", none), "law", "law", defArgs (top 20), defBody (top 20), defScope (top 20)⟩
def fn_0 : List He.FnD := [d_0, d_1, d_2, d_3, d_4, d_5, d_6, d_7, d_8, d_9, d_10, d_11, d_12, d_13, d_14, d_15, d_16, d_17, d_18]
def fn : List He.FnD := fn_0
def fa_0 : List He.Fa := [.glo "counts_of", .keep "counts_of", .glo "steps_within", .keep "steps_within", .glo "steps_of", .keep "steps_of", .glo "_law_cell_at", .keep "_law_cell_at", .glo "_law_whole", .keep "_law_whole", .glo "_law_act", .keep "_law_act", .glo "_law_head_by", .keep "_law_head_by", .glo "_law_picked", .keep "_law_picked", .glo "_law_deed_by", .keep "_law_deed_by", .glo "_law_ways_within", .keep "_law_ways_within", .glo "_law_rows_of", .keep "_law_rows_of", .glo "_law_worth", .keep "_law_worth", .glo "_law_put", .keep "_law_put", .glo "_law_end", .keep "_law_end", .glo "_law_mark", .keep "_law_mark"]
def fa_1 : List He.Fa := [.glo "_law_built", .keep "_law_built", .glo "_law_wholes", .keep "_law_wholes", .glo "_law_same", .keep "_law_same", .glo "law", .keep "law", .free "bool", .free "dict", .free "int", .free "isinstance", .free "len", .free "list", .free "min", .free "range", .free "sorted", .free "str", .free "tuple"]
def fa : List He.Fa := fa_0 ++ (fa_1)
def loose_0 : List Str := ["counts_of", "steps_within", "steps_of", "_law_cell_at", "_law_whole", "_law_act", "_law_head_by", "_law_picked", "_law_deed_by", "_law_ways_within", "_law_rows_of", "_law_worth", "_law_put", "_law_end", "_law_mark", "_law_built", "_law_wholes", "_law_same"]
def loose : List Str := loose_0
abbrev R : PySem.W.OpenRow := PySem.W.OpenLaw.row PySem.Challenge.rw_arrayloom_k43_the_order_of_a_nest
abbrev hk : PySem.W.Hook := He.hookE 5 fa fn
def ob (s : PySem.W.SharedT) : He.Al := He.obsG 5 fa fn (HandSHeadRun.getT s)
theorem ob_eq (s : PySem.W.SharedT) : ob s = hk.obs s.abs := He.obsG_eq (HandSHeadRun.getT_eq s)
theorem run (w : World) : HandSHeadRun.RunEq R (PySem.W.view R.prog [20]) hk ob 20000 loose w := by
  intro os
  kernel_rfl
end K43
namespace K43
open PySem PySem.Spec PyProof.Rows L2 MM
abbrev dep : Nat := 80
theorem key_14 : KeyOk fa fn "_law_mark" 0 := ⟨d_14, "_law_row", 14, _, _, _, _, _, rfl, rfl, mem_fa (by kernel_rfl), rfl, by kernel_rfl, by kernel_rfl, by decide, fun kV doc pm an cdv ct u => rfl⟩
def f_0 : FD := ⟨["loop", "counts", "size", "width", "outer", "low"], ["loop", "counts"], d_0, fa, []⟩
theorem ok_0 : FDOk fa fn ("counts_of", none) f_0 := ⟨rfl, ⟨0, rfl⟩, fun _ h => h, by kernel_rfl, fun kV doc pm an cdv ct us hl => match us, hl with | [_, _], _ => rfl, fun _ h => nomatch h⟩
def f_1 : FD := ⟨["body", "counts", "steps", "node", "cell", "number", "turn", "count"], ["body", "counts"], d_1, fa, []⟩
theorem ok_1 : FDOk fa fn ("steps_within", none) f_1 := ⟨rfl, ⟨1, rfl⟩, fun _ h => h, by kernel_rfl, fun kV doc pm an cdv ct us hl => match us, hl with | [_, _], _ => rfl, fun _ h => nomatch h⟩
def f_2 : FD := ⟨["nest"], ["nest"], d_2, fa, []⟩
theorem ok_2 : FDOk fa fn ("steps_of", none) f_2 := ⟨rfl, ⟨2, rfl⟩, fun _ h => h, by kernel_rfl, fun kV doc pm an cdv ct us hl => match us, hl with | [_], _ => rfl, fun _ h => nomatch h⟩
def f_3 : FD := ⟨["_law_script", "_law_k"], ["_law_script", "_law_k"], d_3, fa, []⟩
theorem ok_3 : FDOk fa fn ("_law_cell_at", none) f_3 := ⟨rfl, ⟨3, rfl⟩, fun _ h => h, by kernel_rfl, fun kV doc pm an cdv ct us hl => match us, hl with | [_, _], _ => rfl, fun _ h => nomatch h⟩
def f_4 : FD := ⟨["_law_found"], ["_law_found"], d_4, fa, []⟩
theorem ok_4 : FDOk fa fn ("_law_whole", none) f_4 := ⟨rfl, ⟨4, rfl⟩, fun _ h => h, by kernel_rfl, fun kV doc pm an cdv ct us hl => match us, hl with | [_], _ => rfl, fun _ h => nomatch h⟩
def f_5 : FD := ⟨["_law_cell", "_law_deep", "_law_act_here"], ["_law_cell", "_law_deep"], d_5, fa, []⟩
theorem ok_5 : FDOk fa fn ("_law_act", none) f_5 := ⟨rfl, ⟨5, rfl⟩, fun _ h => h, by kernel_rfl, fun kV doc pm an cdv ct us hl => match us, hl with | [_, _], _ => rfl, fun _ h => nomatch h⟩
def f_6 : FD := ⟨["_law_cell", "_law_number", "_law_heads", "_law_most", "_law_rest", "_law_outer", "_law_width"], ["_law_cell", "_law_number", "_law_heads", "_law_most"], d_6, fa, []⟩
theorem ok_6 : FDOk fa fn ("_law_head_by", none) f_6 := ⟨rfl, ⟨6, rfl⟩, fun _ h => h, by kernel_rfl, fun kV doc pm an cdv ct us hl => match us, hl with | [_, _, _, _], _ => rfl, fun _ h => nomatch h⟩
def f_7 : FD := ⟨["_law_cell", "_law_heads", "_law_many", "_law_k"], ["_law_cell", "_law_heads", "_law_many"], d_7, fa, []⟩
theorem ok_7 : FDOk fa fn ("_law_picked", none) f_7 := ⟨rfl, ⟨7, rfl⟩, fun _ h => h, by kernel_rfl, fun kV doc pm an cdv ct us hl => match us, hl with | [_, _, _], _ => rfl, fun _ h => nomatch h⟩
def f_8 : FD := ⟨["_law_cell", "_law_number", "_law_heads", "_law_rest", "_law_word", "_law_own", "_law_turn"], ["_law_cell", "_law_number", "_law_heads"], d_8, fa, []⟩
theorem ok_8 : FDOk fa fn ("_law_deed_by", none) f_8 := ⟨rfl, ⟨8, rfl⟩, fun _ h => h, by kernel_rfl, fun kV doc pm an cdv ct us hl => match us, hl with | [_, _, _], _ => rfl, fun _ h => nomatch h⟩
def f_9 : FD := ⟨["_law_ways", "_law_place", "_law_head", "_law_made", "_law_mark_here", "_law_counts", "_law_low", "_law_high", "_law_count", "_law_more"], ["_law_ways", "_law_place", "_law_head"], d_9, fa, []⟩
theorem ok_9 : FDOk fa fn ("_law_ways_within", none) f_9 := ⟨rfl, ⟨9, rfl⟩, fun _ h => h, by kernel_rfl, fun kV doc pm an cdv ct us hl => match us, hl with | [_, _, _], _ => rfl, fun _ h => nomatch h⟩
def f_10 : FD := ⟨["_law_ways", "_law_place", "_law_deed", "_law_made", "_law_mark_here", "_law_counts", "_law_own", "_law_number", "_law_turn"], ["_law_ways", "_law_place", "_law_deed"], d_10, fa, []⟩
theorem ok_10 : FDOk fa fn ("_law_rows_of", none) f_10 := ⟨rfl, ⟨10, rfl⟩, fun _ h => h, by kernel_rfl, fun kV doc pm an cdv ct us hl => match us, hl with | [_, _, _], _ => rfl, fun _ h => nomatch h⟩
def f_11 : FD := ⟨["_law_heads", "_law_worth_here", "_law_head"], ["_law_heads"], d_11, fa, []⟩
theorem ok_11 : FDOk fa fn ("_law_worth", none) f_11 := ⟨rfl, ⟨11, rfl⟩, fun _ h => h, by kernel_rfl, fun kV doc pm an cdv ct us hl => match us, hl with | [_], _ => rfl, fun _ h => nomatch h⟩
def f_12 : FD := ⟨["_law_cell", "_law_number", "_law_heads", "_law_bodies", "_law_ways", "_law_due", "_law_deed"], ["_law_cell", "_law_number", "_law_heads", "_law_bodies", "_law_ways", "_law_due"], d_12, fa, []⟩
theorem ok_12 : FDOk fa fn ("_law_put", none) f_12 := ⟨rfl, ⟨12, rfl⟩, fun _ h => h, by kernel_rfl, fun kV doc pm an cdv ct us hl => match us, hl with | [_, _, _, _, _, _], _ => rfl, fun _ h => nomatch h⟩
def f_13 : FD := ⟨["_law_cell", "_law_number", "_law_heads", "_law_bodies", "_law_ways", "_law_due", "_law_body"], ["_law_cell", "_law_number", "_law_heads", "_law_bodies", "_law_ways", "_law_due"], d_13, fa, []⟩
theorem ok_13 : FDOk fa fn ("_law_end", none) f_13 := ⟨rfl, ⟨13, rfl⟩, fun _ h => h, by kernel_rfl, fun kV doc pm an cdv ct us hl => match us, hl with | [_, _, _, _, _, _], _ => rfl, fun _ h => nomatch h⟩
def f_14 : FD := ⟨["_law_row"], ["_law_row"], d_14, fa, []⟩
theorem ok_14 : FDOk fa fn ("_law_mark", none) f_14 := ⟨rfl, ⟨14, rfl⟩, fun _ h => h, by kernel_rfl, fun kV doc pm an cdv ct us hl => match us, hl with | [_], _ => rfl, fun _ h => nomatch h⟩
def f_15 : FD := ⟨["_law_script", "_law_behind", "_law_start", "_law_step", "_law_heads", "_law_bodies", "_law_ways", "_law_due", "_law_k", "_law_number", "_law_act_here", "_law_row"], ["_law_script", "_law_behind"], d_15, fa, [("_law_mark", 0)]⟩
theorem ok_15 : FDOk fa fn ("_law_built", none) f_15 := ⟨rfl, ⟨15, rfl⟩, fun _ h => h, by kernel_rfl, fun kV doc pm an cdv ct us hl => match us, hl with | [_, _], _ => rfl, fun p h => by simp only [f_15, List.mem_cons, List.not_mem_nil, or_false] at h; subst h <;> first | exact key_14⟩
def f_16 : FD := ⟨["_law_found", "_law_due", "_law_k"], ["_law_found", "_law_due"], d_16, fa, []⟩
theorem ok_16 : FDOk fa fn ("_law_wholes", none) f_16 := ⟨rfl, ⟨16, rfl⟩, fun _ h => h, by kernel_rfl, fun kV doc pm an cdv ct us hl => match us, hl with | [_, _], _ => rfl, fun _ h => nomatch h⟩
def f_17 : FD := ⟨["_law_found", "_law_due", "_law_k", "_law_step"], ["_law_found", "_law_due"], d_17, fa, []⟩
theorem ok_17 : FDOk fa fn ("_law_same", none) f_17 := ⟨rfl, ⟨17, rfl⟩, fun _ h => h, by kernel_rfl, fun kV doc pm an cdv ct us hl => match us, hl with | [_, _], _ => rfl, fun _ h => nomatch h⟩
def f_18 : FD := ⟨["_law_script", "_law_nest", "_law_due", "_law_found"], ["_law_script"], d_18, fa, []⟩
theorem ok_18 : FDOk fa fn ("law", none) f_18 := ⟨rfl, ⟨18, rfl⟩, fun _ h => h, by kernel_rfl, fun kV doc pm an cdv ct us hl => match us, hl with | [_], _ => rfl, fun _ h => nomatch h⟩
def tab_0 : List (Ky × FD) := [(("counts_of", none), f_0), (("steps_within", none), f_1), (("steps_of", none), f_2), (("_law_cell_at", none), f_3), (("_law_whole", none), f_4), (("_law_act", none), f_5), (("_law_head_by", none), f_6), (("_law_picked", none), f_7), (("_law_deed_by", none), f_8), (("_law_ways_within", none), f_9), (("_law_rows_of", none), f_10), (("_law_worth", none), f_11), (("_law_put", none), f_12), (("_law_end", none), f_13), (("_law_mark", none), f_14), (("_law_built", none), f_15), (("_law_wholes", none), f_16), (("_law_same", none), f_17), (("law", none), f_18)]
def tab : List (Ky × FD) := tab_0
theorem tabOk : TabOk fa fn tab := ⟨ok_0, ok_1, ok_2, ok_3, ok_4, ok_5, ok_6, ok_7, ok_8, ok_9, ok_10, ok_11, ok_12, ok_13, ok_14, ok_15, ok_16, ok_17, ok_18, True.intro⟩
theorem t_counts_of (n : Nat) : Ph dep tab (n + 2) ("counts_of", none) = runFn 2 6 ((sSeq (sAsg (e2 opIx (eVar 0) (eCon (.int 2))) (.nm 2))
    (sSeq (sAsg (e2 opIx (eVar 0) (eCon (.int 3))) (.nm 3))
    (sSeq (sAsg (e2 opIx (eVar 0) (eCon (.int 4))) (.nm 4))
    (sSeq (sIf (tBl (e2 opEq (eVar 4) (e1 opNeg (eCon (.int 1))))) (sRet (e1 opRg1 (eVar 2))) sNx)
    (sSeq (sAsg (e2 opMul (e2 opIx (eVar 1) (eVar 4)) (eVar 3)) (.nm 5))
    (sRet (e2 opRg2 (eVar 5) (eN fMin (aCons (e2 opAdd (eVar 5) (eVar 3)) (aCons (eVar 2) aNil))))))))))) := by kernel_rfl
theorem t_steps_within (n : Nat) : Ph dep tab (n + 2) ("steps_within", none) = runFn 2 8 ((sSeq (sAsg (eLst aNil) (.nm 2))
    (sSeq (sFor (iVal (eVar 0)) (.nm 3) (sSeq (sIf (tBl (e2 opEq (e2 opIx (eVar 3) (eCon (.int 0))) (eCon (.str "deed")))) (sSeq (sAsg (eN fTuple (aCons (eLc (iVal (e2 opIx (eVar 3) (eCon (.int 4)))) (.nm 5) tYesM (e2 opIx (eVar 1) (eVar 5)) [5]) aNil)) (.nm 4))
    (sSeq (sAsg (eN fTuple (aCons (eLc (iVal (e2 opIx (eVar 3) (eCon (.int 5)))) (.nm 5) tYesM (e2 opIx (eVar 1) (eVar 5)) [5]) aNil)) (.nm 6))
    (sSeq (sEx (eMeth (onT .list mAppend) (eVar 2) (aCons (eTup (aCons (e2 opIx (eVar 3) (eCon (.int 2))) (aCons (e2 opIx (eVar 3) (eCon (.int 3))) (aCons (eVar 4) (aCons (eVar 6) aNil))))) aNil)))
    sCt))) sNx)
    (sFor (iVal (eN (Ph dep tab (n + 1) ("counts_of", none)) (aCons (eVar 3) (aCons (eVar 1) aNil)))) (.nm 7) (sSeq (sSub (eVar 7) (eVar 1) (e2 opIx (eVar 3) (eCon (.int 1))))
    (sEx (eMeth (onT .list mExtend) (eVar 2) (aCons (eN (Ph dep tab (n + 1) ("steps_within", none)) (aCons (e2 opIx (eVar 3) (eCon (.int 5))) (aCons (eVar 1) aNil))) aNil)))))))
    (sRet (eVar 2))))) := by kernel_rfl
theorem t_steps_of (n : Nat) : Ph dep tab (n + 2) ("steps_of", none) = runFn 1 1 ((sRet (eN (Ph dep tab (n + 1) ("steps_within", none)) (aCons (e2 opIx (eVar 0) (eCon (.int 1))) (aCons eDict0 aNil))))) := by kernel_rfl
theorem t_law_cell_at (n : Nat) : Ph dep tab (n + 2) ("_law_cell_at", none) = runFn 2 2 ((sSeq (sIf (tBl (e2 opLt (eVar 1) (eN fLen (aCons (eVar 0) aNil)))) (sRet (e2 opIx (eVar 0) (eVar 1))) sNx)
    (sRet (eCon (.int 0))))) := by kernel_rfl
theorem t_law_whole (n : Nat) : Ph dep tab (n + 2) ("_law_whole", none) = runFn 1 1 ((sRet (eAnd (e1 (opIsi .int) (eVar 0)) (eNot (e1 (opIsi .bool) (eVar 0)))))) := by kernel_rfl
theorem t_law_act (n : Nat) : Ph dep tab (n + 2) ("_law_act", none) = runFn 2 3 ((sSeq (sAsg (e2 opMod (eVar 0) (eCon (.int 5))) (.nm 2))
    (sSeq (sIf (tAndM (tBl (e2 opLt (eVar 2) (eCon (.int 2)))) (tBl (e2 opLt (eVar 1) (eCon (.int 20))))) (sRet (eCon (.str "loop"))) sNx)
    (sSeq (sIf (tAndM (tBl (e2 opEq (eVar 2) (eCon (.int 4)))) (tBl (e2 opGt (eVar 1) (eCon (.int 0))))) (sRet (eCon (.str "end"))) sNx)
    (sRet (eCon (.str "deed"))))))) := by kernel_rfl
theorem t_law_head_by (n : Nat) : Ph dep tab (n + 2) ("_law_head_by", none) = runFn 4 7 ((sSeq (sAsg (e2 opDiv (eVar 0) (eCon (.int 5))) (.nm 4))
    (sSeq (sIf (tAndM (tBl (e2 opEq (e2 opMod (eVar 4) (eCon (.int 3))) (eCon (.int 1)))) (tBl (e2 opNe (eVar 2) (eLst aNil)))) (sSeq (sAsg (e2 opIx (eVar 2) (e2 opMod (e2 opDiv (eVar 4) (eCon (.int 3))) (eN fLen (aCons (eVar 2) aNil)))) (.nm 5))
    (sSeq (sAsg (e2 opAdd (eCon (.int 1)) (e2 opMod (e2 opDiv (eVar 4) (eCon (.int 60))) (eN fMin (aCons (eVar 3) (aCons (eCon (.int 4)) aNil))))) (.nm 6))
    (sSeq (sIf (tAndM (tBl (e2 opEq (e2 opIx (eVar 5) (eCon (.int 2))) (eCon (.int 1)))) (tBl (e2 opEq (e2 opMod (e2 opDiv (eVar 4) (eCon (.int 3))) (eCon (.int 2))) (eCon (.int 1))))) (sRet (eTup (aCons (eCon (.str "loop")) (aCons (eVar 1) (aCons (eVar 6) (aCons (e2 opAdd (e2 opPow (eCon (.int 10)) (eCon (.int 29))) (e2 opMod (eVar 4) (e2 opPow (eCon (.int 10)) (eCon (.int 29))))) (aCons (e2 opIx (eVar 5) (eCon (.int 1))) aNil))))))) sNx)
    (sRet (eTup (aCons (eCon (.str "loop")) (aCons (eVar 1) (aCons (e2 opSub (e2 opMul (e2 opIx (eVar 5) (eCon (.int 2))) (eVar 6)) (e2 opMod (e2 opDiv (eVar 4) (eCon (.int 7))) (eVar 6))) (aCons (eVar 6) (aCons (e2 opIx (eVar 5) (eCon (.int 1))) aNil)))))))))) sNx)
    (sSeq (sIf (tBl (e2 opEq (e2 opMod (eVar 4) (eCon (.int 9))) (eCon (.int 2)))) (sRet (eTup (aCons (eCon (.str "loop")) (aCons (eVar 1) (aCons (e2 opAdd (eCon (.int 1)) (e2 opMod (e2 opDiv (eVar 4) (eCon (.int 9))) (eVar 3))) (aCons (eCon (.int 0)) (aCons (e1 opNeg (eCon (.int 1))) aNil))))))) sNx)
    (sRet (eTup (aCons (eCon (.str "loop")) (aCons (eVar 1) (aCons (e2 opAdd (eCon (.int 1)) (e2 opMod (e2 opDiv (eVar 4) (eCon (.int 9))) (eN fMin (aCons (eVar 3) (aCons (eCon (.int 5)) aNil))))) (aCons (eCon (.int 0)) (aCons (e1 opNeg (eCon (.int 1))) aNil))))))))))) := by kernel_rfl
theorem t_law_picked (n : Nat) : Ph dep tab (n + 2) ("_law_picked", none) = runFn 3 4 ((sSeq (sIf (tBl (e2 opEq (eVar 1) (eLst aNil))) (sRet (eTup aNil)) sNx)
    (sRet (eN fTuple (aCons (eLc (iA kRng1 (aCons (eVar 2) aNil)) (.nm 3) tYesM (e2 opIx (e2 opIx (eVar 1) (e2 opMod (e2 opAdd (eVar 0) (e2 opMul (eVar 3) (e2 opAdd (eCon (.int 1)) (e2 opMod (e2 opDiv (eVar 0) (eCon (.int 7))) (eCon (.int 3)))))) (eN fLen (aCons (eVar 1) aNil)))) (eCon (.int 1))) [3]) aNil))))) := by kernel_rfl
theorem t_law_deed_by (n : Nat) : Ph dep tab (n + 2) ("_law_deed_by", none) = runFn 3 7 ((sSeq (sAsg (e2 opDiv (eVar 0) (eCon (.int 5))) (.nm 3))
    (sSeq (sAsg (e2 opIx (eLst (aCons (eCon (.str "set")) (aCons (eCon (.str "start")) (aCons (eCon (.str "add")) aNil)))) (e2 opMod (eVar 3) (eCon (.int 3)))) (.nm 4))
    (sSeq (sAsg (eN (Ph dep tab (n + 1) ("_law_picked", none)) (aCons (e2 opDiv (eVar 3) (eCon (.int 15))) (aCons (eVar 2) (aCons (e2 opMod (e2 opDiv (eVar 3) (eCon (.int 3))) (eCon (.int 5))) aNil)))) (.nm 5))
    (sSeq (sAsg (eN (Ph dep tab (n + 1) ("_law_picked", none)) (aCons (e2 opDiv (eVar 3) (eCon (.int 11))) (aCons (eVar 2) (aCons (e2 opMod (e2 opDiv (eVar 3) (eCon (.int 7))) (eCon (.int 5))) aNil)))) (.nm 6))
    (sRet (eTup (aCons (eCon (.str "deed")) (aCons (eVar 1) (aCons (e2 opMod (e2 opDiv (eVar 3) (eCon (.int 2))) (e2 opAdd (e2 opPow (eCon (.int 10)) (eCon (.int 9))) (eCon (.int 1)))) (aCons (eVar 4) (aCons (eVar 5) (aCons (eVar 6) aNil))))))))))))) := by kernel_rfl
theorem t_law_ways_within (n : Nat) : Ph dep tab (n + 2) ("_law_ways_within", none) = runFn 3 10 ((sSeq (sAsg (eLst aNil) (.nm 3))
    (sSeq (sFor (iVal (eVar 0)) (.tp [4, 5]) (sSeq (sAsg (eCon (.int 0)) (.nm 6))
    (sSeq (sAsg (e2 opIx (eVar 2) (eCon (.int 2))) (.nm 7))
    (sSeq (sIf (tBl (e2 opNe (e2 opIx (eVar 2) (eCon (.int 4))) (e1 opNeg (eCon (.int 1))))) (sSeq (sAsg (e2 opMul (e2 opIx (eVar 5) (e2 opIx (eVar 2) (eCon (.int 4)))) (e2 opIx (eVar 2) (eCon (.int 3)))) (.nm 6))
    (sAsg (eN fMin (aCons (e2 opAdd (eVar 6) (e2 opIx (eVar 2) (eCon (.int 3)))) (aCons (eVar 7) aNil))) (.nm 7))) sNx)
    (sFor (iA kRng2 (aCons (eVar 6) (aCons (eVar 7) aNil))) (.nm 8) (sSeq (sAsg (eN fDict (aCons (eVar 5) aNil)) (.nm 9))
    (sSeq (sSub (eVar 8) (eVar 9) (e2 opIx (eVar 2) (eCon (.int 1))))
    (sEx (eMeth (onT .list mAppend) (eVar 3) (aCons (eTup (aCons (e2 opAdd (eVar 4) (eTup (aCons (eVar 1) (aCons (eVar 8) aNil)))) (aCons (eVar 9) aNil))) aNil))))))))))
    (sRet (eVar 3))))) := by kernel_rfl
theorem t_law_rows_of (n : Nat) : Ph dep tab (n + 2) ("_law_rows_of", none) = runFn 3 9 ((sSeq (sAsg (eLst aNil) (.nm 3))
    (sSeq (sFor (iVal (eVar 0)) (.tp [4, 5]) (sSeq (sAsg (eN fTuple (aCons (eLc (iVal (e2 opIx (eVar 2) (eCon (.int 4)))) (.nm 7) tYesM (e2 opIx (eVar 5) (eVar 7)) [7]) aNil)) (.nm 6))
    (sSeq (sAsg (eN fTuple (aCons (eLc (iVal (e2 opIx (eVar 2) (eCon (.int 5)))) (.nm 7) tYesM (e2 opIx (eVar 5) (eVar 7)) [7]) aNil)) (.nm 8))
    (sEx (eMeth (onT .list mAppend) (eVar 3) (aCons (eTup (aCons (e2 opAdd (eVar 4) (eTup (aCons (eVar 1) aNil))) (aCons (eTup (aCons (e2 opIx (eVar 2) (eCon (.int 2))) (aCons (e2 opIx (eVar 2) (eCon (.int 3))) (aCons (eVar 6) (aCons (eVar 8) aNil))))) aNil))) aNil))))))
    (sRet (eVar 3))))) := by kernel_rfl
theorem t_law_worth (n : Nat) : Ph dep tab (n + 2) ("_law_worth", none) = runFn 1 3 ((sSeq (sAsg (eCon (.int 1)) (.nm 1))
    (sSeq (sFor (iVal (eVar 0)) (.nm 2) (sIf (tBl (e2 opEq (e2 opIx (eVar 2) (eCon (.int 4))) (e1 opNeg (eCon (.int 1))))) (sAsg (e2 opMul (eVar 1) (e2 opIx (eVar 2) (eCon (.int 2)))) (.nm 1)) (sAsg (e2 opMul (eVar 1) (eN fMin (aCons (e2 opIx (eVar 2) (eCon (.int 2))) (aCons (e2 opIx (eVar 2) (eCon (.int 3))) aNil)))) (.nm 1))))
    (sRet (eVar 1))))) := by kernel_rfl
theorem t_law_put (n : Nat) : Ph dep tab (n + 2) ("_law_put", none) = runFn 6 7 ((sSeq (sAsg (eN (Ph dep tab (n + 1) ("_law_deed_by", none)) (aCons (eVar 0) (aCons (eVar 1) (aCons (eVar 2) aNil)))) (.nm 6))
    (sSeq (sEx (eMeth (onT .list mExtend) (eVar 5) (aCons (eN (Ph dep tab (n + 1) ("_law_rows_of", none)) (aCons (e2 opIx (eVar 4) (e1 opNeg (eCon (.int 1)))) (aCons (eN fLen (aCons (e2 opIx (eVar 3) (e1 opNeg (eCon (.int 1)))) aNil)) (aCons (eVar 6) aNil)))) aNil)))
    (sEx (eMeth (onT .list mAppend) (e2 opIx (eVar 3) (e1 opNeg (eCon (.int 1)))) (aCons (eVar 6) aNil)))))) := by kernel_rfl
theorem t_law_end (n : Nat) : Ph dep tab (n + 2) ("_law_end", none) = runFn 6 7 ((sSeq (sIf (tBl (e2 opEq (e2 opIx (eVar 3) (e1 opNeg (eCon (.int 1)))) (eLst aNil))) (sEx (eN (Ph dep tab (n + 1) ("_law_put", none)) (aCons (eVar 0) (aCons (eVar 1) (aCons (eVar 2) (aCons (eVar 3) (aCons (eVar 4) (aCons (eVar 5) aNil)))))))) sNx)
    (sSeq (sEx (eMeth (onT .list mPop) (eVar 4) aNil))
    (sSeq (sAsg (eN fTuple (aCons (eMeth (onT .list mPop) (eVar 3) aNil) aNil)) (.nm 6))
    (sEx (eMeth (onT .list mAppend) (e2 opIx (eVar 3) (e1 opNeg (eCon (.int 1)))) (aCons (e2 opAdd (eMeth (onT .list mPop) (eVar 2) aNil) (eTup (aCons (eVar 6) aNil))) aNil))))))) := by kernel_rfl
theorem t_law_mark (n : Nat) : Ph dep tab (n + 2) ("_law_mark", none) = runFn 1 1 ((sRet (e2 opIx (eVar 0) (eCon (.int 0))))) := by kernel_rfl
theorem t_law_built (n : Nat) : Ph dep tab (n + 2) ("_law_built", none) = runFn 2 12 ((sSeq (sAsg (e2 opMod (e2 opDiv (eN (Ph dep tab (n + 1) ("_law_cell_at", none)) (aCons (eVar 0) (aCons (eCon (.int 0)) aNil))) (eCon (.int 2))) (eVar 1)) (.nm 2))
    (sSeq (sAsg (e2 opSub (eCon (.int 1)) (e2 opMul (eCon (.int 2)) (e2 opMod (eN (Ph dep tab (n + 1) ("_law_cell_at", none)) (aCons (eVar 0) (aCons (eCon (.int 0)) aNil))) (eCon (.int 2))))) (.nm 3))
    (sSeq (sAsg (eLst aNil) (.nm 4))
    (sSeq (sAsg (eLst (aCons (eLst aNil) aNil)) (.nm 5))
    (sSeq (sAsg (eLst (aCons (eLst (aCons (eTup (aCons (eTup aNil) (aCons eDict0 aNil))) aNil)) aNil)) (.nm 6))
    (sSeq (sAsg (eLst aNil) (.nm 7))
    (sSeq (sFor (iA kRng2 (aCons (eCon (.int 1)) (aCons (eN fMin (aCons (eN fLen (aCons (eVar 0) aNil)) (aCons (eCon (.int 63)) aNil))) aNil))) (.nm 8) (sSeq (sAsg (e2 opMod (e2 opAdd (eVar 2) (e2 opMul (eVar 3) (eVar 8))) (eVar 1)) (.nm 9))
    (sSeq (sAsg (eN (Ph dep tab (n + 1) ("_law_act", none)) (aCons (e2 opIx (eVar 0) (eVar 8)) (aCons (eN fLen (aCons (eVar 4) aNil)) aNil))) (.nm 10))
    (sIf (tBl (e2 opEq (eVar 10) (eCon (.str "loop")))) (sSeq (sEx (eMeth (onT .list mAppend) (eVar 4) (aCons (eN (Ph dep tab (n + 1) ("_law_head_by", none)) (aCons (e2 opIx (eVar 0) (eVar 8)) (aCons (eVar 9) (aCons (eVar 4) (aCons (e2 opDiv (eCon (.int 24)) (eN (Ph dep tab (n + 1) ("_law_worth", none)) (aCons (eVar 4) aNil))) aNil))))) aNil)))
    (sSeq (sEx (eMeth (onT .list mAppend) (eVar 6) (aCons (eN (Ph dep tab (n + 1) ("_law_ways_within", none)) (aCons (e2 opIx (eVar 6) (e1 opNeg (eCon (.int 1)))) (aCons (eN fLen (aCons (e2 opIx (eVar 5) (e1 opNeg (eCon (.int 1)))) aNil)) (aCons (e2 opIx (eVar 4) (e1 opNeg (eCon (.int 1)))) aNil)))) aNil)))
    (sEx (eMeth (onT .list mAppend) (eVar 5) (aCons (eLst aNil) aNil))))) (sIf (tBl (e2 opEq (eVar 10) (eCon (.str "end")))) (sEx (eN (Ph dep tab (n + 1) ("_law_end", none)) (aCons (e2 opIx (eVar 0) (eVar 8)) (aCons (eVar 9) (aCons (eVar 4) (aCons (eVar 5) (aCons (eVar 6) (aCons (eVar 7) aNil)))))))) (sIf (tBl (e2 opLe (e2 opAdd (eN fLen (aCons (eVar 7) aNil)) (eN fLen (aCons (e2 opIx (eVar 6) (e1 opNeg (eCon (.int 1)))) aNil))) (eCon (.int 200)))) (sEx (eN (Ph dep tab (n + 1) ("_law_put", none)) (aCons (e2 opIx (eVar 0) (eVar 8)) (aCons (eVar 9) (aCons (eVar 4) (aCons (eVar 5) (aCons (eVar 6) (aCons (eVar 7) aNil)))))))) sNx))))))
    (sSeq (sWhile (tBl (e2 opNe (eVar 4) (eLst aNil))) (sEx (eN (Ph dep tab (n + 1) ("_law_end", none)) (aCons (eVar 2) (aCons (e2 opMod (e2 opAdd (eVar 2) (e2 opMul (eVar 3) (e2 opAdd (eCon (.int 63)) (eN fLen (aCons (eVar 4) aNil))))) (eVar 1)) (aCons (eVar 4) (aCons (eVar 5) (aCons (eVar 6) (aCons (eVar 7) aNil)))))))))
    (sRet (eTup (aCons (eTup (aCons (eVar 1) (aCons (eN fTuple (aCons (e2 opIx (eVar 5) (eCon (.int 0))) aNil)) aNil))) (aCons (eLc (iVal (e1 (fSortK 0) (eVar 7))) (.nm 11) tYesM (e2 opIx (eVar 11) (eCon (.int 1))) [11]) aNil))))))))))))) := by kernel_rfl
theorem t_law_wholes (n : Nat) : Ph dep tab (n + 2) ("_law_wholes", none) = runFn 2 3 ((sSeq (sIf (tOrM (tNotM (tTru (e1 (opIsi .tuple) (eVar 0)))) (tBl (e2 opNe (eN fLen (aCons (eVar 0) aNil)) (eN fLen (aCons (eVar 1) aNil))))) (sRet (eCon (.bl false))) sNx)
    (sSeq (sFor (iA kRng1 (aCons (eN fLen (aCons (eVar 1) aNil)) aNil)) (.nm 2) (sIf (tOrM (tNotM (tTru (eN (Ph dep tab (n + 1) ("_law_whole", none)) (aCons (e2 opIx (eVar 0) (eVar 2)) aNil)))) (tBl (e2 opNe (e2 opIx (eVar 0) (eVar 2)) (e2 opIx (eVar 1) (eVar 2))))) (sRet (eCon (.bl false))) sNx))
    (sRet (eCon (.bl true)))))) := by kernel_rfl
theorem t_law_same (n : Nat) : Ph dep tab (n + 2) ("_law_same", none) = runFn 2 4 ((sSeq (sIf (tOrM (tNotM (tTru (e1 (opIsi .list) (eVar 0)))) (tBl (e2 opNe (eN fLen (aCons (eVar 0) aNil)) (eN fLen (aCons (eVar 1) aNil))))) (sRet (eCon (.bl false))) sNx)
    (sSeq (sFor (iA kRng1 (aCons (eN fLen (aCons (eVar 1) aNil)) aNil)) (.nm 2) (sSeq (sAsg (e2 opIx (eVar 0) (eVar 2)) (.nm 3))
    (sSeq (sIf (tOrM (tNotM (tTru (e1 (opIsi .tuple) (eVar 3)))) (tBl (e2 opNe (eN fLen (aCons (eVar 3) aNil)) (eCon (.int 4))))) (sRet (eCon (.bl false))) sNx)
    (sSeq (sIf (tOrM (tNotM (tTru (eN (Ph dep tab (n + 1) ("_law_whole", none)) (aCons (e2 opIx (eVar 3) (eCon (.int 0))) aNil)))) (tOrM (tNotM (tTru (e1 (opIsi .str) (e2 opIx (eVar 3) (eCon (.int 1)))))) (tBl (e2 opNe (eSl (eVar 3) pNone (pSome (eCon (.int 2)))) (eSl (e2 opIx (eVar 1) (eVar 2)) pNone (pSome (eCon (.int 2)))))))) (sRet (eCon (.bl false))) sNx)
    (sIf (tOrM (tNotM (tTru (eN (Ph dep tab (n + 1) ("_law_wholes", none)) (aCons (e2 opIx (eVar 3) (eCon (.int 2))) (aCons (e2 opIx (e2 opIx (eVar 1) (eVar 2)) (eCon (.int 2))) aNil))))) (tNotM (tTru (eN (Ph dep tab (n + 1) ("_law_wholes", none)) (aCons (e2 opIx (eVar 3) (eCon (.int 3))) (aCons (e2 opIx (e2 opIx (eVar 1) (eVar 2)) (eCon (.int 3))) aNil)))))) (sRet (eCon (.bl false))) sNx)))))
    (sRet (eCon (.bl true)))))) := by kernel_rfl
theorem t_law (n : Nat) : Ph dep tab (n + 2) ("law", none) = runFn 1 4 ((sSeq (sAsg (eN (Ph dep tab (n + 1) ("_law_built", none)) (aCons (eVar 0) (aCons (e2 opAdd (eCon (.int 100)) (e2 opMod (eN (Ph dep tab (n + 1) ("_law_cell_at", none)) (aCons (eVar 0) (aCons (eCon (.int 1)) aNil))) (e2 opAdd (e2 opPow (eCon (.int 10)) (eCon (.int 30))) (eCon (.int 1))))) aNil))) (.tp [1, 2]))
    (sSeq (sAsg (eN (Ph dep tab (n + 1) ("steps_of", none)) (aCons (eVar 1) aNil)) (.nm 3))
    (sSeq (sIf (tNotM (tTru (eN (Ph dep tab (n + 1) ("_law_same", none)) (aCons (eVar 3) (aCons (eVar 2) aNil))))) (sRet (eCon (.bl false))) sNx)
    (sSeq (sEx (eMeth (onT .list mAppend) (eVar 3) (aCons (eTup (aCons (eCon (.int 0)) (aCons (eCon (.str "set")) (aCons (eTup aNil) (aCons (eTup aNil) aNil))))) aNil)))
    (sRet (eN (Ph dep tab (n + 1) ("_law_same", none)) (aCons (eN (Ph dep tab (n + 1) ("steps_of", none)) (aCons (eVar 1) aNil)) (aCons (eVar 2) aNil))))))))) := by kernel_rfl
end K43
namespace K43
open PySem PySem.Spec PyProof.Rows L2 MM
inductive Nd where
  | deed (num line : Int) (word : Str) (own turn : List Int)
  | loop (num size width outer : Int) (body : List Nd)
def isD (xs : List Int) : List D := xs.map D.int
mutual
def nd : Nd → D
  | .deed n l w o t => .tup [.str "deed", .int n, .int l, .str w, .tup (isD o), .tup (isD t)]
  | .loop n s w o b => .tup [.str "loop", .int n, .int s, .int w, .int o, .tup (nds b)]
def nds : List Nd → List D
  | [] => []
  | x :: xs => nd x :: nds xs
end
abbrev Env := Int → Int
def upE (env : Env) (k v : Int) : Env := fun i => if i = k then v else env i
def rg (a b : Int) : List Int := (List.range (b - a).toNat).map fun i => a + (i : Nat)
theorem rgD_rg (a b : Int) : rgD a b = isD (rg a b) := by unfold rgD isD rg; rw [List.map_map]; rfl
def mn (a b : Int) : Int := if b < a then b else a
def cnts (env : Env) (s w o : Int) : List Int := if o = -1 then rg 0 s else rg (env o * w) (mn (env o * w + w) s)
def stp (l : Int) (w : Str) (c t : List Int) : D := .tup [.int l, .str w, .tup (isD c), .tup (isD t)]
mutual
def walkN (env : Env) : Nd → List D
  | .deed _ l w o t => [stp l w (o.map env) (t.map env)]
  | .loop n s w o b => (cnts env s w o).flatMap fun c => walk (upE env n c) b
def walk (env : Env) : List Nd → List D
  | [] => []
  | x :: xs => walkN env x ++ walk env xs
end
abbrev Sc := List (Int × Int)
mutual
def wfN (S : Sc) : Nd → Prop
  | .deed _ _ _ o t => (∀ k ∈ o, k ∈ S.map (·.1)) ∧ (∀ k ∈ t, k ∈ S.map (·.1)) ∧ o.length ≤ 1000 ∧ t.length ≤ 1000
  | .loop n s w o b => 1 ≤ s ∧ s ≤ 24 ∧ n ∉ S.map (·.1) ∧ (o = -1 ∨ (o ≠ -1 ∧ ∃ z, (o, z) ∈ S ∧ 1 ≤ w ∧ (w ≤ 4 ∨ z = 1))) ∧ wfL ((n, s) :: S) b
def wfL (S : Sc) : List Nd → Prop
  | [] => True
  | x :: xs => wfN S x ∧ wfL S xs
end
mutual
def depN : Nd → Nat
  | .deed .. => 0
  | .loop _ _ _ _ b => depL b + 1
def depL : List Nd → Nat
  | [] => 0
  | x :: xs => max (depN x) (depL xs)
end
mutual
def numN : Nd → List Int
  | .deed .. => []
  | .loop n _ _ _ b => n :: numL b
def numL : List Nd → List Int
  | [] => []
  | x :: xs => numN x ++ numL xs
end
def EnvOk (S : Sc) (env : Env) : Prop := ∀ p ∈ S, 0 ≤ env p.1 ∧ env p.1 < p.2 ∧ p.2 ≤ 24
def DRel (S : Sc) (env : Env) (kvs : List (D × D)) : Prop := ∀ p ∈ S, dget kvs (.int p.1) = some (.int (env p.1))
/-- the loop's counts are few and small -/
theorem cnts_ok {S : Sc} {env : Env} {n s w o : Int} {b : List Nd} (h : wfN S (.loop n s w o b)) (he : EnvOk S env) : ∀ c ∈ cnts env s w o, 0 ≤ c ∧ c < s := by
  unfold wfN at h
  obtain ⟨h1, h2, _, h4, _⟩ := h
  intro c hc
  unfold cnts at hc
  split at hc
  · simp only [rg, List.mem_map, List.mem_range] at hc
    obtain ⟨i, hi, rfl⟩ := hc
    omega
  · rename_i ho
    rcases h4 with h4 | ⟨_, z, hz, h5, h6⟩
    · exact absurd h4 ho
    · obtain ⟨h7, h8, h9⟩ := he _ hz
      simp only [rg, List.mem_map, List.mem_range] at hc
      obtain ⟨i, hi, rfl⟩ := hc
      have h10 : 0 ≤ env o * w := Int.mul_nonneg h7 (by omega)
      unfold mn at hi
      split at hi <;> omega
theorem counts_of_ok {S : Sc} {env : Env} {num s w o : Int} {b : List Nd} {j : Nat} {kvs : List (D × D)} {μ : MH} (n : Nat) (h : wfN S (.loop num s w o b)) (he : EnvOk S env) (hd : DRel S env kvs) (hj : μ[j]? = some (.dict kvs false)) :
    Ph dep tab (n + 2) ("counts_of", none) [nd (.loop num s w o b), .ref j] μ = .ok (.ref μ.length) (μ ++ [.lst (isD (cnts env s w o))]) := by
  unfold wfN at h
  obtain ⟨h1, h2, _, h4, _⟩ := h
  rw [t_counts_of]
  have a2 : ∀ x1 x2 x3 x4 x5 x6 : D, atI [x1, x2, x3, x4, x5, x6] 2 = some x3 := fun _ _ _ _ _ _ => rfl
  have a3 : ∀ x1 x2 x3 x4 x5 x6 : D, atI [x1, x2, x3, x4, x5, x6] 3 = some x4 := fun _ _ _ _ _ _ => rfl
  have a4 : ∀ x1 x2 x3 x4 x5 x6 : D, atI [x1, x2, x3, x4, x5, x6] 4 = some x5 := fun _ _ _ _ _ _ => rfl
  simp only [runFn_2, Nat.reduceSub, List.reduceReplicate, nd, sSeq_ap, sAsg_ap, e2_ap, eVar_ap, List.getElem?_cons_zero, List.getElem?_cons_succ, varK_some, Out.bind_ok, e2K_ap, eCon_ap, opIx_t (a2 ..), opIx_t (a3 ..), opIx_t (a4 ..), toS_ok, asgK_nm, seqK_nx, List.set_cons_zero, List.set_cons_succ, sIf_ap, tBl_ap, e1_ap, opNeg_i, opEq_i, blK_ap]
  rcases h4 with rfl | ⟨h3, z, hz, h5, h6⟩
  · simp only [decide_true, ifK_t, sRet_ap, e1_ap, eVar_ap, List.getElem?_cons_zero, List.getElem?_cons_succ, varK_some, Out.bind_ok, opRg1_ap (show (0 : Int) ≤ s by omega) (by omega), toS_ok, seqK_ret, finK_ret, rgD_rg, cnts, if_true]
  · obtain ⟨h7, h8, h9⟩ := he _ hz
    have hg := hd _ hz
    have hlow : 0 ≤ env o * w ∧ env o * w ≤ 92 := by
      refine ⟨Int.mul_nonneg h7 (by omega), ?_⟩
      rcases h6 with h6 | h6
      · have : env o ≤ 23 := by simp only at h8 h9; omega
        calc env o * w ≤ 23 * w := Int.mul_le_mul_of_nonneg_right this (by omega)
          _ ≤ 92 := by omega
      · have : env o = 0 := by simp only at h7 h8; omega
        rw [this]; omega
    have hr : RgOk (env o * w) (mn (env o * w + w) s) := RgOk.of_le (by omega) (by unfold mn; split <;> omega) (by omega) (by unfold mn; split <;> omega)
    have hr' : RgOk (env o * w) (if s < env o * w + w then s else env o * w + w) := hr
    simp only [h3, decide_false, ifK_f, sNx_ap, seqK_nx, sSeq_ap, sAsg_ap, e2_ap, eVar_ap, List.getElem?_cons_zero, List.getElem?_cons_succ, varK_some, Out.bind_ok, e2K_ap, opIx_d hj hg, opMul_i (mulOk_l (p := env o) (q := w) (by simp only at h7 h8 h9; omega)), toS_ok, asgK_nm, List.set_cons_zero, List.set_cons_succ,
      sRet_ap, eN_ap, aCons_ap, opAdd_i, consK_ap, aNil_ap, fMin_i, opRg2_ap hr', seqK_ret, finK_ret, rgD_rg, cnts, if_neg h3]
    rfl
end K43
namespace K43
open PySem PySem.Spec PyProof.Rows L2 MM
/-- a dict of counts: its keys stand in U -/
def KOk (U : List Int) (kvs : List (D × D)) : Prop := (kvs.map (·.1)).Nodup ∧ ∀ p ∈ kvs, ∃ i ∈ U, p.1 = .int i
theorem KOk.len {U : List Int} {kvs : List (D × D)} (h : KOk U kvs) : kvs.length ≤ U.length := by
  have := nodup_le (xs := kvs.map (·.1)) (ys := U.map D.int) h.1 fun x hx => by
    obtain ⟨p, hp, rfl⟩ := List.mem_map.mp hx
    obtain ⟨i, hi, e⟩ := h.2 p hp
    exact List.mem_map.mpr ⟨i, hi, e.symm⟩
  simpa using this
theorem KOk.key {U : List Int} {kvs : List (D × D)} (h : KOk U kvs) (i : Int) : keyOk kvs (.int i) = true := by
  unfold keyOk
  cases kvs with
  | nil => rfl
  | cons p r =>
    obtain ⟨k, _, e⟩ := h.2 p (List.mem_cons_self ..)
    simp [e, fk]
theorem KOk.put {U : List Int} {kvs : List (D × D)} (h : KOk U kvs) {i : Int} (hi : i ∈ U) (v : D) : KOk U (dput kvs (.int i) v) := by
  refine ⟨dput_nodup h.1 _ _, fun p hp => ?_⟩
  rcases dput_mem hp with e | ⟨q, hq, e⟩
  · exact ⟨i, hi, e⟩
  · obtain ⟨k, hk, e2⟩ := h.2 q hq
    exact ⟨k, hk, by rw [← e, e2]⟩
theorem KOk.flat {U : List Int} {kvs : List (D × D)} (h : KOk U kvs) : kvs.all (fun p => (fk p.1).isSome) = true := List.all_eq_true.mpr fun p hp => by
  obtain ⟨k, _, e⟩ := h.2 p hp
  rw [e]; rfl
theorem DRel.put {S : Sc} {env : Env} {kvs : List (D × D)} (h : DRel S env kvs) {n s : Int} (hn : n ∉ S.map (·.1)) (v : Int) : DRel ((n, s) :: S) (upE env n v) (dput kvs (.int n) (.int v)) := by
  intro p hp
  rcases List.mem_cons.mp hp with rfl | hp
  · rw [dget_put_self]; simp [upE]
  · have hne : p.1 ≠ n := fun e => hn (e ▸ List.mem_map_of_mem hp)
    rw [dget_put_ne (by simpa using hne), h p hp]
    simp [upE, hne]
theorem EnvOk.put {S : Sc} {env : Env} (h : EnvOk S env) {n s v : Int} (hn : n ∉ S.map (·.1)) (h0 : 0 ≤ v) (h1 : v < s) (h2 : s ≤ 24) : EnvOk ((n, s) :: S) (upE env n v) := by
  intro p hp
  rcases List.mem_cons.mp hp with rfl | hp
  · simp [upE, h0, h1, h2]
  · have hne : p.1 ≠ n := fun e => hn (e ▸ List.mem_map_of_mem hp)
    simpa [upE, hne] using h p hp
theorem DRel.up {S : Sc} {env : Env} {n s v : Int} {kvs : List (D × D)} (hn : n ∉ S.map (·.1)) (h : DRel ((n, s) :: S) (upE env n v) kvs) : DRel S env kvs := by
  intro p hp
  have hne : p.1 ≠ n := fun e => hn (e ▸ List.mem_map_of_mem hp)
  have := h p (List.mem_cons_of_mem _ hp)
  simpa [upE, hne] using this
/-- what a walk's call leaves -/
structure Left (U : List Int) (S : Sc) (env : Env) (j : Nat) (μ μ' : MH) : Prop where
  d : ∃ kvs, μ'[j]? = some (.dict kvs false) ∧ KOk U kvs ∧ DRel S env kvs
  keep : ∀ i, i < μ.length → i ≠ j → μ'[i]? = μ[i]?
  len : μ.length ≤ μ'.length
theorem walk_take {env : Env} : ∀ (b : List Nd) (i : Nat) (x : Nd), b[i]? = some x → walk env (b.take (i + 1)) = walk env (b.take i) ++ walkN env x
  | y :: b, 0, x, h => by
    simp at h; subst h
    simp [walk]
  | y :: b, i + 1, x, h => by
    simp only [List.take_succ_cons, walk]
    rw [walk_take b i x (by simpa using h), List.append_assoc]
theorem nds_map : ∀ b : List Nd, nds b = b.map nd
  | [] => rfl
  | x :: xs => by rw [nds, nds_map xs]; rfl
theorem wf_mem {S : Sc} : ∀ {b : List Nd} {x : Nd}, wfL S b → x ∈ b → wfN S x
  | y :: b, x, h, hx => by
    rw [wfL] at h
    rcases List.mem_cons.mp hx with rfl | hx
    · exact h.1
    · exact wf_mem h.2 hx
theorem dep_mem : ∀ {b : List Nd} {x : Nd}, x ∈ b → depN x ≤ depL b
  | y :: b, x, hx => by
    rw [depL]
    rcases List.mem_cons.mp hx with rfl | hx
    · exact Nat.le_max_left _ _
    · exact Nat.le_trans (dep_mem hx) (Nat.le_max_right _ _)
theorem num_mem : ∀ {b : List Nd} {x : Nd}, x ∈ b → ∀ k ∈ numN x, k ∈ numL b
  | y :: b, x, hx, k, hk => by
    rw [numL]
    rcases List.mem_cons.mp hx with rfl | hx
    · exact List.mem_append_left _ hk
    · exact List.mem_append_right _ (num_mem hx k hk)
theorem walk_len {env : Env} : ∀ {b : List Nd} (i : Nat), (walk env (b.take i)).length ≤ (walk env b).length
  | [], i => by simp
  | x :: b, 0 => by simp [walk]
  | x :: b, i + 1 => by
    simp only [List.take_succ_cons, walk, List.length_append]
    have := walk_len (env := env) (b := b) i
    omega
theorem flat_take {α β : Type} {f : α → List β} : ∀ (cs : List α) (i : Nat) (c : α), cs[i]? = some c → (cs.take (i + 1)).flatMap f = (cs.take i).flatMap f ++ f c
  | y :: b, 0, x, h => by
    simp at h; subst h
    simp
  | y :: b, i + 1, x, h => by
    simp only [List.take_succ_cons, List.flatMap_cons]
    rw [flat_take b i x (by simpa using h), List.append_assoc]
theorem flat_len {α β : Type} {f : α → List β} : ∀ {cs : List α} (i : Nat), ((cs.take i).flatMap f).length ≤ (cs.flatMap f).length
  | [], i => by simp
  | x :: b, 0 => by simp
  | x :: b, i + 1 => by
    simp only [List.take_succ_cons, List.flatMap_cons, List.length_append]
    have := flat_len (f := f) (cs := b) i
    omega
theorem ln {k : Nat} {ks : List Int} {μ : MH} : ((isD ks).length = ks.length) := by unfold isD; simp
/-- a comprehension over numbers that looks at a dict -/
theorem look_ok {τ : MSt} {μ : MH} {v kd : Nat} {S : Sc} {env : Env} {kvs : List (D × D)} {j : Nat} {ks : List Int} {m : Mx} (hv : ∀ k : Int, eVar kd ((wipeM τ [v]).set v (some (.int k))) = fun μ => .ok (.ref j) μ) (hk : ∀ k : Int, eVar v ((wipeM τ [v]).set v (some (.int k))) = fun μ => .ok (.int k) μ)
    (hm : m τ μ = .ok (.tup (isD ks)) μ) (hj : μ[j]? = some (.dict kvs false)) (hd : DRel S env kvs) (hks : ∀ k ∈ ks, k ∈ S.map (·.1)) (hl : ks.length ≤ 1000) :
    eLc (iVal m) (.nm v) tYesM (e2 opIx (eVar kd) (eVar v)) [v] τ μ = .ok (.ref μ.length) (μ ++ [.lst (isD (ks.map env))]) := by
  have e := eLc_run (τ := τ) (μ := μ) (μ1 := μ) (it := iVal m) (t := .nm v) (c := tYesM) (e := e2 opIx (eVar kd) (eVar v)) (vs := [v]) (xs := isD ks) (still := fun _ => True) (f := fun d => match d with | .int k => .int (env k) | d => d)
    (by rw [iVal_ap, hm]; rfl) (fun _ => trivial) (by unfold isD; simp; omega) (fun x hx acc => ?_)
  · rw [e]
    unfold isD
    simp [List.map_map]
  · unfold isD at hx
    obtain ⟨k, hkm, rfl⟩ := List.mem_map.mp hx
    refine ⟨_, rfl, rfl, ?_⟩
    obtain ⟨p, hp, rfl⟩ := List.mem_map.mp (hks k hkm)
    have hj2 : (μ ++ [O.lst acc])[j]? = some (.dict kvs false) := by
      rw [List.getElem?_append_left (List.getElem?_eq_some_iff.mp hj).1]; exact hj
    simp only [e2_ap, hv, hk, e2K_ap, Out.bind_ok, opIx_d hj2 (hd p hp)]
end K43
namespace K43
open PySem PySem.Spec PyProof.Rows L2 MM
theorem getSome_lt {μ : MH} {i : Nat} {o : O} (h : μ[i]? = some o) : i < μ.length := (List.getElem?_eq_some_iff.mp h).1
theorem app_get {μ : MH} {i : Nat} {o : O} (x : O) (h : μ[i]? = some o) : (μ ++ [x])[i]? = some o := by rw [List.getElem?_append_left (getSome_lt h)]; exact h
theorem app_self {μ : MH} {x : O} : (μ ++ [x])[μ.length]? = some x := by simp
theorem set_self {μ : MH} {i : Nat} {o x : O} (h : μ[i]? = some o) : (μ.set i x)[i]? = some x := List.getElem?_set_self (getSome_lt h)
theorem set_ne {μ : MH} {i k : Nat} {o x : O} (hk : i ≠ k) (h : μ[k]? = some o) : (μ.set i x)[k]? = some o := by rw [List.getElem?_set_ne hk]; exact h
noncomputable abbrev sInner (n : Nat) : Ms := sSeq (sSub (eVar 7) (eVar 1) (e2 opIx (eVar 3) (eCon (.int 1))))
    (sEx (eMeth (onT .list mExtend) (eVar 2) (aCons (eN (Ph dep tab (n + 1) ("steps_within", none)) (aCons (e2 opIx (eVar 3) (eCon (.int 5))) (aCons (eVar 1) aNil))) aNil)))
theorem ix1 {a b c d e f : D} {μ : MH} : opIx (.tup [a, b, c, d, e, f]) (.int 1) μ = .ok b μ := rfl
theorem ix0 {a b c d e f : D} {μ : MH} : opIx (.tup [a, b, c, d, e, f]) (.int 0) μ = .ok a μ := rfl
theorem ix2 {a b c d e f : D} {μ : MH} : opIx (.tup [a, b, c, d, e, f]) (.int 2) μ = .ok c μ := rfl
theorem ix3 {a b c d e f : D} {μ : MH} : opIx (.tup [a, b, c, d, e, f]) (.int 3) μ = .ok d μ := rfl
theorem ix4 {a b c d e f : D} {μ : MH} : opIx (.tup [a, b, c, d, e, f]) (.int 4) μ = .ok e μ := rfl
theorem ix5 {a b c d e f : D} {μ : MH} : opIx (.tup [a, b, c, d, e, f]) (.int 5) μ = .ok f μ := rfl
/-- one count of a loop -/
theorem inner_ok {U : List Int} (hU : U.length < 1000) {n j r : Nat} {b : List Nd} {S : Sc} {env : Env} {num s w o c : Int} {bt x4 x5 x6 : Option D} {kvs : List (D × D)} {acc : List D} {μ : MH}
    (ih : ∀ (kvs : List (D × D)) (μ : MH), DRel ((num, s) :: S) (upE env num c) kvs → KOk U kvs → μ[j]? = some (.dict kvs false) →
      ∃ r μ', Ph dep tab (n + 1) ("steps_within", none) [.tup (nds b), .ref j] μ = .ok (.ref r) μ' ∧ μ.length ≤ r ∧ μ'[r]? = some (.lst (walk (upE env num c) b)) ∧ Left U ((num, s) :: S) (upE env num c) j μ μ')
    (hn : num ∉ S.map (·.1)) (hnU : num ∈ U) (hj : μ[j]? = some (.dict kvs false)) (hk : KOk U kvs) (hd : DRel S env kvs) (hr : μ[r]? = some (.lst acc)) (hjr : j ≠ r) (hl : acc.length + (walk (upE env num c) b).length < 1000000) :
    ∃ μ', sInner n [bt, some (.ref j), some (.ref r), some (nd (.loop num s w o b)), x4, x5, x6, some (.int c)] μ = .ok (.nx [bt, some (.ref j), some (.ref r), some (nd (.loop num s w o b)), x4, x5, x6, some (.int c)]) μ' ∧
      (∃ kvs, μ'[j]? = some (.dict kvs false) ∧ KOk U kvs ∧ DRel S env kvs) ∧ μ'[r]? = some (.lst (acc ++ walk (upE env num c) b)) ∧ (∀ i, i < μ.length → i ≠ j → i ≠ r → μ'[i]? = μ[i]?) ∧ μ.length ≤ μ'.length := by
  have h1 := set_self (x := .dict (dput kvs (.int num) (.int c)) false) hj
  have h2 := set_ne (x := .dict (dput kvs (.int num) (.int c)) false) hjr hr
  obtain ⟨r3, μ3, e3, l3, g3, L⟩ := ih _ _ (hd.put hn c) (hk.put hnU _) h1
  obtain ⟨kvs3, d1, d2, d3⟩ := L.d
  have h4 : μ3[r]? = some (.lst acc) := by rw [L.keep r (by rw [List.length_set]; exact getSome_lt hr) hjr.symm]; exact h2
  refine ⟨μ3.set r (.lst (acc ++ walk (upE env num c) b)), ?_, ⟨kvs3, set_ne hjr.symm d1, d2, d3.up hn⟩, set_self h4, fun i hi h5 h6 => ?_, ?_⟩
  · have hop := opSet_d (x := .int c) hj (hk.key num) (by have := hk.len; omega)
    have e1 : subK (eVar 1) (e2 opIx (eVar 3) (eCon (.int 1))) [bt, some (.ref j), some (.ref r), some (nd (.loop num s w o b)), x4, x5, x6, some (.int c)] (.int c) μ = .ok (.nx [bt, some (.ref j), some (.ref r), some (nd (.loop num s w o b)), x4, x5, x6, some (.int c)]) (μ.set j (.dict (dput kvs (.int num) (.int c)) false)) :=
      subK_ok (x := .ref j) (y := .int num) (μ1 := μ) (μ2 := μ) rfl rfl hop
    have e7 : eVar 7 [bt, some (.ref j), some (.ref r), some (nd (.loop num s w o b)), x4, x5, x6, some (.int c)] μ = .ok (.int c) μ := rfl
    have ev2 : ∀ μ, eVar 2 [bt, some (.ref j), some (.ref r), some (nd (.loop num s w o b)), x4, x5, x6, some (.int c)] μ = .ok (.ref r) μ := fun _ => rfl
    have e5 : ∀ μ, (e2 opIx (eVar 3) (eCon (.int 5))) [bt, some (.ref j), some (.ref r), some (nd (.loop num s w o b)), x4, x5, x6, some (.int c)] μ = .ok (.tup (nds b)) μ := fun _ => by
      simp only [e2_ap, eVar_ap, List.getElem?_cons_zero, List.getElem?_cons_succ, varK_some, Out.bind_ok, e2K_ap, eCon_ap, nd, ix5]
    simp only [sSeq_ap, sSub_ap, e7, toS_ok, e1, seqK_nx, sEx_ap, eMeth_ap, ev2, Out.bind_ok, methK_lst h2, aCons_ap, eN_ap, consK_ap, aNil_ap, e5, eVar_ap, List.getElem?_cons_zero, List.getElem?_cons_succ, varK_some, e3, mExtend_ap h4 g3 hl]
  · rw [List.getElem?_set_ne (Ne.symm h6), L.keep i (by rw [List.length_set]; exact hi) h5, List.getElem?_set_ne (Ne.symm h5)]
  · rw [List.length_set]
    exact Nat.le_trans (by rw [List.length_set]; exact Nat.le_refl _) L.len
end K43
namespace K43
open PySem PySem.Spec PyProof.Rows L2 MM
theorem nds_get {b : List Nd} {i : Nat} {x : D} (h : (nds b)[i]? = some x) : ∃ y, b[i]? = some y ∧ x = nd y := by
  rw [nds_map, List.getElem?_map] at h
  cases e : b[i]? with
  | none => rw [e] at h; cases h
  | some y => rw [e] at h; cases h; exact ⟨y, rfl, rfl⟩
theorem isD_get {b : List Int} {i : Nat} {x : D} (h : (isD b)[i]? = some x) : ∃ y, b[i]? = some y ∧ x = .int y := by
  unfold isD at h
  rw [List.getElem?_map] at h
  cases e : b[i]? with
  | none => rw [e] at h; cases h
  | some y => rw [e] at h; cases h; exact ⟨y, rfl, rfl⟩
theorem str_ne : (decide (("loop" : Str) = "deed")) = false := by decide
theorem Left.trans {U : List Int} {S : Sc} {env : Env} {j : Nat} {μ μ1 μ2 : MH} (a : Left U S env j μ μ1) (d : ∃ kvs, μ2[j]? = some (.dict kvs false) ∧ KOk U kvs ∧ DRel S env kvs) (keep : ∀ i, i < μ.length → i ≠ j → μ2[i]? = μ1[i]?) (len : μ1.length ≤ μ2.length) : Left U S env j μ μ2 :=
  ⟨d, fun i hi hj => (keep i hi hj).trans (a.keep i hi hj), Nat.le_trans a.len len⟩
noncomputable abbrev sOuter (n : Nat) : Ms := (sSeq (sIf (tBl (e2 opEq (e2 opIx (eVar 3) (eCon (.int 0))) (eCon (.str "deed")))) (sSeq (sAsg (eN fTuple (aCons (eLc (iVal (e2 opIx (eVar 3) (eCon (.int 4)))) (.nm 5) tYesM (e2 opIx (eVar 1) (eVar 5)) [5]) aNil)) (.nm 4))
    (sSeq (sAsg (eN fTuple (aCons (eLc (iVal (e2 opIx (eVar 3) (eCon (.int 5)))) (.nm 5) tYesM (e2 opIx (eVar 1) (eVar 5)) [5]) aNil)) (.nm 6))
    (sSeq (sEx (eMeth (onT .list mAppend) (eVar 2) (aCons (eTup (aCons (e2 opIx (eVar 3) (eCon (.int 2))) (aCons (e2 opIx (eVar 3) (eCon (.int 3))) (aCons (eVar 4) (aCons (eVar 6) aNil))))) aNil)))
    sCt))) sNx)
    (sFor (iVal (eN (Ph dep tab (n + 1) ("counts_of", none)) (aCons (eVar 3) (aCons (eVar 1) aNil)))) (.nm 7) (sInner n)))
theorem walk_ok {U : List Int} (hU : U.length < 1000) : ∀ (d n : Nat) (b : List Nd) (S : Sc) (env : Env) (kvs : List (D × D)) (j : Nat) (μ : MH), depL b ≤ d → d ≤ n → wfL S b → EnvOk S env → DRel S env kvs → KOk U kvs → (∀ k ∈ numL b, k ∈ U) → (walk env b).length < 900000 →
    μ[j]? = some (.dict kvs false) → ∃ r μ', Ph dep tab (n + 2) ("steps_within", none) [.tup (nds b), .ref j] μ = .ok (.ref r) μ' ∧ μ.length ≤ r ∧ μ'[r]? = some (.lst (walk env b)) ∧ Left U S env j μ μ' := by
  intro d
  induction d using Nat.strongRecOn with
  | ind d ihd =>
    intro n b S env kvs j μ hdb hdn hwf henv hd hk hnum hlen hj
    have hjl := getSome_lt hj
    let P : Nat → MSt → MH → Prop := fun i τ μ1 => (∃ x3 x4 x5 x6 x7, τ = [some (.tup (nds b)), some (.ref j), some (.ref μ.length), x3, x4, x5, x6, x7]) ∧ μ1[μ.length]? = some (.lst (walk env (b.take i))) ∧ Left U S env j μ μ1
    have hstart : P 0 [some (.tup (nds b)), some (.ref j), some (.ref μ.length), none, none, none, none, none] (μ ++ [.lst []]) :=
      ⟨⟨none, none, none, none, none, rfl⟩, by simp [walk], ⟨kvs, app_get _ hj, hk, hd⟩, fun i hi _ => List.getElem?_append_left hi, by simp⟩
    have hstep : ∀ i x τ μ1, (nds b)[i]? = some x → P i τ μ1 → ∃ τ1 τ2 μ2, bindT (.nm 3) x τ = some τ1 ∧ (sOuter n τ1 μ1 = .ok (.nx τ2) μ2 ∨ sOuter n τ1 μ1 = .ok (.ct τ2) μ2) ∧ P (i + 1) τ2 μ2 := by
      intro i x τ μ1 hx hp
      obtain ⟨y, hy, rfl⟩ := nds_get hx
      obtain ⟨⟨x3, x4, x5, x6, x7, rfl⟩, hr, hL⟩ := hp
      obtain ⟨kvs1, dj, dk, dd⟩ := hL.d
      have hym : y ∈ b := List.mem_of_getElem? hy
      have hwy := wf_mem hwf hym
      have hwt := walk_take (env := env) b i y hy
      have hwl := walk_len (env := env) (b := b) (i + 1)
      rw [hwt, List.length_append] at hwl
      cases y with
      | deed num line word own turn =>
        unfold wfN at hwy
        obtain ⟨w1, w2, w3, w4⟩ := hwy
        have c1 := look_ok (τ := [some (.tup (nds b)), some (.ref j), some (.ref μ.length), some (nd (.deed num line word own turn)), x4, x5, x6, x7]) (μ := μ1) (v := 5) (kd := 1) (S := S) (env := env) (kvs := kvs1) (j := j) (ks := own) (m := e2 opIx (eVar 3) (eCon (.int 4))) (fun _ => rfl) (fun _ => rfl) rfl dj dd w1 w3
        have c2 := look_ok (τ := [some (.tup (nds b)), some (.ref j), some (.ref μ.length), some (nd (.deed num line word own turn)), some (.tup (isD (own.map env))), x5, x6, x7]) (μ := μ1 ++ [.lst (isD (own.map env))]) (v := 5) (kd := 1) (S := S) (env := env) (kvs := kvs1) (j := j) (ks := turn) (m := e2 opIx (eVar 3) (eCon (.int 5))) (fun _ => rfl) (fun _ => rfl) rfl (app_get _ dj) dd w2 w4
        have g2 : (μ1 ++ [O.lst (isD (own.map env))] ++ [O.lst (isD (turn.map env))])[μ.length]? = some (.lst (walk env (b.take i))) := app_get _ (app_get _ hr)
        refine ⟨_, [some (.tup (nds b)), some (.ref j), some (.ref μ.length), some (nd (.deed num line word own turn)), some (.tup (isD (own.map env))), x5, some (.tup (isD (turn.map env))), x7], (μ1 ++ [O.lst (isD (own.map env))] ++ [O.lst (isD (turn.map env))]).set μ.length (.lst (walk env (b.take i) ++ [stp line word (own.map env) (turn.map env)])), rfl, .inr ?_, ⟨some (nd (.deed num line word own turn)), some (.tup (isD (own.map env))), x5, some (.tup (isD (turn.map env))), x7, rfl⟩, ?_, ?_⟩
        · simp only [sOuter, List.set_cons_zero, List.set_cons_succ, sSeq_ap, sIf_ap, tBl_ap, e2_ap, eVar_ap, List.getElem?_cons_zero, List.getElem?_cons_succ, varK_some, Out.bind_ok, e2K_ap, eCon_ap, nd, ix0, opEq_s, decide_true, blK_ap, toS_ok, ifK_t, sAsg_ap, eN_ap, aCons_ap] at c1 c2 ⊢
          simp only [c1, Out.bind_ok, consK_ap, aNil_ap, fTuple_l app_self, toS_ok, asgK_nm, List.set_cons_zero, List.set_cons_succ, seqK_nx, sSeq_ap, sAsg_ap, eN_ap, aCons_ap]
          simp only [c2, Out.bind_ok, consK_ap, aNil_ap, fTuple_l app_self, toS_ok, asgK_nm, List.set_cons_zero, List.set_cons_succ, seqK_nx, sSeq_ap, sEx_ap, eMeth_ap, eVar_ap, List.getElem?_cons_zero, List.getElem?_cons_succ, varK_some, methK_lst g2, aCons_ap, eTup_ap, e2_ap, e2K_ap, eCon_ap, ix2, ix3]
          rw [tupK_ok (by simp)]
          simp only [Out.bind_ok, consK_ap, aNil_ap, mAppend_ap g2 (by omega), toS_ok, seqK_nx, sCt_ap, seqK_ct]
          rfl
        · rw [set_self g2, hwt]
          rfl
        · refine hL.trans ⟨kvs1, set_ne (Nat.ne_of_gt hjl) (app_get _ (app_get _ dj)), dk, dd⟩ (fun k hk hkj => ?_) (by simp)
          have := hL.len
          rw [List.getElem?_set_ne (Nat.ne_of_gt hk), List.getElem?_append_left (by simp; omega), List.getElem?_append_left (by omega)]
      | loop num s w o bb =>
        have hdy := dep_mem hym
        have hny := num_mem hym
        have hwy2 := hwy
        unfold wfN at hwy
        obtain ⟨w1, w2, w3, w4, w5⟩ := hwy
        rw [depN] at hdy
        obtain ⟨n', rfl⟩ : ∃ n', n = n' + 1 := ⟨n - 1, by omega⟩
        have hrl := getSome_lt hr
        have hcs := counts_of_ok n' hwy2 henv dd dj
        have hcb := cnts_ok hwy2 henv
        rw [walkN] at hwl hwt
        generalize hcseq : cnts env s w o = cs at hcs hcb hwl hwt
        let P2 : Nat → MSt → MH → Prop := fun k τ μ2 => (∃ x7, τ = [some (.tup (nds b)), some (.ref j), some (.ref μ.length), some (nd (.loop num s w o bb)), x4, x5, x6, x7]) ∧ μ2[μ.length]? = some (.lst (walk env (b.take i) ++ (cs.take k).flatMap fun c => walk (upE env num c) bb)) ∧
          μ2[μ1.length]? = some (.lst (isD cs)) ∧ Left U S env j μ μ2
        have hstart2 : P2 0 [some (.tup (nds b)), some (.ref j), some (.ref μ.length), some (nd (.loop num s w o bb)), x4, x5, x6, x7] (μ1 ++ [.lst (isD cs)]) :=
          ⟨⟨x7, rfl⟩, by simpa using app_get (.lst (isD cs)) hr, app_self, hL.trans ⟨kvs1, app_get _ dj, dk, dd⟩ (fun k hk _ => List.getElem?_append_left (Nat.lt_of_lt_of_le hk hL.len)) (by simp)⟩
        have hstep2 : ∀ k x τ μ2, (isD cs)[k]? = some x → P2 k τ μ2 → ∃ τ1 τ2 μ3, bindT (.nm 7) x τ = some τ1 ∧ (sInner (n' + 1) τ1 μ2 = .ok (.nx τ2) μ3 ∨ sInner (n' + 1) τ1 μ2 = .ok (.ct τ2) μ3) ∧ P2 (k + 1) τ2 μ3 := by
          intro k x τ μ2 hx hp
          obtain ⟨c, hc, rfl⟩ := isD_get hx
          obtain ⟨⟨x7, rfl⟩, hr2, hc2, hL2⟩ := hp
          obtain ⟨kvs2, dj2, dk2, dd2⟩ := hL2.d
          have hft := flat_take (f := fun c => walk (upE env num c) bb) cs k c hc
          have hfl := flat_len (f := fun c => walk (upE env num c) bb) (cs := cs) (k + 1)
          rw [hft, List.length_append] at hfl
          obtain ⟨b0, b1⟩ := hcb c (List.mem_of_getElem? hc)
          obtain ⟨μ3, e3, e4, e5, e6, e7⟩ := inner_ok (num := num) (s := s) (w := w) (o := o) (b := bb) (bt := some (.tup (nds b))) (x4 := x4) (x5 := x5) (x6 := x6) (c := c) (env := env) (n := n' + 1) hU
            (fun kvs μ h1 h2 h3 => ihd (depL bb) (by omega) n' bb ((num, s) :: S) (upE env num c) kvs j μ (Nat.le_refl _) (by omega) w5 (henv.put w3 b0 b1 w2) h1 h2 (fun k hk => hnum k (hny k (by rw [numN]; exact List.mem_cons_of_mem _ hk))) (by omega) h3)
            w3 (hnum num (hny num (by rw [numN]; exact List.mem_cons_self ..))) dj2 dk2 dd2 hr2 (Nat.ne_of_lt hjl) (by simp only [List.length_append] at hfl ⊢; omega)
          refine ⟨_, _, μ3, rfl, .inl e3, ⟨_, rfl⟩, ?_, ?_, hL2.trans e4 (fun k hk hkj => e6 k (Nat.lt_of_lt_of_le hk hL2.len) hkj (Nat.ne_of_lt hk)) e7⟩
          · rw [e5, hft, List.append_assoc]
          · rw [e6 μ1.length (getSome_lt hc2) (Nat.ne_of_gt (getSome_lt dj)) (Nat.ne_of_gt hrl)]; exact hc2
        obtain ⟨τ2, μ2, hrun2, ⟨x7', rfl⟩, hr2, _, hL2⟩ := sFor_run (it := iVal (eN (Ph dep tab (n' + 1 + 1) ("counts_of", none)) (aCons (eVar 3) (aCons (eVar 1) aNil)))) (t := .nm 7) (b := sInner (n' + 1))
          (τ := [some (.tup (nds b)), some (.ref j), some (.ref μ.length), some (nd (.loop num s w o bb)), x4, x5, x6, x7]) (μ := μ1) (μ1 := μ1 ++ [.lst (isD cs)]) (xs := isD cs) (still := fun μ => μ[μ1.length]? = some (.lst (isD cs))) P2
          (by simp only [iVal_ap, eN_ap, aCons_ap, eVar_ap, List.getElem?_cons_zero, List.getElem?_cons_succ, varK_some, Out.bind_ok, consK_ap, aNil_ap, hcs, planV_l app_self]) (fun _ _ _ h => h.2.2.1) hstep2 hstart2
        refine ⟨_, [some (.tup (nds b)), some (.ref j), some (.ref μ.length), some (nd (.loop num s w o bb)), x4, x5, x6, x7'], μ2, rfl, .inl ?_, ⟨_, _, _, _, _, rfl⟩, ?_, hL2⟩
        · have hcond : tBl (e2 opEq (e2 opIx (eVar 3) (eCon (.int 0))) (eCon (.str "deed"))) [some (.tup (nds b)), some (.ref j), some (.ref μ.length), some (nd (.loop num s w o bb)), x4, x5, x6, x7] μ1 = .ok false μ1 := by
            simp only [tBl_ap, e2_ap, eVar_ap, List.getElem?_cons_zero, List.getElem?_cons_succ, varK_some, Out.bind_ok, e2K_ap, eCon_ap, nd, ix0, opEq_s, str_ne, blK_ap]
          simp only [sOuter, List.set_cons_zero, List.set_cons_succ, sSeq_ap, sIf_ap, hcond, toS_ok, ifK_f, sNx_ap, seqK_nx, hrun2]
        · rw [hr2, hwt]
          have : (isD cs).length = cs.length := by simp [isD]
          rw [this, List.take_length]
    obtain ⟨τ', μ', hrun, ⟨x3, x4, x5, x6, x7, rfl⟩, hr, hL⟩ := sFor_run (it := iVal (eVar 0)) (t := .nm 3) (b := sOuter n) (τ := [some (.tup (nds b)), some (.ref j), some (.ref μ.length), none, none, none, none, none]) (μ := μ ++ [.lst []]) (xs := nds b) (still := fun _ => True) P rfl (fun _ _ _ _ => trivial) hstep hstart
    refine ⟨μ.length, μ', ?_, Nat.le_refl _, ?_, hL⟩
    · rw [t_steps_within]
      simp only [runFn_2, Nat.reduceSub, List.reduceReplicate, sSeq_ap, sAsg_ap, eLst_ap, aNil_ap, Out.bind_ok, lstK_ok (show ([] : List D).length ≤ 100 by decide), toS_ok, asgK_nm, List.set_cons_zero, List.set_cons_succ, seqK_nx, hrun, sRet_ap, eVar_ap, List.getElem?_cons_zero, List.getElem?_cons_succ, varK_some, finK_ret]
    · rw [hr, nds_map, List.length_map, List.take_length]
end K43
namespace K43
open PySem PySem.Spec PyProof.Rows L2 MM
theorem steps_ok {U : List Int} {n : Nat} {b : List Nd} {beh : Int} {μ : MH} (hU : U.length < 1000) (hs : ∀ k ∈ numL b, k ∈ U) (hd : depL b ≤ n) (hw : wfL [] b) (hl : (walk (fun _ => 0) b).length < 900000) :
    ∃ r μ', Ph dep tab (n + 3) ("steps_of", none) [.tup [.int beh, .tup (nds b)]] μ = .ok (.ref r) μ' ∧ μ.length ≤ r ∧ μ'[r]? = some (.lst (walk (fun _ => 0) b)) ∧ (∀ i, i < μ.length → μ'[i]? = μ[i]?) ∧ μ.length ≤ μ'.length := by
  obtain ⟨r, μ', e, h1, h2, hL⟩ := walk_ok (U := U) hU (depL b) n b [] (fun _ => 0) [] μ.length (μ ++ [.dict [] false]) (Nat.le_refl _) hd hw (fun p hp => nomatch hp) (fun p hp => nomatch hp) ⟨List.nodup_nil, fun p hp => nomatch hp⟩ hs hl app_self
  refine ⟨r, μ', ?_, ?_, h2, fun i hi => ?_, ?_⟩
  · rw [show n + 3 = (n + 1) + 2 by omega, t_steps_of]
    have e1 : opIx (.tup [.int beh, .tup (nds b)]) (.int 1) μ = .ok (.tup (nds b)) μ := rfl
    simp only [runFn_1, Nat.reduceSub, List.reduceReplicate, sRet_ap, eN_ap, aCons_ap, e2_ap, eVar_ap, List.getElem?_cons_zero, varK_some, Out.bind_ok, e2K_ap, eCon_ap, e1, consK_ap, eDict0_ap, aNil_ap, e, toS_ok, finK_ret]
  · have := hL.len
    simp only [List.length_append, List.length_singleton] at h1
    omega
  · rw [hL.keep i (by simp; omega) (Nat.ne_of_lt hi), List.getElem?_append_left hi]
  · have := hL.len
    simp only [List.length_append, List.length_singleton] at this
    omega
/-! ### what the law builds -/
structure Hd where
  num : Int
  size : Int
  width : Int
  outer : Int
def hdD (h : Hd) : D := .tup [.str "loop", .int h.num, .int h.size, .int h.width, .int h.outer]
abbrev Way := List Int × Env
def hCnts (h : Hd) (e : Env) : List Int := cnts e h.size h.width h.outer
def waysIn (place : Int) (h : Hd) (ws : List Way) : List Way := ws.flatMap fun w => (hCnts h w.2).map fun c => (w.1 ++ [place, c], upE w.2 h.num c)
/-- a way, as it stands in the heap -/
def WayR (U : List Int) (M : List Nat) (μ : MH) (S : Sc) (x : D) (w : Way) : Prop := ∃ dr kvs, x = .tup [.tup (isD w.1), .ref dr] ∧ dr ∉ M ∧ μ[dr]? = some (.dict kvs false) ∧ KOk U kvs ∧ DRel S w.2 kvs
theorem WayR.mono {U : List Int} {M : List Nat} {μ μ' : MH} {S : Sc} {x : D} {w : Way} (h : WayR U M μ S x w) (k : ∀ i o, i ∉ M → μ[i]? = some o → μ'[i]? = some o) : WayR U M μ' S x w := by
  obtain ⟨dr, kvs, h1, h2, h3, h4⟩ := h
  exact ⟨dr, kvs, h1, h2, k _ _ h2 h3, h4⟩
/-- a head that fits the scope -/
def HdOk (S : Sc) (h : Hd) : Prop := 1 ≤ h.size ∧ h.size ≤ 24 ∧ h.num ∉ S.map (·.1) ∧ (h.outer = -1 ∨ (h.outer ≠ -1 ∧ ∃ z, (h.outer, z) ∈ S ∧ 1 ≤ h.width ∧ (h.width ≤ 4 ∨ z = 1)))
theorem HdOk.wf {S : Sc} {h : Hd} (a : HdOk S h) : wfN S (.loop h.num h.size h.width h.outer []) := by
  unfold wfN
  exact ⟨a.1, a.2.1, a.2.2.1, a.2.2.2, by unfold wfL; trivial⟩
theorem rng_isD {a b : Int} : (rngP a (b - a).toNat).items = isD (rg a b) := by
  unfold rngP isD rg
  rw [List.map_map]; rfl
noncomputable abbrev sCount : Ms := sSeq (sAsg (eN fDict (aCons (eVar 5) aNil)) (.nm 9))
    (sSeq (sSub (eVar 8) (eVar 9) (e2 opIx (eVar 2) (eCon (.int 1))))
    (sEx (eMeth (onT .list mAppend) (eVar 3) (aCons (eTup (aCons (e2 opAdd (eVar 4) (eTup (aCons (eVar 1) (aCons (eVar 8) aNil)))) (aCons (eVar 9) aNil))) aNil))))
theorem hx1 {a b c d e : D} {μ : MH} : opIx (.tup [a, b, c, d, e]) (.int 1) μ = .ok b μ := rfl
theorem hx2 {a b c d e : D} {μ : MH} : opIx (.tup [a, b, c, d, e]) (.int 2) μ = .ok c μ := rfl
theorem hx3 {a b c d e : D} {μ : MH} : opIx (.tup [a, b, c, d, e]) (.int 3) μ = .ok d μ := rfl
theorem hx4 {a b c d e : D} {μ : MH} : opIx (.tup [a, b, c, d, e]) (.int 4) μ = .ok e μ := rfl
/-- one count of one way -/
theorem count_ok {U : List Int} (hU : U.length < 1000) {M : List Nat} {S : Sc} {h : Hd} {w : Way} {x : D} {wr mr : Nat} {place c : Int} {x6 x7 x9 : Option D} {xs : List D} {μ : MH} (hr : WayR U M μ S x w) (hm : μ[mr]? = some (.lst xs)) (hl : xs.length < 900000) (hn : h.num ∉ S.map (·.1)) (hnU : h.num ∈ U) (hM : ∀ i ∈ M, i < μ.length) (hw : w.1.length < 1000) :
    ∃ dr y x', x = .tup [.tup (isD w.1), .ref dr] ∧ sCount [some (.ref wr), some (.int place), some (hdD h), some (.ref mr), some (.tup (isD w.1)), some (.ref dr), x6, x7, some (.int c), x9] μ =
        .ok (.nx [some (.ref wr), some (.int place), some (hdD h), some (.ref mr), some (.tup (isD w.1)), some (.ref dr), x6, x7, some (.int c), some y]) x' ∧
      ∃ z, x'[mr]? = some (.lst (xs ++ [z])) ∧ WayR U M x' ((h.num, h.size) :: S) z (w.1 ++ [place, c], upE w.2 h.num c) ∧ (∀ i, i < μ.length → i ≠ mr → x'[i]? = μ[i]?) ∧ μ.length ≤ x'.length := by
  obtain ⟨dr, kvs, rfl, h2, h3, h4, h5⟩ := hr
  have hml := getSome_lt hm
  let μ1 : MH := μ ++ [.dict kvs false]
  let k2 := dput kvs (.int h.num) (.int c)
  let μ2 : MH := μ1.set μ.length (.dict k2 false)
  have g2 : μ2[μ.length]? = some (.dict k2 false) := set_self (μ := μ1) app_self
  have gm : μ2[mr]? = some (.lst xs) := set_ne (Nat.ne_of_gt hml) (app_get _ hm)
  refine ⟨dr, .ref μ.length, μ2.set mr (.lst (xs ++ [.tup [.tup (isD (w.1 ++ [place, c])), .ref μ.length]])), rfl, ?_, _, set_self gm, ⟨μ.length, k2, rfl, fun z => absurd (hM _ z) (Nat.lt_irrefl _), set_ne (Nat.ne_of_lt hml) g2, h4.put hnU _, h5.put hn c⟩, fun i hi hne => ?_, by simp [μ2, μ1]⟩
  · have e1 : subK (eVar 9) (e2 opIx (eVar 2) (eCon (.int 1))) [some (.ref wr), some (.int place), some (hdD h), some (.ref mr), some (.tup (isD w.1)), some (.ref dr), x6, x7, some (.int c), some (.ref μ.length)] (.int c) μ1 = .ok (.nx [some (.ref wr), some (.int place), some (hdD h), some (.ref mr), some (.tup (isD w.1)), some (.ref dr), x6, x7, some (.int c), some (.ref μ.length)]) μ2 :=
      subK_ok (x := .ref μ.length) (y := .int h.num) (μ1 := μ1) (μ2 := μ1) rfl rfl (opSet_d app_self (h4.key _) (by have := h4.len; omega))
    simp only [sCount, sSeq_ap, sAsg_ap, eN_ap, aCons_ap, eVar_ap, List.getElem?_cons_zero, List.getElem?_cons_succ, varK_some, Out.bind_ok, consK_ap, aNil_ap, fDict_ap h3 h4.flat, toS_ok, asgK_nm, List.set_cons_zero, List.set_cons_succ, seqK_nx, sSub_ap]
    rw [show μ ++ [O.dict kvs false] = μ1 from rfl]
    simp only [e1, seqK_nx, sEx_ap, eMeth_ap, eVar_ap, List.getElem?_cons_zero, List.getElem?_cons_succ, varK_some, Out.bind_ok, methK_lst gm, aCons_ap, eTup_ap, e2_ap, e2K_ap, consK_ap, aNil_ap]
    rw [tupK_ok (by simp)]
    simp only [Out.bind_ok]
    rw [opAdd_t (by simp [isD]; omega)]
    simp only [Out.bind_ok, consK_ap, aNil_ap, aCons_ap, eVar_ap, List.getElem?_cons_zero, List.getElem?_cons_succ, varK_some]
    rw [tupK_ok (by simp)]
    simp only [Out.bind_ok, consK_ap, aNil_ap, mAppend_ap gm (by omega), toS_ok]
    simp [isD]
  · rw [List.getElem?_set_ne (Ne.symm hne), List.getElem?_set_ne (Nat.ne_of_gt hi), List.getElem?_append_left hi]
end K43
namespace K43
open PySem PySem.Spec PyProof.Rows L2 MM
noncomputable abbrev sLow : Ms := (sIf (tBl (e2 opNe (e2 opIx (eVar 2) (eCon (.int 4))) (e1 opNeg (eCon (.int 1))))) (sSeq (sAsg (e2 opMul (e2 opIx (eVar 5) (e2 opIx (eVar 2) (eCon (.int 4)))) (e2 opIx (eVar 2) (eCon (.int 3)))) (.nm 6))
    (sAsg (eN fMin (aCons (e2 opAdd (eVar 6) (e2 opIx (eVar 2) (eCon (.int 3)))) (aCons (eVar 7) aNil))) (.nm 7))) sNx)
theorem low_ok {S : Sc} {env : Env} {h : Hd} {kvs : List (D × D)} {dr : Nat} {μ : MH} {x0 x1 x3 x4 x8 x9 : Option D} (hh : HdOk S h) (he : EnvOk S env) (hd : DRel S env kvs) (hj : μ[dr]? = some (.dict kvs false)) :
    ∃ lo hi, sLow [x0, x1, some (hdD h), x3, x4, some (.ref dr), some (.int 0), some (.int h.size), x8, x9] μ = .ok (.nx [x0, x1, some (hdD h), x3, x4, some (.ref dr), some (.int lo), some (.int hi), x8, x9]) μ ∧ okR lo = true ∧ okR hi = true ∧ rg lo hi = hCnts h env := by
  obtain ⟨h1, h2, _, h4⟩ := hh
  have okr : ∀ i : Int, -1000 < i → i < 1000 → okR i = true := fun i a b => by unfold okR; exact decide_eq_true (by omega)
  simp only [sLow, sIf_ap, tBl_ap, e2_ap, eVar_ap, List.getElem?_cons_zero, List.getElem?_cons_succ, varK_some, Out.bind_ok, e2K_ap, eCon_ap, hdD, hx4, hx3, e1_ap, opNeg_i, opNe_i, blK_ap, toS_ok]
  rcases h4 with h4 | ⟨h3, z, hz, h5, h6⟩
  · refine ⟨0, h.size, ?_, okr _ (by omega) (by omega), okr _ (by omega) (by omega), by unfold hCnts cnts; rw [if_pos h4]⟩
    simp only [h4, decide_true, Bool.not_true, ifK_f, sNx_ap]
  · obtain ⟨h7, h8, h9⟩ := he _ hz
    have hg := hd _ hz
    have hlow : 0 ≤ env h.outer * h.width ∧ env h.outer * h.width ≤ 92 := by
      refine ⟨Int.mul_nonneg h7 (by omega), ?_⟩
      rcases h6 with h6 | h6
      · have : env h.outer ≤ 23 := by simp only at h8 h9; omega
        calc env h.outer * h.width ≤ 23 * h.width := Int.mul_le_mul_of_nonneg_right this (by omega)
          _ ≤ 92 := by omega
      · have : env h.outer = 0 := by simp only at h7 h8; omega
        rw [this]; omega
    have hm : -1000 < mn (env h.outer * h.width + h.width) h.size ∧ mn (env h.outer * h.width + h.width) h.size < 1000 := by unfold mn; split <;> omega
    refine ⟨env h.outer * h.width, mn (env h.outer * h.width + h.width) h.size, ?_, okr _ (by omega) (by omega), okr _ hm.1 hm.2, by unfold hCnts cnts; rw [if_neg h3]⟩
    simp only [h3, decide_false, Bool.not_false, ifK_t, sSeq_ap, sAsg_ap, e2_ap, eVar_ap, List.getElem?_cons_zero, List.getElem?_cons_succ, varK_some, Out.bind_ok, e2K_ap, eCon_ap, hx4, hx3, opIx_d hj hg, opMul_i (mulOk_l (p := env h.outer) (q := h.width) (by simp only at h7 h8 h9; omega)), toS_ok, asgK_nm, List.set_cons_zero, List.set_cons_succ, seqK_nx,
      eN_ap, aCons_ap, opAdd_i, consK_ap, aNil_ap, fMin_i]
    rfl
theorem paired_getl {α β : Type} {R : α → β → Prop} : ∀ {xs : List α} {ys : List β} {i : Nat} {x : α}, Paired R xs ys → xs[i]? = some x → ∃ y, ys[i]? = some y ∧ R x y
  | _, _, _, _, .nil, h => by simp at h
  | _, _, 0, _, .cons r _, h => by simp at h; subst h; exact ⟨_, rfl, r⟩
  | _, _, i + 1, x, .cons _ t, h => by
    obtain ⟨y, h1, h2⟩ := paired_getl (i := i) (x := x) t (by simpa using h)
    exact ⟨y, by simpa using h1, h2⟩
theorem paired_app {α β : Type} {R : α → β → Prop} : ∀ {xs xs' : List α} {ys ys' : List β}, Paired R xs ys → Paired R xs' ys' → Paired R (xs ++ xs') (ys ++ ys')
  | _, _, _, _, .nil, h => h
  | _, _, _, _, .cons r t, h => .cons r (paired_app t h)
theorem ways_ok {U : List Int} (hU : U.length < 1000) {M : List Nat} {S : Sc} {h : Hd} {ws : List Way} {xs : List D} {wr : Nat} {place : Int} {μ : MH} (n : Nat) (hw : μ[wr]? = some (.lst xs)) (hp : Paired (WayR U M μ S) xs ws) (hM : ∀ i ∈ M, i < μ.length) (hh : HdOk S h) (hnU : h.num ∈ U)
    (he : ∀ w ∈ ws, EnvOk S w.2 ∧ w.1.length < 1000) (hl : (waysIn place h ws).length < 900000) :
    ∃ r μ' ys, Ph dep tab (n + 2) ("_law_ways_within", none) [.ref wr, .int place, hdD h] μ = .ok (.ref r) μ' ∧ r = μ.length ∧ μ'[r]? = some (.lst ys) ∧ Paired (WayR U M μ' ((h.num, h.size) :: S)) ys (waysIn place h ws) ∧ (∀ i, i < μ.length → μ'[i]? = μ[i]?) ∧ μ.length ≤ μ'.length := by
  have hwl := getSome_lt hw
  have hlen := hp.length
  let g : Way → List Way := fun w => (hCnts h w.2).map fun c => (w.1 ++ [place, c], upE w.2 h.num c)
  let P : Nat → MSt → MH → Prop := fun i τ μ1 => (∃ x4 x5 x6 x7 x8 x9, τ = [some (.ref wr), some (.int place), some (hdD h), some (.ref μ.length), x4, x5, x6, x7, x8, x9]) ∧ (∃ ys, μ1[μ.length]? = some (.lst ys) ∧ Paired (WayR U M μ1 ((h.num, h.size) :: S)) ys ((ws.take i).flatMap g)) ∧ (∀ i, i < μ.length → μ1[i]? = μ[i]?) ∧ μ.length ≤ μ1.length
  have up : ∀ {μ1 μ2 : MH}, (∀ i, i < μ1.length → i ≠ μ.length → μ2[i]? = μ1[i]?) → μ.length ∈ M ∨ (∀ i o, i ∉ M → i ≠ μ.length → μ1[i]? = some o → μ2[i]? = some o) := fun k => .inr fun i o _ hi e => by rw [k i (getSome_lt e) hi]; exact e
  have hstart : P 0 [some (.ref wr), some (.int place), some (hdD h), some (.ref μ.length), none, none, none, none, none, none] (μ ++ [.lst []]) :=
    ⟨⟨_, _, _, _, _, _, rfl⟩, ⟨[], app_self, .nil⟩, fun i hi => List.getElem?_append_left hi, by simp⟩
  have hstep : ∀ i x τ μ1, xs[i]? = some x → P i τ μ1 → ∃ τ1 τ2 μ2, bindT (.tp [4, 5]) x τ = some τ1 ∧ (sSeq (sAsg (eCon (.int 0)) (.nm 6)) (sSeq (sAsg (e2 opIx (eVar 2) (eCon (.int 2))) (.nm 7)) (sSeq sLow (sFor (iA kRng2 (aCons (eVar 6) (aCons (eVar 7) aNil))) (.nm 8) sCount))) τ1 μ1 = .ok (.nx τ2) μ2 ∨
      sSeq (sAsg (eCon (.int 0)) (.nm 6)) (sSeq (sAsg (e2 opIx (eVar 2) (eCon (.int 2))) (.nm 7)) (sSeq sLow (sFor (iA kRng2 (aCons (eVar 6) (aCons (eVar 7) aNil))) (.nm 8) sCount))) τ1 μ1 = .ok (.ct τ2) μ2) ∧ P (i + 1) τ2 μ2 := by
    intro i x τ μ1 hx hpp
    obtain ⟨⟨x4, x5, x6, x7, x8, x9, rfl⟩, ⟨ys, hys, hpy⟩, hk, hle⟩ := hpp
    obtain ⟨w, hw1, dr, kvs, rfl, q2, q3, q4, q5⟩ := paired_getl hp hx
    obtain ⟨hew, hml⟩ := he w (List.mem_of_getElem? hw1)
    have q3' : μ1[dr]? = some (.dict kvs false) := by rw [hk dr (getSome_lt q3)]; exact q3
    obtain ⟨lo, hi, el, ok1, ok2, erg⟩ := low_ok (x0 := some (.ref wr)) (x1 := some (.int place)) (x3 := some (.ref μ.length)) (x4 := some (.tup (isD w.1))) (x8 := x8) (x9 := x9) hh hew q5 q3'
    have hft := flat_take (f := g) ws i w hw1
    have hfl := flat_len (f := g) (cs := ws) (i + 1)
    have hfl2 : (ws.flatMap g).length < 900000 := hl
    rw [hft, List.length_append] at hfl
    have hgl : (g w).length = (hCnts h w.2).length := by simp [g]
    let P2 : Nat → MSt → MH → Prop := fun k τ μ2 => (∃ x8 x9, τ = [some (.ref wr), some (.int place), some (hdD h), some (.ref μ.length), some (.tup (isD w.1)), some (.ref dr), some (.int lo), some (.int hi), x8, x9]) ∧
      (∃ zs, μ2[μ.length]? = some (.lst zs) ∧ Paired (WayR U M μ2 ((h.num, h.size) :: S)) zs ((ws.take i).flatMap g ++ (g w).take k)) ∧ (∀ i, i < μ.length → μ2[i]? = μ[i]?) ∧ μ.length ≤ μ2.length
    have hstart2 : P2 0 [some (.ref wr), some (.int place), some (hdD h), some (.ref μ.length), some (.tup (isD w.1)), some (.ref dr), some (.int lo), some (.int hi), x8, x9] μ1 := ⟨⟨_, _, rfl⟩, ⟨ys, hys, by simpa using hpy⟩, hk, hle⟩
    have hstep2 : ∀ k x τ μ2, (isD (hCnts h w.2))[k]? = some x → P2 k τ μ2 → ∃ τ1 τ2 μ3, bindT (.nm 8) x τ = some τ1 ∧ (sCount τ1 μ2 = .ok (.nx τ2) μ3 ∨ sCount τ1 μ2 = .ok (.ct τ2) μ3) ∧ P2 (k + 1) τ2 μ3 := by
      intro k x τ μ2 hx2 hp2
      obtain ⟨c, hc, rfl⟩ := isD_get hx2
      obtain ⟨⟨x8, x9, rfl⟩, ⟨zs, hzs, hpz⟩, hk2, hle2⟩ := hp2
      have hzl := hpz.length
      have q3'' : μ2[dr]? = some (.dict kvs false) := by rw [hk2 dr (getSome_lt q3)]; exact q3
      have hkl : k < (hCnts h w.2).length := (List.getElem?_eq_some_iff.mp hc).1
      rw [List.length_append, List.length_take] at hzl
      obtain ⟨dr', y, μ3, ex, e1, z, hz1, hz2, hz3, hz4⟩ := count_ok (x := .tup [.tup (isD w.1), .ref dr]) (wr := wr) (mr := μ.length) (place := place) (c := c) (x6 := some (.int lo)) (x7 := some (.int hi)) (x9 := x9) (xs := zs) (h := h) hU ⟨dr, kvs, rfl, q2, q3'', q4, q5⟩ hzs (by omega) hh.2.2.1 hnU (fun i hi => Nat.lt_of_lt_of_le (hM i hi) hle2) hml
      have : dr' = dr := by simp at ex; exact ex.symm
      subst this
      have hgk : (g w)[k]? = some (w.1 ++ [place, c], upE w.2 h.num c) := by
        show ((hCnts h w.2).map _)[k]? = _
        rw [List.getElem?_map, hc]; rfl
      have hne : ∀ j ∈ M, j ≠ μ.length := fun j hj => Nat.ne_of_lt (hM j hj)
      refine ⟨_, _, μ3, rfl, .inl e1, ⟨_, _, rfl⟩, ⟨_, hz1, ?_⟩, fun j hj => (hz3 j (Nat.lt_of_lt_of_le hj hle2) (Nat.ne_of_lt hj)).trans (hk2 j hj), Nat.le_trans hle2 hz4⟩
      rw [show (g w).take (k + 1) = (g w).take k ++ [(w.1 ++ [place, c], upE w.2 h.num c)] by rw [List.take_add_one, hgk]; rfl, ← List.append_assoc]
      refine Paired.snoc (PySem.Paired.mono (fun a b hab => ?_) hpz) hz2
      obtain ⟨d1, k1, r1, r2, r3, r4⟩ := hab
      have : d1 ≠ μ.length := fun e => by rw [e, hzs] at r3; cases r3
      exact ⟨d1, k1, r1, r2, by rw [hz3 d1 (getSome_lt r3) this]; exact r3, r4⟩
    obtain ⟨τ2, μ2, hrun2, ⟨x8', x9', rfl⟩, ⟨zs, hzs, hpz⟩, hk2, hle2⟩ := sFor_run (it := iA kRng2 (aCons (eVar 6) (aCons (eVar 7) aNil))) (t := .nm 8) (b := sCount) (τ := [some (.ref wr), some (.int place), some (hdD h), some (.ref μ.length), some (.tup (isD w.1)), some (.ref dr), some (.int lo), some (.int hi), x8, x9]) (μ := μ1) (μ1 := μ1)
      (xs := isD (hCnts h w.2)) (still := fun _ => True) P2 (by
        simp only [iA_ap, aCons_ap, eVar_ap, List.getElem?_cons_zero, List.getElem?_cons_succ, varK_some, Out.bind_ok, consK_ap, aNil_ap, kRng2_ap ok1 ok2]
        rw [← erg, ← rng_isD]; rfl) (fun _ _ _ _ => trivial) hstep2 hstart2
    refine ⟨_, [some (.ref wr), some (.int place), some (hdD h), some (.ref μ.length), some (.tup (isD w.1)), some (.ref dr), some (.int lo), some (.int hi), x8', x9'], μ2, rfl, .inl ?_, ⟨_, _, _, _, _, _, rfl⟩, ⟨zs, hzs, ?_⟩, hk2, hle2⟩
    · simp only [List.set_cons_zero, List.set_cons_succ, sSeq_ap, sAsg_ap, eCon_ap, toS_ok, asgK_nm, seqK_nx, e2_ap, eVar_ap, List.getElem?_cons_zero, List.getElem?_cons_succ, varK_some, Out.bind_ok, e2K_ap]
      rw [show opIx (hdD h) (.int 2) μ1 = .ok (.int h.size) μ1 from rfl]
      simp only [toS_ok, asgK_nm, seqK_nx, List.set_cons_zero, List.set_cons_succ, sSeq_ap, el, hrun2]
    · rw [hft]
      have : (isD (hCnts h w.2)).length = (g w).length := by rw [hgl]; simp [isD]
      rw [this, List.take_length] at hpz
      exact hpz
  obtain ⟨τ', μ', hrun, ⟨x4, x5, x6, x7, x8, x9, rfl⟩, ⟨ys, hys, hpy⟩, hk, hle⟩ := sFor_run (it := iVal (eVar 0)) (t := .tp [4, 5]) (b := sSeq (sAsg (eCon (.int 0)) (.nm 6)) (sSeq (sAsg (e2 opIx (eVar 2) (eCon (.int 2))) (.nm 7)) (sSeq sLow (sFor (iA kRng2 (aCons (eVar 6) (aCons (eVar 7) aNil))) (.nm 8) sCount))))
    (τ := [some (.ref wr), some (.int place), some (hdD h), some (.ref μ.length), none, none, none, none, none, none]) (μ := μ ++ [.lst []]) (μ1 := μ ++ [.lst []]) (xs := xs) (still := fun μ => μ[wr]? = some (.lst xs)) P (by
      simp only [iVal_ap, eVar_ap, List.getElem?_cons_zero, varK_some, Out.bind_ok, planV_l (app_get _ hw)]) (fun _ _ μ2 h => by rw [h.2.2.1 wr hwl]; exact hw) hstep hstart
  refine ⟨μ.length, μ', ys, ?_, rfl, hys, ?_, hk, hle⟩
  · rw [t_law_ways_within]
    simp only [runFn_3, Nat.reduceSub, List.reduceReplicate, sSeq_ap, sAsg_ap, eLst_ap, aNil_ap, Out.bind_ok, lstK_ok (show ([] : List D).length ≤ 100 by decide), toS_ok, asgK_nm, List.set_cons_zero, List.set_cons_succ, seqK_nx]
    rw [hrun]
    simp only [seqK_nx, sRet_ap, eVar_ap, List.getElem?_cons_zero, List.getElem?_cons_succ, varK_some, toS_ok, finK_ret]
  · rw [hlen, List.take_length] at hpy
    exact hpy
end K43
namespace K43
open PySem PySem.Spec PyProof.Rows L2 MM
/-! ### rows of a deed -/
def rowD (r : List Int × D) : D := .tup [.tup (isD r.1), r.2]
def rowsIn (place line : Int) (word : Str) (own turn : List Int) (ws : List Way) : List (List Int × D) := ws.map fun w => (w.1 ++ [place], stp line word (own.map w.2) (turn.map w.2))
noncomputable abbrev sRow : Ms := sSeq (sAsg (eN fTuple (aCons (eLc (iVal (e2 opIx (eVar 2) (eCon (.int 4)))) (.nm 7) tYesM (e2 opIx (eVar 5) (eVar 7)) [7]) aNil)) (.nm 6))
    (sSeq (sAsg (eN fTuple (aCons (eLc (iVal (e2 opIx (eVar 2) (eCon (.int 5)))) (.nm 7) tYesM (e2 opIx (eVar 5) (eVar 7)) [7]) aNil)) (.nm 8))
    (sEx (eMeth (onT .list mAppend) (eVar 3) (aCons (eTup (aCons (e2 opAdd (eVar 4) (eTup (aCons (eVar 1) aNil))) (aCons (eTup (aCons (e2 opIx (eVar 2) (eCon (.int 2))) (aCons (e2 opIx (eVar 2) (eCon (.int 3))) (aCons (eVar 6) (aCons (eVar 8) aNil))))) aNil))) aNil))))
theorem rows_ok {U : List Int} {M : List Nat} {S : Sc} {ws : List Way} {xs : List D} {wr : Nat} {num line place : Int} {word : Str} {own turn : List Int} {μ : MH} (n : Nat) (hw : μ[wr]? = some (.lst xs)) (hp : Paired (WayR U M μ S) xs ws)
    (ho : ∀ k ∈ own, k ∈ S.map (·.1)) (ht : ∀ k ∈ turn, k ∈ S.map (·.1)) (hol : own.length ≤ 1000) (htl : turn.length ≤ 1000) (he : ∀ w ∈ ws, w.1.length < 1000) (hl : ws.length < 900000) :
    ∃ μ', Ph dep tab (n + 2) ("_law_rows_of", none) [.ref wr, .int place, nd (.deed num line word own turn)] μ = .ok (.ref μ.length) μ' ∧ μ'[μ.length]? = some (.lst ((rowsIn place line word own turn ws).map rowD)) ∧ (∀ i, i < μ.length → μ'[i]? = μ[i]?) ∧ μ.length ≤ μ'.length := by
  have hwl := getSome_lt hw
  have hlen := hp.length
  let dd := nd (.deed num line word own turn)
  let P : Nat → MSt → MH → Prop := fun i τ μ1 => (∃ x4 x5 x6 x7 x8, τ = [some (.ref wr), some (.int place), some dd, some (.ref μ.length), x4, x5, x6, x7, x8]) ∧ μ1[μ.length]? = some (.lst (((rowsIn place line word own turn ws).take i).map rowD)) ∧ (∀ i, i < μ.length → μ1[i]? = μ[i]?) ∧ μ.length ≤ μ1.length
  have hstart : P 0 [some (.ref wr), some (.int place), some dd, some (.ref μ.length), none, none, none, none, none] (μ ++ [.lst []]) :=
    ⟨⟨_, _, _, _, _, rfl⟩, app_self, fun i hi => List.getElem?_append_left hi, by simp⟩
  have hstep : ∀ i x τ μ1, xs[i]? = some x → P i τ μ1 → ∃ τ1 τ2 μ2, bindT (.tp [4, 5]) x τ = some τ1 ∧ (sRow τ1 μ1 = .ok (.nx τ2) μ2 ∨ sRow τ1 μ1 = .ok (.ct τ2) μ2) ∧ P (i + 1) τ2 μ2 := by
    intro i x τ μ1 hx hpp
    obtain ⟨⟨x4, x5, x6, x7, x8, rfl⟩, hm, hk, hle⟩ := hpp
    obtain ⟨w, hw1, dr, kvs, rfl, q2, q3, q4, q5⟩ := paired_getl hp hx
    have hml := he w (List.mem_of_getElem? hw1)
    have q3' : μ1[dr]? = some (.dict kvs false) := by rw [hk dr (getSome_lt q3)]; exact q3
    have hil : i < ws.length := (List.getElem?_eq_some_iff.mp hw1).1
    have c1 := look_ok (τ := [some (.ref wr), some (.int place), some dd, some (.ref μ.length), some (.tup (isD w.1)), some (.ref dr), x6, x7, x8]) (μ := μ1) (v := 7) (kd := 5) (S := S) (env := w.2) (kvs := kvs) (j := dr) (ks := own) (m := e2 opIx (eVar 2) (eCon (.int 4))) (fun _ => rfl) (fun _ => rfl) rfl q3' q5 ho hol
    have c2 := look_ok (τ := [some (.ref wr), some (.int place), some dd, some (.ref μ.length), some (.tup (isD w.1)), some (.ref dr), some (.tup (isD (own.map w.2))), x7, x8]) (μ := μ1 ++ [.lst (isD (own.map w.2))]) (v := 7) (kd := 5) (S := S) (env := w.2) (kvs := kvs) (j := dr) (ks := turn) (m := e2 opIx (eVar 2) (eCon (.int 5))) (fun _ => rfl) (fun _ => rfl) rfl (app_get _ q3') q5 ht htl
    have g2 : (μ1 ++ [O.lst (isD (own.map w.2))] ++ [O.lst (isD (turn.map w.2))])[μ.length]? = some (.lst (((rowsIn place line word own turn ws).take i).map rowD)) := app_get _ (app_get _ hm)
    refine ⟨_, [some (.ref wr), some (.int place), some dd, some (.ref μ.length), some (.tup (isD w.1)), some (.ref dr), some (.tup (isD (own.map w.2))), x7, some (.tup (isD (turn.map w.2)))], (μ1 ++ [O.lst (isD (own.map w.2))] ++ [O.lst (isD (turn.map w.2))]).set μ.length (.lst (((rowsIn place line word own turn ws).take i).map rowD ++ [.tup [.tup (isD (w.1 ++ [place])), stp line word (own.map w.2) (turn.map w.2)]])), rfl, .inl ?_, ⟨_, _, _, _, _, rfl⟩, ?_, fun k hk2 => ?_, by simp; omega⟩
    · simp only [sRow, List.set_cons_zero, List.set_cons_succ, sSeq_ap, sAsg_ap, eN_ap, aCons_ap, c1, Out.bind_ok, consK_ap, aNil_ap, fTuple_l app_self, toS_ok, asgK_nm, seqK_nx]
      simp only [c2, Out.bind_ok, consK_ap, aNil_ap, fTuple_l app_self, toS_ok, asgK_nm, List.set_cons_zero, List.set_cons_succ, seqK_nx, sEx_ap, eMeth_ap, eVar_ap, List.getElem?_cons_zero, List.getElem?_cons_succ, varK_some, methK_lst g2, aCons_ap, eTup_ap, e2_ap, e2K_ap]
      rw [tupK_ok (by simp)]
      simp only [Out.bind_ok]
      rw [opAdd_t (by simp [isD]; omega)]
      simp only [Out.bind_ok, consK_ap, aNil_ap, aCons_ap, eVar_ap, List.getElem?_cons_zero, List.getElem?_cons_succ, varK_some, eTup_ap, e2_ap, e2K_ap, eCon_ap, dd, nd, ix2, ix3]
      rw [tupK_ok (by simp)]
      simp only [Out.bind_ok, consK_ap, aNil_ap]
      rw [tupK_ok (by simp)]
      simp only [Out.bind_ok, consK_ap, aNil_ap]
      rw [mAppend_ap g2 (by simp [rowsIn]; omega)]
      simp only [toS_ok]
      simp [isD, stp]
    · have hgi : (rowsIn place line word own turn ws)[i]? = some (w.1 ++ [place], stp line word (own.map w.2) (turn.map w.2)) := by
        unfold rowsIn
        rw [List.getElem?_map, hw1]; rfl
      rw [set_self g2, List.take_add_one, hgi]
      simp [rowD]
    · rw [List.getElem?_set_ne (Nat.ne_of_gt hk2), List.getElem?_append_left (by simp; omega), List.getElem?_append_left (by omega)]
      exact hk k hk2
  obtain ⟨τ', μ', hrun, ⟨x4, x5, x6, x7, x8, rfl⟩, hm, hk, hle⟩ := sFor_run (it := iVal (eVar 0)) (t := .tp [4, 5]) (b := sRow) (τ := [some (.ref wr), some (.int place), some dd, some (.ref μ.length), none, none, none, none, none]) (μ := μ ++ [.lst []]) (μ1 := μ ++ [.lst []]) (xs := xs) (still := fun μ => μ[wr]? = some (.lst xs)) P (by
      simp only [iVal_ap, eVar_ap, List.getElem?_cons_zero, varK_some, Out.bind_ok, planV_l (app_get _ hw)]) (fun _ _ μ2 h => by rw [h.2.2.1 wr hwl]; exact hw) hstep hstart
  refine ⟨μ', ?_, ?_, hk, hle⟩
  · rw [t_law_rows_of]
    simp only [runFn_3, Nat.reduceSub, List.reduceReplicate, sSeq_ap, sAsg_ap, eLst_ap, aNil_ap, Out.bind_ok, lstK_ok (show ([] : List D).length ≤ 100 by decide), toS_ok, asgK_nm, List.set_cons_zero, List.set_cons_succ, seqK_nx]
    rw [hrun]
    simp only [seqK_nx, sRet_ap, eVar_ap, List.getElem?_cons_zero, List.getElem?_cons_succ, varK_some, toS_ok, finK_ret]
  · rw [hm, hlen]
    have : ws.length = (rowsIn place line word own turn ws).length := by simp [rowsIn]
    rw [this, List.take_length]
/-! ### the worth of the heads -/
def hW (h : Hd) : Int := if h.outer = -1 then h.size else mn h.size h.width
def worthL : List Hd → Int → Int
  | [], a => a
  | h :: hs, a => worthL hs (a * hW h)
def worth (hs : List Hd) : Int := worthL hs 1
theorem worthL_app : ∀ (hs : List Hd) (h : Hd) (a : Int), worthL (hs ++ [h]) a = worthL hs a * hW h
  | [], _, _ => rfl
  | x :: hs, h, a => worthL_app hs h (a * hW x)
theorem worth_app (hs : List Hd) (h : Hd) : worth (hs ++ [h]) = worth hs * hW h := worthL_app hs h 1
/-- the worths of all the beginnings are from 1 to 24 -/
def WOk (hs : List Hd) : Prop := ∀ i, 1 ≤ worth (hs.take i) ∧ worth (hs.take i) ≤ 24
theorem worth_ok {hs : List Hd} {hr : Nat} {μ : MH} (n : Nat) (h : μ[hr]? = some (.lst (hs.map hdD))) (hw : WOk hs) : Ph dep tab (n + 2) ("_law_worth", none) [.ref hr] μ = .ok (.int (worth hs)) μ := by
  let P : Nat → MSt → MH → Prop := fun i τ μ1 => (∃ x2, τ = [some (.ref hr), some (.int (worth (hs.take i))), x2]) ∧ μ1 = μ
  obtain ⟨τ', μ', hrun, ⟨x2, rfl⟩, rfl⟩ := sFor_run (it := iVal (eVar 0)) (t := .nm 2) (b := (sIf (tBl (e2 opEq (e2 opIx (eVar 2) (eCon (.int 4))) (e1 opNeg (eCon (.int 1))))) (sAsg (e2 opMul (eVar 1) (e2 opIx (eVar 2) (eCon (.int 2)))) (.nm 1)) (sAsg (e2 opMul (eVar 1) (eN fMin (aCons (e2 opIx (eVar 2) (eCon (.int 2))) (aCons (e2 opIx (eVar 2) (eCon (.int 3))) aNil)))) (.nm 1))))
    (τ := [some (.ref hr), some (.int 1), none]) (μ := μ) (μ1 := μ) (xs := hs.map hdD) (still := fun μ => μ[hr]? = some (.lst (hs.map hdD))) P (by
      simp only [iVal_ap, eVar_ap, List.getElem?_cons_zero, varK_some, Out.bind_ok, planV_l h]) (fun _ _ μ2 hh => by rw [hh.2]; exact h) (fun i x τ μ1 hx hp => by
      obtain ⟨⟨x2, rfl⟩, rfl⟩ := hp
      rw [List.getElem?_map] at hx
      cases hh : hs[i]? with
      | none => rw [hh] at hx; cases hx
      | some y =>
        rw [hh] at hx; cases hx
        have ht : worth (hs.take (i + 1)) = worth (hs.take i) * hW y := by
          rw [List.take_add_one, hh]
          exact worth_app _ _
        obtain ⟨w1, w2⟩ := hw i
        have hmul : ∀ q, mulOk (worth (hs.take i)) q := fun q => mulOk_l (by omega)
        refine ⟨_, [some (.ref hr), some (.int (worth (hs.take (i + 1)))), some (hdD y)], μ1, rfl, .inl ?_, ⟨_, rfl⟩, rfl⟩
        rw [ht]
        simp only [List.set_cons_zero, List.set_cons_succ, sIf_ap, tBl_ap, e2_ap, eVar_ap, List.getElem?_cons_zero, List.getElem?_cons_succ, varK_some, Out.bind_ok, e2K_ap, eCon_ap, hdD, hx4, hx3, hx2, e1_ap, opNeg_i, opEq_i, blK_ap, toS_ok]
        unfold hW
        by_cases ho : y.outer = -1
        · simp only [ho, decide_true, ifK_t, sAsg_ap, e2_ap, eVar_ap, List.getElem?_cons_zero, List.getElem?_cons_succ, varK_some, Out.bind_ok, e2K_ap, eCon_ap, hx2, opMul_i (hmul _), toS_ok, asgK_nm, List.set_cons_zero, List.set_cons_succ, if_true]
        · simp only [ho, decide_false, ifK_f, sAsg_ap, e2_ap, eVar_ap, List.getElem?_cons_zero, List.getElem?_cons_succ, varK_some, Out.bind_ok, e2K_ap, eCon_ap, hx2, hx3, eN_ap, aCons_ap, consK_ap, aNil_ap, fMin_i, opMul_i (hmul _), toS_ok, asgK_nm, List.set_cons_zero, List.set_cons_succ, if_false]
          rfl) ⟨⟨none, by simp [worth, worthL]⟩, rfl⟩
  rw [t_law_worth]
  simp only [runFn_1, Nat.reduceSub, List.reduceReplicate, sSeq_ap, sAsg_ap, eCon_ap, toS_ok, asgK_nm, List.set_cons_zero, List.set_cons_succ, seqK_nx]
  rw [hrun]
  simp only [seqK_nx, sRet_ap, eVar_ap, List.getElem?_cons_zero, List.getElem?_cons_succ, varK_some, toS_ok, finK_ret, List.length_map, List.take_length]
end K43
namespace K43
open PySem PySem.Spec PyProof.Rows L2 MM
/-! ### data of the heads and of the nodes -/
theorem mapM_ints {k : Nat} {μ : MH} : ∀ xs : List Int, (isD xs).mapM (pdata (k + 1) μ) = some (xs.map PyData.int)
  | [] => rfl
  | x :: xs => by
    have := mapM_ints (k := k) (μ := μ) xs
    unfold isD at this ⊢
    rw [List.map_cons, List.mapM_cons, this]; rfl
mutual
def pdN : Nd → PyData
  | .deed n l w o t => .tuple [.str "deed", .int n, .int l, .str w, .tuple (o.map .int), .tuple (t.map .int)]
  | .loop n s w o b => .tuple [.str "loop", .int n, .int s, .int w, .int o, .tuple (pdL b)]
def pdL : List Nd → List PyData
  | [] => []
  | x :: xs => pdN x :: pdL xs
end
mutual
def wdN : Nd → Prop
  | .deed _ _ w _ _ => PyData.strOk w = true
  | .loop _ _ _ _ b => wdL b
def wdL : List Nd → Prop
  | [] => True
  | x :: xs => wdN x ∧ wdL xs
end
mutual
theorem pdata_nd {μ : MH} : ∀ (x : Nd) (k : Nat), 2 * depN x + 3 ≤ k → pdata k μ (nd x) = some (pdN x)
  | .deed n l w o t, k, h => by
    obtain ⟨k, rfl⟩ : ∃ j, k = j + 3 := ⟨k - 3, by omega⟩
    have h1 : pdata (k + 2) μ (.tup (isD o)) = some (.tuple (o.map .int)) := by
      show ((isD o).mapM (pdata (k + 1) μ)).map PyData.tuple = _
      rw [mapM_ints]; rfl
    have h2 : pdata (k + 2) μ (.tup (isD t)) = some (.tuple (t.map .int)) := by
      show ((isD t).mapM (pdata (k + 1) μ)).map PyData.tuple = _
      rw [mapM_ints]; rfl
    show (([.str "deed", .int n, .int l, .str w, .tup (isD o), .tup (isD t)] : List D).mapM (pdata (k + 2) μ)).map PyData.tuple = _
    simp only [List.mapM_cons, List.mapM_nil, h1, h2]
    rfl
  | .loop n s w o b, k, h => by
    rw [depN] at h
    obtain ⟨k, rfl⟩ : ∃ j, k = j + 2 := ⟨k - 2, by omega⟩
    have h1 : pdata (k + 1) μ (.tup (nds b)) = some (.tuple (pdL b)) := by
      show ((nds b).mapM (pdata k μ)).map PyData.tuple = _
      rw [pdata_nds b k (by omega)]; rfl
    show (([.str "loop", .int n, .int s, .int w, .int o, .tup (nds b)] : List D).mapM (pdata (k + 1) μ)).map PyData.tuple = _
    simp only [List.mapM_cons, List.mapM_nil, h1]
    rfl
theorem pdata_nds {μ : MH} : ∀ (b : List Nd) (k : Nat), 2 * depL b + 3 ≤ k → (nds b).mapM (pdata k μ) = some (pdL b)
  | [], _, _ => rfl
  | x :: xs, k, h => by
    rw [depL] at h
    rw [nds, List.mapM_cons, pdata_nd x k (by omega), pdata_nds xs k (by omega)]
    rfl
end
theorem lay_ints : ∀ xs : List Int, PyData.canLayAll0 (xs.map .int) = true
  | [] => by simp [PyData.canLayAll0]
  | x :: xs => by
    rw [List.map_cons, PyData.canLayAll0, lay_ints xs]; simp [PyData.canLay0]
mutual
theorem lay_nd : ∀ x : Nd, wdN x → PyData.canLay0 (pdN x) = true
  | .deed n l w o t, h => by
    unfold wdN at h
    simp only [pdN, PyData.canLay0, PyData.canLayAll0, h, lay_ints, Bool.and_true, Bool.true_and]
    kernel_rfl
  | .loop n s w o b, h => by
    unfold wdN at h
    simp only [pdN, PyData.canLay0, PyData.canLayAll0, lay_nds b h, Bool.and_true, Bool.true_and]
    kernel_rfl
theorem lay_nds : ∀ b : List Nd, wdL b → PyData.canLayAll0 (pdL b) = true
  | [], _ => by simp [pdL, PyData.canLayAll0]
  | x :: xs, h => by
    unfold wdL at h
    simp only [pdL, PyData.canLayAll0, lay_nd x h.1, lay_nds xs h.2, Bool.and_true]
end
mutual
theorem dep_nd : ∀ x : Nd, (pdN x).depth ≤ 2 * depN x + 2
  | .deed n l w o t => by
    simp only [pdN, PyData.depth, PyData.depthAll, PySem.W.depth_ints]
    omega
  | .loop n s w o b => by
    have := dep_nds b
    simp only [pdN, PyData.depth, PyData.depthAll, depN]
    omega
theorem dep_nds : ∀ b : List Nd, PyData.depthAll (pdL b) ≤ 2 * depL b + 2
  | [] => by simp [pdL, PyData.depthAll]
  | x :: xs => by
    have h1 := dep_nd x
    have h2 := dep_nds xs
    simp only [pdL, PyData.depthAll, depL]
    omega
end
theorem eqData_nil {a b : Nat} {xs : List D} {ps : List PyData} {μ : MH} (ha : μ[a]? = some (.lst xs)) (hb : μ[b]? = some (.lst [])) (hp : xs.mapM (pdata 59 μ) = some ps) (hl : PyData.canLayAll0 ps = true) (hd : PyData.depthAll ps ≤ 63) : eqData (.ref a) (.ref b) μ = some xs.isEmpty := by
  have e1 : pdata 60 μ (.ref a) = some (.list ps) := by
    show (match μ[a]? with | some (.lst ds) => (ds.mapM (pdata 59 μ)).map PyData.list | _ => none) = _
    simp only [ha, hp]; rfl
  have e2 : pdata 60 μ (.ref b) = some (.list []) := by
    show (match μ[b]? with | some (.lst ds) => (ds.mapM (pdata 59 μ)).map PyData.list | _ => none) = _
    simp only [hb]; rfl
  have h1 : SeqAt.shaped (.list ps) = true := by
    unfold SeqAt.shaped
    rw [PyData.canLay0, hl, PyData.depth]
    simp; omega
  have h2 : SeqAt.shaped (.list []) = true := by
    unfold SeqAt.shaped
    rw [PyData.canLay0, PyData.depth]
    simp [PyData.canLayAll0, PyData.depthAll]
  unfold eqData
  rw [if_neg (by simp [scalD]), e1, e2]
  simp only [h1, h2, and_self, if_true]
  cases xs with
  | nil =>
    have : ps = [] := by simpa using hp.symm
    subst this
    simp [PyData.eqv, PyData.eqvAll]
  | cons x xs =>
    cases ps with
    | nil =>
      rw [List.mapM_cons] at hp
      cases q : pdata 59 μ x with
      | none => rw [q] at hp; cases hp
      | some p =>
        rw [q] at hp
        cases q2 : xs.mapM (pdata 59 μ) with
        | none => rw [q2] at hp; cases hp
        | some r => rw [q2] at hp; cases hp
    | cons p ps => simp [PyData.eqv, PyData.eqvAll]
def pdH (h : Hd) : PyData := .tuple [.str "loop", .int h.num, .int h.size, .int h.width, .int h.outer]
theorem heads_nil {a b : Nat} {hs : List Hd} {μ : MH} (ha : μ[a]? = some (.lst (hs.map hdD))) (hb : μ[b]? = some (.lst [])) : eqData (.ref a) (.ref b) μ = some hs.isEmpty := by
  have h1 : ∀ hs : List Hd, (hs.map hdD).mapM (pdata 59 μ) = some (hs.map pdH) := fun hs => by
    induction hs with
    | nil => rfl
    | cons h hs ih => rw [List.map_cons, List.mapM_cons, ih]; rfl
  have h2 : ∀ hs : List Hd, PyData.canLayAll0 (hs.map pdH) = true := fun hs => by
    induction hs with
    | nil => simp [PyData.canLayAll0]
    | cons h hs ih =>
      rw [List.map_cons, PyData.canLayAll0, ih]
      simp only [pdH, PyData.canLay0, PyData.canLayAll0, Bool.and_true]
      kernel_rfl
  have h3 : ∀ hs : List Hd, PyData.depthAll (hs.map pdH) ≤ 1 := fun hs => by
    induction hs with
    | nil => simp [PyData.depthAll]
    | cons h hs ih =>
      rw [List.map_cons, PyData.depthAll]
      simp only [pdH, PyData.depth, PyData.depthAll]
      omega
  have := eqData_nil ha hb (h1 hs) (h2 hs) (by have := h3 hs; omega)
  rw [this]
  cases hs <;> rfl
theorem body_nil {a b : Nat} {bd : List Nd} {μ : MH} (ha : μ[a]? = some (.lst (nds bd))) (hb : μ[b]? = some (.lst [])) (hd : depL bd ≤ 28) (hw : wdL bd) : eqData (.ref a) (.ref b) μ = some bd.isEmpty := by
  have := eqData_nil ha hb (pdata_nds bd 59 (by omega)) (lay_nds bd hw) (by have := dep_nds bd; omega)
  rw [this]
  cases bd <;> rfl
theorem opEq_of {x y : D} {b : Bool} {μ : MH} (h : eqData x y μ = some b) : opEq x y μ = .ok (.bl b) μ := by unfold opEq; rw [h]
theorem opNe_of {x y : D} {b : Bool} {μ : MH} (h : eqData x y μ = some b) : opNe x y μ = .ok (.bl (!b)) μ := by unfold opNe; rw [h]
end K43
namespace K43
open PySem PySem.Spec PyProof.Rows L2 MM
/-- all that was there is kept -/
def Kp (μ μ' : MH) : Prop := (∀ i, i < μ.length → μ'[i]? = μ[i]?) ∧ μ.length ≤ μ'.length
theorem Kp.refl {μ : MH} : Kp μ μ := ⟨fun _ _ => rfl, Nat.le_refl _⟩
theorem Kp.trans {a b c : MH} (h : Kp a b) (k : Kp b c) : Kp a c := ⟨fun i hi => (k.1 i (Nat.lt_of_lt_of_le hi h.2)).trans (h.1 i hi), Nat.le_trans h.2 k.2⟩
theorem Kp.app {μ : MH} {o : O} : Kp μ (μ ++ [o]) := ⟨fun i hi => List.getElem?_append_left hi, by simp⟩
theorem Kp.get {μ μ' : MH} {i : Nat} {o : O} (h : Kp μ μ') (e : μ[i]? = some o) : μ'[i]? = some o := by rw [h.1 i (getSome_lt e)]; exact e
theorem atI_nat {α : Type} {xs : List α} {k : Nat} {v : α} (h : xs[k]? = some v) : atI xs (k : Int) = some v := by
  have hl := (List.getElem?_eq_some_iff.mp h).1
  have : ixN xs.length (k : Int) = some k := by
    unfold ixN
    rw [if_pos (by omega)]
    simp [hl]
  unfold atI
  rw [this]
  exact h
theorem cell_ok {ns : List Int} {μ : MH} (n k : Nat) : Ph dep tab (n + 2) ("_law_cell_at", none) [.frl (isD ns), .int k] μ = .ok (.int ((ns[k]?).getD 0)) μ := by
  rw [t_law_cell_at]
  simp only [runFn_2, Nat.reduceSub, List.reduceReplicate, sSeq_ap, sIf_ap, tBl_ap, e2_ap, eVar_ap, List.getElem?_cons_zero, List.getElem?_cons_succ, varK_some, Out.bind_ok, e2K_ap, eN_ap, aCons_ap, consK_ap, aNil_ap, fLen_f, opLt_i, blK_ap, toS_ok]
  by_cases h : k < ns.length
  · have h1 : (decide ((k : Int) < ((isD ns).length : Nat))) = true := decide_eq_true (by simp [isD]; omega)
    have h2 : (isD ns)[k]? = some (.int ns[k]) := by unfold isD; rw [List.getElem?_map, List.getElem?_eq_getElem h]; rfl
    simp only [h1, ifK_t, sRet_ap, e2_ap, eVar_ap, List.getElem?_cons_zero, List.getElem?_cons_succ, varK_some, Out.bind_ok, e2K_ap, opIx_f (atI_nat h2), toS_ok, seqK_ret, finK_ret, List.getElem?_eq_getElem h, Option.getD_some]
  · have h1 : (decide ((k : Int) < ((isD ns).length : Nat))) = false := decide_eq_false (by simp [isD]; omega)
    simp only [h1, ifK_f, sNx_ap, seqK_nx, sRet_ap, eCon_ap, toS_ok, finK_ret, List.getElem?_eq_none (Nat.le_of_not_lt h), Option.getD_none]
def actS (cell deep : Int) : Str := if cell % 5 < 2 ∧ deep < 20 then "loop" else if cell % 5 = 4 ∧ 0 < deep then "end" else "deed"
theorem act_ok {cell deep : Int} {μ : MH} (n : Nat) : Ph dep tab (n + 2) ("_law_act", none) [.int cell, .int deep] μ = .ok (.str (actS cell deep)) μ := by
  rw [t_law_act]
  simp only [runFn_2, Nat.reduceSub, List.reduceReplicate, sSeq_ap, sAsg_ap, sIf_ap, tAndM_ap, tBl_ap, e2_ap, eVar_ap, List.getElem?_cons_zero, List.getElem?_cons_succ, varK_some, Out.bind_ok, e2K_ap, eCon_ap, opMod_i (q := 5) (by decide), toS_ok, asgK_nm, List.set_cons_zero, List.set_cons_succ, seqK_nx, opLt_i, blK_ap]
  unfold actS
  have f2 : ∀ μ : MH, seqK (sSeq (sIf (tAndM (tBl (e2 opEq (eVar 2) (eCon (.int 4)))) (tBl (e2 opGt (eVar 1) (eCon (.int 0))))) (sRet (eCon (.str "end"))) sNx) (sRet (eCon (.str "deed")))) (.ok (.nx [some (.int cell), some (.int deep), some (.int (cell % 5))]) μ) =
      .ok (.ret (.str (if cell % 5 = 4 ∧ 0 < deep then "end" else "deed"))) μ := fun μ => by
    simp only [seqK_nx, sSeq_ap, sIf_ap, tAndM_ap, tBl_ap, e2_ap, eVar_ap, List.getElem?_cons_zero, List.getElem?_cons_succ, varK_some, Out.bind_ok, e2K_ap, eCon_ap, opEq_i, blK_ap]
    by_cases h1 : cell % 5 = 4
    · by_cases h2 : 0 < deep
      · simp only [h1, h2, decide_true, andK_t, tBl_ap, e2_ap, eVar_ap, List.getElem?_cons_zero, List.getElem?_cons_succ, varK_some, Out.bind_ok, e2K_ap, eCon_ap, opGt_i, blK_ap, toS_ok, ifK_t, sRet_ap, seqK_ret, and_self, if_true]
      · simp only [h1, h2, decide_true, decide_false, andK_t, tBl_ap, e2_ap, eVar_ap, List.getElem?_cons_zero, List.getElem?_cons_succ, varK_some, Out.bind_ok, e2K_ap, eCon_ap, opGt_i, blK_ap, toS_ok, ifK_f, sNx_ap, seqK_nx, sRet_ap, and_false, if_false]
    · simp only [h1, decide_false, andK_f, toS_ok, ifK_f, sNx_ap, seqK_nx, sRet_ap, eCon_ap, false_and, if_false]
  by_cases h1 : cell % 5 < 2
  · by_cases h2 : deep < 20
    · simp only [h1, h2, decide_true, andK_t, tBl_ap, e2_ap, eVar_ap, List.getElem?_cons_zero, List.getElem?_cons_succ, varK_some, Out.bind_ok, e2K_ap, eCon_ap, opLt_i, blK_ap, toS_ok, ifK_t, sRet_ap, seqK_ret, finK_ret, and_self, if_true]
    · simp only [h1, h2, decide_true, decide_false, andK_t, tBl_ap, e2_ap, eVar_ap, List.getElem?_cons_zero, List.getElem?_cons_succ, varK_some, Out.bind_ok, e2K_ap, eCon_ap, opLt_i, blK_ap, toS_ok, ifK_f, sNx_ap, f2, finK_ret, and_false, if_false]
  · simp only [h1, decide_false, andK_f, toS_ok, ifK_f, sNx_ap, f2, finK_ret, false_and, if_false]
/-- the cells' picks of loops -/
theorem picked_ok {hs : List Hd} {hr : Nat} {cell many : Int} {μ : MH} (n : Nat) (hh : μ[hr]? = some (.lst (hs.map hdD))) (hm : 0 ≤ many ∧ many ≤ 4) :
    ∃ ks μ', Ph dep tab (n + 2) ("_law_picked", none) [.int cell, .ref hr, .int many] μ = .ok (.tup (isD ks)) μ' ∧ Kp μ μ' ∧ (∀ k ∈ ks, k ∈ hs.map Hd.num) ∧ ks.length ≤ 4 := by
  rw [t_law_picked]
  have hh1 : (μ ++ [O.lst []])[hr]? = some (.lst (hs.map hdD)) := app_get _ hh
  have hnil := opEq_of (heads_nil hh1 (app_self (μ := μ) (x := .lst [])))
  simp only [runFn_3, Nat.reduceSub, List.reduceReplicate, sSeq_ap, sIf_ap, tBl_ap, e2_ap, eVar_ap, List.getElem?_cons_zero, List.getElem?_cons_succ, varK_some, Out.bind_ok, e2K_ap, eLst_ap, aNil_ap, lstK_ok (show ([] : List D).length ≤ 100 by decide), hnil, blK_ap, toS_ok]
  cases hs with
  | nil =>
    refine ⟨[], μ ++ [.lst []], ?_, Kp.app, (fun k hk => absurd hk List.not_mem_nil), by simp⟩
    simp only [List.isEmpty_nil, ifK_t, sRet_ap, eTup_ap, aNil_ap, Out.bind_ok, tupK_ok (show ([] : List D).length ≤ 100 by decide), toS_ok, seqK_ret, finK_ret]
    rfl
  | cons h0 hs =>
    simp only [List.isEmpty_cons, ifK_f, sNx_ap, seqK_nx]
    generalize hhs : h0 :: hs = hl at hh hh1
    have hpos : 0 < hl.length := by rw [← hhs]; simp
    let ix : Int → Nat := fun k => ((cell + k * (1 + cell / 7 % 3)) % (hl.length : Int)).toNat
    have hix : ∀ k, ix k < hl.length ∧ ((ix k : Nat) : Int) = (cell + k * (1 + cell / 7 % 3)) % (hl.length : Int) := fun k => by
      have h1 := Int.emod_nonneg (cell + k * (1 + cell / 7 % 3)) (show (hl.length : Int) ≠ 0 by omega)
      have h2 := Int.emod_lt_of_pos (cell + k * (1 + cell / 7 % 3)) (show (0 : Int) < hl.length by omega)
      exact ⟨by show Int.toNat _ < _; omega, by show ((Int.toNat _ : Nat) : Int) = _; omega⟩
    have hnum : ∀ k, ∃ h, hl[ix k]? = some h := fun k => ⟨hl[ix k]'(hix k).1, List.getElem?_eq_getElem _⟩
    let f : Int → Int := fun k => ((hl[ix k]?).map Hd.num).getD 0
    have hf : ∀ k, f k ∈ hl.map Hd.num := fun k => by
      obtain ⟨h, e⟩ := hnum k
      show ((hl[ix k]?).map Hd.num).getD 0 ∈ _
      rw [e]
      exact List.mem_map_of_mem (List.mem_of_getElem? e)
    have e := eLc_run (τ := [some (.int cell), some (.ref hr), some (.int many), none]) (μ := μ ++ [O.lst []]) (μ1 := μ ++ [O.lst []]) (it := iA kRng1 (aCons (eVar 2) aNil)) (t := .nm 3) (c := tYesM)
      (e := e2 opIx (e2 opIx (eVar 1) (e2 opMod (e2 opAdd (eVar 0) (e2 opMul (eVar 3) (e2 opAdd (eCon (.int 1)) (e2 opMod (e2 opDiv (eVar 0) (eCon (.int 7))) (eCon (.int 3)))))) (eN fLen (aCons (eVar 1) aNil)))) (eCon (.int 1))) (vs := [3]) (xs := isD (rg 0 many)) (still := fun _ => True)
      (f := fun d => match d with | .int k => .int (f k) | d => d) (by
        simp only [iA_ap, aCons_ap, eVar_ap, List.getElem?_cons_zero, List.getElem?_cons_succ, varK_some, Out.bind_ok, consK_ap, aNil_ap]
        rw [kRng1_ap (by unfold okR; exact decide_eq_true (by omega)), ← rng_isD, Int.sub_zero]; rfl) (fun _ => trivial) (by simp [isD, rg]; omega) (fun x hx acc => by
        unfold isD at hx
        obtain ⟨k, hk, rfl⟩ := List.mem_map.mp hx
        refine ⟨_, rfl, rfl, ?_⟩
        obtain ⟨h, eh⟩ := hnum k
        have hh2 : (μ ++ [O.lst []] ++ [O.lst acc])[hr]? = some (.lst (hl.map hdD)) := app_get _ hh1
        have h5 : atI (hl.map hdD) ((cell + k * (1 + cell / 7 % 3)) % (hl.length : Int)) = some (hdD h) := by
          rw [← (hix k).2]
          exact atI_nat (by rw [List.getElem?_map, eh]; rfl)
        have h6 : f k = h.num := by
          show ((hl[ix k]?).map Hd.num).getD 0 = _
          rw [eh]; rfl
        show e2 opIx _ _ [some (.int cell), some (.ref hr), some (.int many), some (.int k)] _ = _
        have m3 := Int.emod_nonneg (cell / 7) (show (3 : Int) ≠ 0 by decide)
        have m4 := Int.emod_lt_of_pos (cell / 7) (show (0 : Int) < 3 by decide)
        simp only [e2_ap, eVar_ap, List.getElem?_cons_zero, List.getElem?_cons_succ, varK_some, Out.bind_ok, e2K_ap, eCon_ap, opDiv_i (p := cell) (q := 7) (by decide) (by decide), opMod_i (p := cell / 7) (q := 3) (by decide), opAdd_i, opMul_i (mulOk_r (p := k) (q := 1 + cell / 7 % 3) (by omega)), eN_ap, aCons_ap, consK_ap, aNil_ap, fLen_l hh2, List.length_map,
          opMod_i (p := cell + k * (1 + cell / 7 % 3)) (q := (hl.length : Int)) (by omega), opIx_l hh2 h5, h6]
        rfl)
    refine ⟨(rg 0 many).map f, μ ++ [O.lst []] ++ [.lst ((isD (rg 0 many)).map fun d => match d with | .int k => .int (f k) | d => d)], ?_, ?_, fun k hk => ?_, by simp [rg]; omega⟩
    · simp only [sRet_ap, eN_ap, aCons_ap, e, Out.bind_ok, consK_ap, aNil_ap, fTuple_l app_self, toS_ok, finK_ret]
      simp only [isD, List.map_map]
      rfl
    · exact Kp.trans Kp.app Kp.app
    · obtain ⟨i, _, rfl⟩ := List.mem_map.mp hk
      exact hf i
end K43
namespace K43
open PySem PySem.Spec PyProof.Rows L2 MM
theorem pow9 {μ : MH} : opPow (.int 10) (.int 9) μ = .ok (.int 1000000000) μ := by
  unfold opPow; simp only []; rw [if_pos (by decide)]; rfl
theorem pow29 {μ : MH} : opPow (.int 10) (.int 29) μ = .ok (.int 100000000000000000000000000000) μ := by
  unfold opPow; simp only []; rw [if_pos (by decide)]; rfl
theorem pow30 {μ : MH} : opPow (.int 10) (.int 30) μ = .ok (.int 1000000000000000000000000000000) μ := by
  unfold opPow; simp only []; rw [if_pos (by decide)]; rfl
theorem deed_ok {hs : List Hd} {hr : Nat} {cell number : Int} {μ : MH} (n : Nat) (hh : μ[hr]? = some (.lst (hs.map hdD))) :
    ∃ line word own turn μ', Ph dep tab (n + 3) ("_law_deed_by", none) [.int cell, .int number, .ref hr] μ = .ok (nd (.deed number line word own turn)) μ' ∧ Kp μ μ' ∧ (∀ k ∈ own, k ∈ hs.map Hd.num) ∧ (∀ k ∈ turn, k ∈ hs.map Hd.num) ∧ own.length ≤ 4 ∧ turn.length ≤ 4 ∧ PyData.strOk word = true := by
  let L3 : List D := [.str "set", .str "start", .str "add"]
  have m0 := Int.emod_nonneg (cell / 5) (show (3 : Int) ≠ 0 by decide)
  have m1 := Int.emod_lt_of_pos (cell / 5) (show (0 : Int) < 3 by decide)
  obtain ⟨word, hword, hok⟩ : ∃ word : Str, atI L3 (cell / 5 % 3) = some (.str word) ∧ PyData.strOk word = true := by
    generalize cell / 5 % 3 = r at m0 m1
    have : r = 0 ∨ r = 1 ∨ r = 2 := by omega
    rcases this with rfl | rfl | rfl
    · exact ⟨"set", rfl, by kernel_rfl⟩
    · exact ⟨"start", rfl, by kernel_rfl⟩
    · exact ⟨"add", rfl, by kernel_rfl⟩
  have hh1 : (μ ++ [O.lst L3])[hr]? = some (.lst (hs.map hdD)) := app_get _ hh
  have p0 := Int.emod_nonneg (cell / 5 / 3) (show (5 : Int) ≠ 0 by decide)
  have p1 := Int.emod_lt_of_pos (cell / 5 / 3) (show (0 : Int) < 5 by decide)
  have q0 := Int.emod_nonneg (cell / 5 / 7) (show (5 : Int) ≠ 0 by decide)
  have q1 := Int.emod_lt_of_pos (cell / 5 / 7) (show (0 : Int) < 5 by decide)
  obtain ⟨own, μ1, e1, k1, o1, o2⟩ := picked_ok (cell := cell / 5 / 15) (many := cell / 5 / 3 % 5) n hh1 (by omega)
  obtain ⟨turn, μ2, e2', k2, t1, t2⟩ := picked_ok (cell := cell / 5 / 11) (many := cell / 5 / 7 % 5) n (k1.get hh1) (by omega)
  refine ⟨cell / 5 / 2 % 1000000001, word, own, turn, μ2, ?_, (Kp.app.trans k1).trans k2, o1, t1, o2, t2, hok⟩
  rw [show n + 3 = (n + 1) + 2 by omega, t_law_deed_by]
  have d5 : ∀ {p : Int} {μ : MH}, opDiv (.int p) (.int 5) μ = .ok (.int (p / 5)) μ := fun {p μ} => opDiv_i (by decide) (by decide)
  have d15 : ∀ {p : Int} {μ : MH}, opDiv (.int p) (.int 15) μ = .ok (.int (p / 15)) μ := fun {p μ} => opDiv_i (by decide) (by decide)
  have d11 : ∀ {p : Int} {μ : MH}, opDiv (.int p) (.int 11) μ = .ok (.int (p / 11)) μ := fun {p μ} => opDiv_i (by decide) (by decide)
  have d3 : ∀ {p : Int} {μ : MH}, opDiv (.int p) (.int 3) μ = .ok (.int (p / 3)) μ := fun {p μ} => opDiv_i (by decide) (by decide)
  have d7 : ∀ {p : Int} {μ : MH}, opDiv (.int p) (.int 7) μ = .ok (.int (p / 7)) μ := fun {p μ} => opDiv_i (by decide) (by decide)
  have d2 : ∀ {p : Int} {μ : MH}, opDiv (.int p) (.int 2) μ = .ok (.int (p / 2)) μ := fun {p μ} => opDiv_i (by decide) (by decide)
  have r3 : ∀ {p : Int} {μ : MH}, opMod (.int p) (.int 3) μ = .ok (.int (p % 3)) μ := fun {p μ} => opMod_i (by decide)
  have r5 : ∀ {p : Int} {μ : MH}, opMod (.int p) (.int 5) μ = .ok (.int (p % 5)) μ := fun {p μ} => opMod_i (by decide)
  have r9 : ∀ {p : Int} {μ : MH}, opMod (.int p) (.int (1000000000 + 1)) μ = .ok (.int (p % 1000000001)) μ := fun {p μ} => opMod_i (q := 1000000000 + 1) (by decide)
  have hL : ∀ {μ : MH}, lstK [.str "set", .str "start", .str "add"] μ = .ok (.ref μ.length) (μ ++ [.lst L3]) := fun {μ} => lstK_ok (by decide)
  simp only [runFn_3, Nat.reduceSub, List.reduceReplicate, sSeq_ap, sAsg_ap, e2_ap, eVar_ap, List.getElem?_cons_zero, List.getElem?_cons_succ, varK_some, Out.bind_ok, e2K_ap, eCon_ap, d5, toS_ok, asgK_nm, List.set_cons_zero, List.set_cons_succ, seqK_nx, eLst_ap, aCons_ap, consK_ap, aNil_ap, hL, r3, opIx_l app_self hword,
    eN_ap, d15, d3, r5, e1, d11, d7, e2', sRet_ap, eTup_ap, d2, pow9, opAdd_i, r9]
  rw [tupK_ok (by simp)]
  simp only [toS_ok, finK_ret, nd]
/-! ### a new head -/
/-- what is kept of the heads -/
structure HsOk (hs : List Hd) : Prop where
  w : WOk hs
  szs : ∀ j, ∀ h ∈ hs.take j, 1 ≤ h.size ∧ h.size ≤ worth (hs.take j) ∧ 0 ≤ h.num
theorem HsOk.sz {hs : List Hd} (a : HsOk hs) : ∀ h ∈ hs, 1 ≤ h.size ∧ h.size ≤ worth hs ∧ 0 ≤ h.num := fun h hh => by
  have := a.szs hs.length
  rw [List.take_length] at this
  exact this h hh
def scOf (hs : List Hd) : Sc := (hs.map fun h => (h.num, h.size)).reverse
theorem scOf_app (hs : List Hd) (h : Hd) : scOf (hs ++ [h]) = (h.num, h.size) :: scOf hs := by simp [scOf]
theorem scOf_mem {hs : List Hd} {h : Hd} (hm : h ∈ hs) : (h.num, h.size) ∈ scOf hs := by
  unfold scOf
  rw [List.mem_reverse]
  exact List.mem_map_of_mem hm
theorem scOf_num {hs : List Hd} {k : Int} : k ∈ (scOf hs).map (·.1) ↔ k ∈ hs.map Hd.num := by
  unfold scOf
  rw [List.map_reverse, List.mem_reverse, List.map_map]
  exact Iff.rfl
theorem HsOk.all {hs : List Hd} (h : HsOk hs) : 1 ≤ worth hs ∧ worth hs ≤ 24 := by
  have := h.w hs.length
  rwa [List.take_length] at this
/-- a head that may come behind -/
def NewOk (hs : List Hd) (h : Hd) : Prop := 1 ≤ hW h ∧ worth hs * hW h ≤ 24 ∧ 1 ≤ h.size ∧ h.size ≤ worth hs * hW h ∧ (h.outer = -1 ∨ ∃ o ∈ hs, h.outer = o.num ∧ 1 ≤ h.width ∧ (h.width ≤ 4 ∨ o.size = 1))
theorem HsOk.snoc {hs : List Hd} {h : Hd} (a : HsOk hs) (b : NewOk hs h) (hn : 0 ≤ h.num) : HsOk (hs ++ [h]) := by
  obtain ⟨a1, a2⟩ := a.all
  obtain ⟨b1, b2, b3, b4, _⟩ := b
  refine ⟨fun i => ?_, fun j x hx => ?_⟩
  · rcases Nat.lt_or_ge hs.length i with hi | hi
    · rw [List.take_of_length_le (by simp; omega), worth_app]
      exact ⟨by have := Int.mul_le_mul a1 b1 (by omega) (by omega); omega, b2⟩
    · rw [List.take_append_of_le_length hi]
      exact a.w i
  · rcases Nat.lt_or_ge hs.length j with hj | hj
    case inr =>
      rw [List.take_append_of_le_length hj] at hx ⊢
      exact a.szs j x hx
    rw [List.take_of_length_le (by simp; omega)] at hx ⊢
    rw [worth_app]
    rcases List.mem_append.mp hx with hx | hx
    · obtain ⟨c1, c2, c3⟩ := a.sz x hx
      refine ⟨c1, ?_, c3⟩
      calc x.size ≤ worth hs * 1 := by omega
        _ ≤ worth hs * hW h := Int.mul_le_mul_of_nonneg_left b1 (by omega)
    · simp only [List.mem_singleton] at hx
      subst hx
      exact ⟨b3, b4, hn⟩
theorem NewOk.hd {hs : List Hd} {h : Hd} (a : HsOk hs) (b : NewOk hs h) (hn : h.num ∉ hs.map Hd.num) : HdOk (scOf hs) h := by
  obtain ⟨b1, b2, b3, b4, b5⟩ := b
  refine ⟨b3, by omega, fun z => hn (scOf_num.mp z), ?_⟩
  rcases b5 with h5 | ⟨o, ho, h5, h6, h7⟩
  · exact .inl h5
  · obtain ⟨c1, c2, c3⟩ := a.sz o ho
    exact .inr ⟨by omega, o.size, by rw [h5]; exact scOf_mem ho, h6, h7⟩
end K43
namespace K43
open PySem PySem.Spec PyProof.Rows L2 MM
theorem mn_i {p q : Int} {μ : MH} : fMin [.int p, .int q] μ = .ok (.int (mn q p)) μ ∨ True := .inr trivial
theorem mulle {a b c : Int} (h : b ≤ c) (ha : 1 ≤ a) : a * b ≤ a * c := Int.mul_le_mul_of_nonneg_left h (by omega)
theorem head_ok {hs : List Hd} {hr : Nat} {cell number most : Int} {μ : MH} (n : Nat) (hh : μ[hr]? = some (.lst (hs.map hdD))) (ok : HsOk hs) (hm : 1 ≤ most) (hmost : worth hs * most ≤ 24) :
    ∃ h μ', Ph dep tab (n + 2) ("_law_head_by", none) [.int cell, .int number, .ref hr, .int most] μ = .ok (hdD h) μ' ∧ Kp μ μ' ∧ h.num = number ∧ NewOk hs h := by
  obtain ⟨w1, w2⟩ := ok.all
  have dv : ∀ (q : Int) (h : 0 < q) (h2 : q < 2 ^ 64) {p : Int} {μ : MH}, opDiv (.int p) (.int q) μ = .ok (.int (p / q)) μ := fun q h h2 {p μ} => opDiv_i h h2
  have md : ∀ (q : Int) (h : 0 < q) {p : Int} {μ : MH}, opMod (.int p) (.int q) μ = .ok (.int (p % q)) μ := fun q h {p μ} => opMod_i h
  have tail : ∀ ν : MH, ∃ h, (sSeq (sIf (tBl (e2 opEq (e2 opMod (eVar 4) (eCon (.int 9))) (eCon (.int 2)))) (sRet (eTup (aCons (eCon (.str "loop")) (aCons (eVar 1) (aCons (e2 opAdd (eCon (.int 1)) (e2 opMod (e2 opDiv (eVar 4) (eCon (.int 9))) (eVar 3))) (aCons (eCon (.int 0)) (aCons (e1 opNeg (eCon (.int 1))) aNil))))))) sNx)
    (sRet (eTup (aCons (eCon (.str "loop")) (aCons (eVar 1) (aCons (e2 opAdd (eCon (.int 1)) (e2 opMod (e2 opDiv (eVar 4) (eCon (.int 9))) (eN fMin (aCons (eVar 3) (aCons (eCon (.int 5)) aNil))))) (aCons (eCon (.int 0)) (aCons (e1 opNeg (eCon (.int 1))) aNil))))))))
      [some (.int cell), some (.int number), some (.ref hr), some (.int most), some (.int (cell / 5)), none, none] ν = .ok (.ret (hdD h)) ν ∧ h.num = number ∧ NewOk hs h := by
    intro ν
    simp only [sSeq_ap, sIf_ap, tBl_ap, e2_ap, eVar_ap, List.getElem?_cons_zero, List.getElem?_cons_succ, varK_some, Out.bind_ok, e2K_ap, eCon_ap, md 9 (by decide), opEq_i, blK_ap, toS_ok]
    by_cases h2 : cell / 5 % 9 = 2
    · have a0 := Int.emod_nonneg (cell / 5 / 9) (show most ≠ 0 by omega)
      have a1 := Int.emod_lt_of_pos (cell / 5 / 9) (show 0 < most by omega)
      refine ⟨⟨number, 1 + cell / 5 / 9 % most, 0, -1⟩, ?_, rfl, ?_⟩
      · simp only [h2, decide_true, ifK_t, sRet_ap, eTup_ap, aCons_ap, eCon_ap, Out.bind_ok, consK_ap, eVar_ap, List.getElem?_cons_zero, List.getElem?_cons_succ, varK_some, e2_ap, e2K_ap, dv 9 (by decide) (by decide), md most (by omega), opAdd_i, e1_ap, opNeg_i, aNil_ap]
        rw [tupK_ok (by simp)]
        simp only [toS_ok, seqK_ret, hdD]
      · have hW1 : hW ⟨number, 1 + cell / 5 / 9 % most, 0, -1⟩ = 1 + cell / 5 / 9 % most := if_pos rfl
        have := mulle (show 1 + cell / 5 / 9 % most ≤ most by omega) w1
        have h5 := Int.mul_le_mul_of_nonneg_right w1 (show 0 ≤ 1 + cell / 5 / 9 % most by omega)
        unfold NewOk
        rw [hW1]
        exact ⟨by omega, by omega, by show 1 ≤ 1 + cell / 5 / 9 % most; omega, by show 1 + cell / 5 / 9 % most ≤ _; omega, .inl rfl⟩
    · have hmn : 1 ≤ (if (5 : Int) < most then 5 else most) ∧ (if (5 : Int) < most then 5 else most) ≤ most := by split <;> omega
      generalize hq : (if (5 : Int) < most then (5 : Int) else most) = q at hmn
      have a0 := Int.emod_nonneg (cell / 5 / 9) (show q ≠ 0 by omega)
      have a1 := Int.emod_lt_of_pos (cell / 5 / 9) (show 0 < q by omega)
      refine ⟨⟨number, 1 + cell / 5 / 9 % q, 0, -1⟩, ?_, rfl, ?_⟩
      · simp only [h2, decide_false, ifK_f, sNx_ap, seqK_nx, sRet_ap, eTup_ap, aCons_ap, eCon_ap, Out.bind_ok, consK_ap, eVar_ap, List.getElem?_cons_zero, List.getElem?_cons_succ, varK_some, e2_ap, e2K_ap, dv 9 (by decide) (by decide), eN_ap, fMin_i, hq, md q (by omega), opAdd_i, e1_ap, opNeg_i, aNil_ap]
        rw [tupK_ok (by simp)]
        simp only [toS_ok, hdD]
      · have hW1 : hW ⟨number, 1 + cell / 5 / 9 % q, 0, -1⟩ = 1 + cell / 5 / 9 % q := if_pos rfl
        have := mulle (show 1 + cell / 5 / 9 % q ≤ most by omega) w1
        have h5 := Int.mul_le_mul_of_nonneg_right w1 (show 0 ≤ 1 + cell / 5 / 9 % q by omega)
        unfold NewOk
        rw [hW1]
        exact ⟨by omega, by omega, by show 1 ≤ 1 + cell / 5 / 9 % q; omega, by show 1 + cell / 5 / 9 % q ≤ _; omega, .inl rfl⟩
  rw [t_law_head_by]
  simp only [runFn_4, Nat.reduceSub, List.reduceReplicate]
  rw [sSeq_ap]
  simp only [sAsg_ap, e2_ap, eVar_ap, List.getElem?_cons_zero, List.getElem?_cons_succ, varK_some, Out.bind_ok, e2K_ap, eCon_ap, dv 5 (by decide) (by decide), toS_ok, asgK_nm, List.set_cons_zero, List.set_cons_succ, seqK_nx]
  rw [sSeq_ap]
  simp only [sIf_ap, tAndM_ap, tBl_ap, e2_ap, eVar_ap, List.getElem?_cons_zero, List.getElem?_cons_succ, varK_some, Out.bind_ok, e2K_ap, eCon_ap, md 3 (by decide), opEq_i, blK_ap]
  by_cases h1 : cell / 5 % 3 = 1
  · have hh1 : (μ ++ [O.lst []])[hr]? = some (.lst (hs.map hdD)) := app_get _ hh
    have hnil := opNe_of (heads_nil hh1 (app_self (μ := μ) (x := .lst [])))
    simp only [h1, decide_true, andK_t, tBl_ap, e2_ap, eVar_ap, List.getElem?_cons_zero, List.getElem?_cons_succ, varK_some, Out.bind_ok, e2K_ap, eLst_ap, aNil_ap, lstK_ok (show ([] : List D).length ≤ 100 by decide), hnil, blK_ap, toS_ok]
    cases hs with
    | nil =>
      obtain ⟨h, e, e2', e3⟩ := tail (μ ++ [O.lst []])
      refine ⟨h, μ ++ [O.lst []], ?_, Kp.app, e2', e3⟩
      simp only [List.isEmpty_nil, Bool.not_true, ifK_f, sNx_ap, seqK_nx, e, finK_ret]
    | cons h0 hs =>
      simp only [List.isEmpty_cons, Bool.not_false, ifK_t]
      generalize hhs : h0 :: hs = hl at hh hh1 ok w1 w2 hmost
      have hpos : 0 < hl.length := by rw [← hhs]; simp
      have i0 := Int.emod_nonneg (cell / 5 / 3) (show (hl.length : Int) ≠ 0 by omega)
      have i1 := Int.emod_lt_of_pos (cell / 5 / 3) (show (0 : Int) < hl.length by omega)
      have key : ∀ r : Int, 0 ≤ r → r < (hl.length : Int) → ∃ o, atI (hl.map hdD) r = some (hdD o) ∧ o ∈ hl := fun r r0 r1 => by
        obtain ⟨k, rfl⟩ := Int.eq_ofNat_of_zero_le r0
        have hk : k < hl.length := by omega
        exact ⟨hl[k], atI_nat (by rw [List.getElem?_map, List.getElem?_eq_getElem hk]; rfl), List.getElem_mem _⟩
      obtain ⟨o, ho, hom⟩ := key _ i0 i1
      obtain ⟨o1, o2, o3⟩ := ok.sz o hom
      have hmn : 1 ≤ (if (4 : Int) < most then 4 else most) ∧ (if (4 : Int) < most then 4 else most) ≤ most ∧ (if (4 : Int) < most then 4 else most) ≤ 4 := by split <;> omega
      generalize hq : (if (4 : Int) < most then (4 : Int) else most) = q at hmn
      have a0 := Int.emod_nonneg (cell / 5 / 60) (show q ≠ 0 by omega)
      have a1 := Int.emod_lt_of_pos (cell / 5 / 60) (show 0 < q by omega)
      generalize hwd : 1 + cell / 5 / 60 % q = wd
      have hwd1 : 1 ≤ wd ∧ wd ≤ q := by omega
      have hx2' : ∀ {ν : MH}, opIx (hdD o) (.int 2) ν = .ok (.int o.size) ν := fun {ν} => rfl
      have hx1' : ∀ {ν : MH}, opIx (hdD o) (.int 1) ν = .ok (.int o.num) ν := fun {ν} => rfl
      rw [sSeq_ap]
      simp only [sAsg_ap, e2_ap, eVar_ap, List.getElem?_cons_zero, List.getElem?_cons_succ, varK_some, Out.bind_ok, e2K_ap, eCon_ap, dv 3 (by decide) (by decide), eN_ap, aCons_ap, consK_ap, aNil_ap, fLen_l hh1, List.length_map, md (hl.length : Int) (by omega), opIx_l hh1 ho, toS_ok, asgK_nm, List.set_cons_zero, List.set_cons_succ, seqK_nx]
      rw [sSeq_ap]
      simp only [sAsg_ap, e2_ap, eVar_ap, List.getElem?_cons_zero, List.getElem?_cons_succ, varK_some, Out.bind_ok, e2K_ap, eCon_ap, dv 60 (by decide) (by decide), eN_ap, aCons_ap, consK_ap, aNil_ap, fMin_i, hq, md q (by omega), opAdd_i, hwd, toS_ok, asgK_nm, List.set_cons_zero, List.set_cons_succ, seqK_nx]
      have ret2 : ∃ h, seqK (sRet (eTup (aCons (eCon (.str "loop")) (aCons (eVar 1) (aCons (e2 opSub (e2 opMul (e2 opIx (eVar 5) (eCon (.int 2))) (eVar 6)) (e2 opMod (e2 opDiv (eVar 4) (eCon (.int 7))) (eVar 6))) (aCons (eVar 6) (aCons (e2 opIx (eVar 5) (eCon (.int 1))) aNil)))))))
          (.ok (.nx [some (.int cell), some (.int number), some (.ref hr), some (.int most), some (.int (cell / 5)), some (hdD o), some (.int wd)]) (μ ++ [O.lst []])) = .ok (.ret (hdD h)) (μ ++ [O.lst []]) ∧ h.num = number ∧ NewOk hl h := by
        have b0 := Int.emod_nonneg (cell / 5 / 7) (show wd ≠ 0 by omega)
        have b1 := Int.emod_lt_of_pos (cell / 5 / 7) (show 0 < wd by omega)
        refine ⟨⟨number, o.size * wd - cell / 5 / 7 % wd, wd, o.num⟩, ?_, rfl, ?_⟩
        · simp only [seqK_nx, sRet_ap, eTup_ap, aCons_ap, eCon_ap, Out.bind_ok, consK_ap, eVar_ap, List.getElem?_cons_zero, List.getElem?_cons_succ, varK_some, e2_ap, e2K_ap, hx2', hx1', opMul_i (mulOk_r (p := o.size) (q := wd) (by omega)), dv 7 (by decide) (by decide), md wd (by omega), opSub_i, aNil_ap]
          rw [tupK_ok (by simp)]
          simp only [toS_ok, hdD]
        · have s1 := Int.mul_le_mul_of_nonneg_right o1 (show 0 ≤ wd by omega)
          have hWe : hW ⟨number, o.size * wd - cell / 5 / 7 % wd, wd, o.num⟩ = mn (o.size * wd - cell / 5 / 7 % wd) wd := if_neg (by show o.num ≠ -1; omega)
          unfold NewOk
          rw [hWe]
          have hle : mn (o.size * wd - cell / 5 / 7 % wd) wd ≤ most ∧ 1 ≤ mn (o.size * wd - cell / 5 / 7 % wd) wd := by unfold mn; split <;> omega
          have hle2 := mulle hle.1 w1
          refine ⟨hle.2, by omega, by show 1 ≤ o.size * wd - _; omega, ?_, .inr ⟨o, hom, rfl, by show 1 ≤ wd; omega, .inl (by show wd ≤ 4; omega)⟩⟩
          show o.size * wd - cell / 5 / 7 % wd ≤ _
          by_cases h7 : wd < o.size * wd - cell / 5 / 7 % wd
          · have : mn (o.size * wd - cell / 5 / 7 % wd) wd = wd := if_pos h7
            rw [this]
            have := Int.mul_le_mul_of_nonneg_right o2 (show 0 ≤ wd by omega)
            omega
          · have : mn (o.size * wd - cell / 5 / 7 % wd) wd = o.size * wd - cell / 5 / 7 % wd := if_neg h7
            rw [this]
            have := Int.mul_le_mul_of_nonneg_right w1 (show 0 ≤ o.size * wd - cell / 5 / 7 % wd by omega)
            omega
      rw [sSeq_ap]
      simp only [sIf_ap, tAndM_ap, tBl_ap, e2_ap, eVar_ap, List.getElem?_cons_zero, List.getElem?_cons_succ, varK_some, Out.bind_ok, e2K_ap, eCon_ap, hx2', opEq_i, blK_ap]
      obtain ⟨h, e, e2', e3⟩ := ret2
      by_cases h3 : o.size = 1
      · simp only [h3, decide_true, andK_t, tBl_ap, e2_ap, eVar_ap, List.getElem?_cons_zero, List.getElem?_cons_succ, varK_some, Out.bind_ok, e2K_ap, eCon_ap, dv 3 (by decide) (by decide), md 2 (by decide), opEq_i, blK_ap, toS_ok]
        by_cases h4 : cell / 5 / 3 % 2 = 1
        · have c0 := Int.emod_nonneg (cell / 5) (show (100000000000000000000000000000 : Int) ≠ 0 by decide)
          refine ⟨⟨number, wd, 100000000000000000000000000000 + cell / 5 % 100000000000000000000000000000, o.num⟩, μ ++ [O.lst []], ?_, Kp.app, rfl, ?_⟩
          · simp only [h4, decide_true, ifK_t, sRet_ap, eTup_ap, aCons_ap, eCon_ap, Out.bind_ok, consK_ap, eVar_ap, List.getElem?_cons_zero, List.getElem?_cons_succ, varK_some, e2_ap, e2K_ap, hx1', pow29, md 100000000000000000000000000000 (by decide), opAdd_i, aNil_ap]
            rw [tupK_ok (by simp)]
            simp only [toS_ok, seqK_ret, finK_ret, hdD]
          · have hWe : hW ⟨number, wd, 100000000000000000000000000000 + cell / 5 % 100000000000000000000000000000, o.num⟩ = wd := by
              unfold hW
              rw [if_neg (by show o.num ≠ -1; omega)]
              exact if_neg (by show ¬ ((100000000000000000000000000000 + cell / 5 % 100000000000000000000000000000 : Int) < wd); omega)
            unfold NewOk
            rw [hWe]
            have hle := mulle (show wd ≤ most by omega) w1
            have := Int.mul_le_mul_of_nonneg_right w1 (show 0 ≤ wd by omega)
            exact ⟨by omega, by omega, by show 1 ≤ wd; omega, by show wd ≤ _; omega, .inr ⟨o, hom, rfl, by show (1 : Int) ≤ _ + _; omega, .inr h3⟩⟩
        · refine ⟨h, μ ++ [O.lst []], ?_, Kp.app, e2', e3⟩
          simp only [h4, decide_false, ifK_f, sNx_ap, e, seqK_ret, finK_ret]
      · refine ⟨h, μ ++ [O.lst []], ?_, Kp.app, e2', e3⟩
        simp only [h3, decide_false, andK_f, toS_ok, ifK_f, sNx_ap, e, seqK_ret, finK_ret]
  · obtain ⟨h, e, e2', e3⟩ := tail μ
    refine ⟨h, μ, ?_, Kp.refl, e2', e3⟩
    simp only [h1, decide_false, andK_f, toS_ok, ifK_f, sNx_ap, seqK_nx, e, finK_ret]
end K43
namespace K43
open PySem PySem.Spec PyProof.Rows L2 MM
/-- an open loop (or the whole): its head, its body so far, the ways to it, its scope, its places -/
structure Lv where
  hd : Hd
  body : List Nd
  ways : List Way
  sc : Sc
  br : Nat
  wr : Nat
structure HI (U : List Int) (M : List Nat) (hR bR wR dR : Nat) (hs : List Hd) (st : List Lv) (due : List (List Int × D)) (μ : MH) : Prop where
  lt : ∀ i ∈ M, i < μ.length
  mh : hR ∈ M
  mB : bR ∈ M
  mw : wR ∈ M
  md : dR ∈ M
  mb : ∀ l ∈ st, l.br ∈ M
  nd : (hR :: bR :: wR :: dR :: st.map Lv.br).Nodup
  h : μ[hR]? = some (.lst (hs.map hdD))
  b : μ[bR]? = some (.lst ((st.map Lv.br).reverse.map D.ref))
  w : μ[wR]? = some (.lst ((st.map Lv.wr).reverse.map D.ref))
  d : μ[dR]? = some (.lst (due.map rowD))
  bo : ∀ l ∈ st, μ[l.br]? = some (.lst (nds l.body))
  wo : ∀ l ∈ st, l.wr ∉ M ∧ ∃ xs, μ[l.wr]? = some (.lst xs) ∧ Paired (WayR U M μ l.sc) xs l.ways
section
variable {U : List Int} {M : List Nat} {hR bR wR dR : Nat} {hs : List Hd} {st rest : List Lv} {top : Lv} {due : List (List Int × D)} {μ μ' : MH}
theorem HI.kp (H : HI U M hR bR wR dR hs st due μ) (k : Kp μ μ') : HI U M hR bR wR dR hs st due μ' where
  lt := fun i hi => Nat.lt_of_lt_of_le (H.lt i hi) k.2
  mh := H.mh
  mB := H.mB
  mw := H.mw
  md := H.md
  mb := H.mb
  nd := H.nd
  h := k.get H.h
  b := k.get H.b
  w := k.get H.w
  d := k.get H.d
  bo := fun l hl => k.get (H.bo l hl)
  wo := fun l hl => by
    obtain ⟨h1, xs, h2, h3⟩ := H.wo l hl
    exact ⟨h1, xs, k.get h2, PySem.Paired.mono (fun a b r => r.mono fun i o _ e => k.get e) h3⟩
/-- a change at one of M touches no way -/
theorem HI.wset (H : HI U M hR bR wR dR hs st due μ) {m : Nat} (hm : m ∈ M) (o : O) : ∀ l ∈ st, l.wr ∉ M ∧ ∃ xs, (μ.set m o)[l.wr]? = some (.lst xs) ∧ Paired (WayR U M (μ.set m o) l.sc) xs l.ways := fun l hl => by
  obtain ⟨h1, xs, h2, h3⟩ := H.wo l hl
  exact ⟨h1, xs, set_ne (fun e => h1 (e ▸ hm)) h2, PySem.Paired.mono (fun a b r => r.mono fun i o hi e => set_ne (fun z => hi (z ▸ hm)) e) h3⟩
theorem HI.ne (H : HI U M hR bR wR dR hs st due μ) : hR ≠ bR ∧ hR ≠ wR ∧ hR ≠ dR ∧ bR ≠ wR ∧ bR ≠ dR ∧ wR ≠ dR ∧ ∀ l ∈ st, l.br ≠ hR ∧ l.br ≠ bR ∧ l.br ≠ wR ∧ l.br ≠ dR := by
  have := H.nd
  simp only [List.nodup_cons, List.mem_cons, not_or] at this
  obtain ⟨⟨a1, a2, a3, a4⟩, ⟨b1, b2, b3⟩, ⟨c1, c2⟩, d1, _⟩ := this
  exact ⟨a1, a2, a3, b1, b2, c1, fun l hl => ⟨fun e => a4 (e ▸ List.mem_map_of_mem hl), fun e => b3 (e ▸ List.mem_map_of_mem hl), fun e => c2 (e ▸ List.mem_map_of_mem hl), fun e => d1 (e ▸ List.mem_map_of_mem hl)⟩⟩
theorem HI.setDue (H : HI U M hR bR wR dR hs st due μ) (due' : List (List Int × D)) : HI U M hR bR wR dR hs st due' (μ.set dR (.lst (due'.map rowD))) := by
  obtain ⟨a1, a2, a3, b1, b2, c1, dd⟩ := H.ne
  exact ⟨fun i hi => by rw [List.length_set]; exact H.lt i hi, H.mh, H.mB, H.mw, H.md, H.mb, H.nd, set_ne (Ne.symm a3) H.h, set_ne (Ne.symm b2) H.b, set_ne (Ne.symm c1) H.w, set_self H.d, fun l hl => set_ne (Ne.symm (dd l hl).2.2.2) (H.bo l hl), H.wset H.md _⟩
theorem HI.body (H : HI U M hR bR wR dR hs (top :: rest) due μ) (bd : List Nd) : HI U M hR bR wR dR hs ({ top with body := bd } :: rest) due (μ.set top.br (.lst (nds bd))) := by
  obtain ⟨a1, a2, a3, b1, b2, c1, dd⟩ := H.ne
  obtain ⟨e1, e2, e3, e4⟩ := dd top (List.mem_cons_self ..)
  have hb := H.mb top (List.mem_cons_self ..)
  have hnd := H.nd
  simp only [List.map_cons, List.nodup_cons] at hnd
  have hnr : ∀ l ∈ rest, l.br ≠ top.br := fun l hl e => hnd.2.2.2.2.1 (e ▸ List.mem_map_of_mem hl)
  refine ⟨fun i hi => by rw [List.length_set]; exact H.lt i hi, H.mh, H.mB, H.mw, H.md, ?_, H.nd, set_ne e1 H.h, set_ne e2 H.b, set_ne e3 H.w, set_ne e4 H.d, ?_, ?_⟩
  · intro l hl
    rcases List.mem_cons.mp hl with rfl | hl
    · exact hb
    · exact H.mb l (List.mem_cons_of_mem _ hl)
  · intro l hl
    rcases List.mem_cons.mp hl with rfl | hl
    · exact set_self (H.bo top (List.mem_cons_self ..))
    · exact set_ne (Ne.symm (hnr l hl)) (H.bo l (List.mem_cons_of_mem _ hl))
  · intro l hl
    rcases List.mem_cons.mp hl with rfl | hl
    · exact H.wset hb _ top (List.mem_cons_self ..)
    · exact H.wset hb _ l (List.mem_cons_of_mem _ hl)
theorem atI_last {α : Type} {xs : List α} {x : α} : atI (xs ++ [x]) (-1) = some x := by
  unfold atI
  have : ixN (xs ++ [x]).length (-1) = some xs.length := by
    unfold ixN
    rw [if_neg (by decide)]
    simp
    omega
  rw [this]
  simp
theorem HI.lastB (H : HI U M hR bR wR dR hs (top :: rest) due μ) : opIx (.ref bR) (.int (-1)) μ = .ok (.ref top.br) μ := by
  refine opIx_l H.b ?_
  rw [List.map_cons, List.reverse_cons, List.map_append]
  exact atI_last
theorem HI.lastW (H : HI U M hR bR wR dR hs (top :: rest) due μ) : opIx (.ref wR) (.int (-1)) μ = .ok (.ref top.wr) μ := by
  refine opIx_l H.w ?_
  rw [List.map_cons, List.reverse_cons, List.map_append]
  exact atI_last
theorem nds_snoc (b : List Nd) (x : Nd) : nds (b ++ [x]) = nds b ++ [nd x] := by rw [nds_map, nds_map]; simp
theorem nds_len (b : List Nd) : (nds b).length = b.length := by rw [nds_map]; simp
/-- what a deed put into a scope must be -/
def DeedOk (hs : List Hd) (own turn : List Int) (word : Str) : Prop := (∀ k ∈ own, k ∈ hs.map Hd.num) ∧ (∀ k ∈ turn, k ∈ hs.map Hd.num) ∧ own.length ≤ 4 ∧ turn.length ≤ 4 ∧ PyData.strOk word = true
theorem put_ok {cell number : Int} (n : Nat) (H : HI U M hR bR wR dR hs (top :: rest) due μ) (hsc : ∀ k ∈ hs.map Hd.num, k ∈ top.sc.map (·.1)) (hml : ∀ w ∈ top.ways, w.1.length < 1000) (hwl : top.ways.length < 1000) (hdl : due.length < 800000) (hbl : top.body.length < 800000) :
    ∃ line word own turn μ', Ph dep tab (n + 4) ("_law_put", none) [.int cell, .int number, .ref hR, .ref bR, .ref wR, .ref dR] μ = .ok .non μ' ∧ DeedOk hs own turn word ∧ μ.length ≤ μ'.length ∧
      HI U M hR bR wR dR hs ({ top with body := top.body ++ [.deed number line word own turn] } :: rest) (due ++ rowsIn top.body.length line word own turn top.ways) μ' := by
  obtain ⟨line, word, own, turn, μ1, e1, k1, o1, t1, o2, t2, wk⟩ := deed_ok (cell := cell) (number := number) n H.h
  have H1 := H.kp k1
  obtain ⟨wn, xs, hx, hp⟩ := H1.wo top (List.mem_cons_self ..)
  obtain ⟨μ2, e2', r2, k2, k2'⟩ := rows_ok (place := top.body.length) (num := number) (line := line) (word := word) (own := own) (turn := turn) (n + 1) hx hp (fun k hk => hsc k (o1 k hk)) (fun k hk => hsc k (t1 k hk)) (by omega) (by omega) hml (by omega)
  have H2 := H1.kp ⟨k2, k2'⟩
  have H3 := H2.setDue (due ++ rowsIn top.body.length line word own turn top.ways)
  have H4 := H3.body (top.body ++ [.deed number line word own turn])
  have hdr : μ1[dR]? = some (.lst (due.map rowD)) := H1.d
  have hext := mExtend_ap H2.d r2 (by simp [rowsIn]; omega)
  rw [← List.map_append] at hext
  have hbody := H3.bo top (List.mem_cons_self ..)
  refine ⟨line, word, own, turn, _, ?_, ⟨o1, t1, o2, t2, wk⟩, ?_, H4⟩
  · rw [show n + 4 = (n + 2) + 2 by omega, t_law_put]
    have hfl : fLen [.ref top.br] μ1 = .ok (.int (top.body.length : Nat)) μ1 := by rw [fLen_l (H1.bo top (List.mem_cons_self ..)), nds_len]
    simp only [runFn_6, Nat.reduceSub, List.reduceReplicate, sSeq_ap, sAsg_ap, eN_ap, aCons_ap, eVar_ap, List.getElem?_cons_zero, List.getElem?_cons_succ, varK_some, Out.bind_ok, consK_ap, aNil_ap, e1, toS_ok, asgK_nm, List.set_cons_zero, List.set_cons_succ, seqK_nx, sEx_ap, eMeth_ap, methK_lst H1.d, e2_ap, e2K_ap, e1_ap, eCon_ap, opNeg_i, H1.lastW, H1.lastB, hfl]
    simp only [e2', Out.bind_ok, hext, toS_ok, seqK_nx, sEx_ap, eMeth_ap, e2_ap, e2K_ap, e1_ap, eCon_ap, opNeg_i, eVar_ap, List.getElem?_cons_zero, List.getElem?_cons_succ, varK_some, H3.lastB, methK_lst hbody, aCons_ap, consK_ap, aNil_ap]
    rw [mAppend_ap hbody (by rw [nds_len]; omega), ← nds_snoc]
    simp only [toS_ok, finK_nx]
  · rw [List.length_set, List.length_set]
    exact Nat.le_trans k1.2 k2'
end
end K43
namespace K43
open PySem PySem.Spec PyProof.Rows L2 MM
section
variable {U : List Int} {M : List Nat} {hR bR wR dR : Nat} {hs : List Hd} {st rest : List Lv} {top next : Lv} {due : List (List Int × D)} {μ μ' : MH}
def popHeap (wR bR hR : Nat) (st : List Lv) (hs : List Hd) (μ : MH) : MH := ((μ.set wR (.lst ((st.map Lv.wr).reverse.map D.ref))).set bR (.lst ((st.map Lv.br).reverse.map D.ref))).set hR (.lst (hs.map hdD))
theorem HI.pop (H : HI U M hR bR wR dR (hs ++ [top.hd]) (top :: st) due μ) : HI U M hR bR wR dR hs st due (popHeap wR bR hR st hs μ) := by
  obtain ⟨a1, a2, a3, b1, b2, c1, dd⟩ := H.ne
  have hnd := H.nd
  have hnd' : (hR :: bR :: wR :: dR :: st.map Lv.br).Nodup := by
    refine hnd.sublist ?_
    rw [List.map_cons]
    exact .cons_cons _ (.cons_cons _ (.cons_cons _ (.cons_cons _ (.cons _ (List.Sublist.refl _)))))
  refine ⟨fun i hi => by unfold popHeap; rw [List.length_set, List.length_set, List.length_set]; exact H.lt i hi, H.mh, H.mB, H.mw, H.md, fun l hl => H.mb l (List.mem_cons_of_mem _ hl), hnd', ?_, ?_, ?_, ?_, fun l hl => ?_, fun l hl => ?_⟩
  · exact set_self (set_ne (Ne.symm a1) (set_ne (Ne.symm a2) H.h))
  · exact set_ne a1 (set_self (set_ne (Ne.symm b1) H.b))
  · exact set_ne a2 (set_ne b1 (set_self H.w))
  · exact set_ne a3 (set_ne b2 (set_ne c1 H.d))
  · obtain ⟨e1, e2, e3, e4⟩ := dd l (List.mem_cons_of_mem _ hl)
    exact set_ne (Ne.symm e1) (set_ne (Ne.symm e2) (set_ne (Ne.symm e3) (H.bo l (List.mem_cons_of_mem _ hl))))
  · obtain ⟨h1, xs, h2, h3⟩ := H.wo l (List.mem_cons_of_mem _ hl)
    have k : ∀ i o, i ∉ M → μ[i]? = some o → (popHeap wR bR hR st hs μ)[i]? = some o := fun i o hi e =>
      set_ne (fun z => hi (z ▸ H.mh)) (set_ne (fun z => hi (z ▸ H.mB)) (set_ne (fun z => hi (z ▸ H.mw)) e))
    exact ⟨h1, xs, k _ _ h1 h2, PySem.Paired.mono (fun a b r => r.mono k) h3⟩
/-- the part behind the test of an empty body -/
noncomputable abbrev sEnd2 : Ms := (sSeq (sEx (eMeth (onT .list mPop) (eVar 4) aNil))
    (sSeq (sAsg (eN fTuple (aCons (eMeth (onT .list mPop) (eVar 3) aNil) aNil)) (.nm 6))
    (sEx (eMeth (onT .list mAppend) (e2 opIx (eVar 3) (e1 opNeg (eCon (.int 1)))) (aCons (e2 opAdd (eMeth (onT .list mPop) (eVar 2) aNil) (eTup (aCons (eVar 6) aNil))) aNil)))))
def lpNd (h : Hd) (b : List Nd) : Nd := .loop h.num h.size h.width h.outer b
theorem end2_ok {x0 x1 x5 x6 : Option D} (H : HI U M hR bR wR dR (hs ++ [top.hd]) (top :: next :: rest) due μ) (hbl : next.body.length < 800000) :
    ∃ τ μ', sEnd2 [x0, x1, some (.ref hR), some (.ref bR), some (.ref wR), x5, x6] μ = .ok (.nx τ) μ' ∧ HI U M hR bR wR dR hs ({ next with body := next.body ++ [lpNd top.hd top.body] } :: rest) due μ' ∧ μ.length ≤ μ'.length := by
  obtain ⟨a1, a2, a3, b1, b2, c1, dd⟩ := H.ne
  have HP := H.pop
  have HF := HP.body (next.body ++ [lpNd top.hd top.body])
  have hw := H.w
  rw [List.map_cons, List.reverse_cons, List.map_append] at hw
  let μ1 : MH := μ.set wR (.lst (((next :: rest).map Lv.wr).reverse.map D.ref))
  have hp1 : mPop (.ref wR) [] μ = .ok (.ref top.wr) μ1 := mPop_ap hw
  have hb1 : μ1[bR]? = some (.lst (((top :: next :: rest).map Lv.br).reverse.map D.ref)) := set_ne (Ne.symm b1) H.b
  have hb1' := hb1
  rw [List.map_cons, List.reverse_cons, List.map_append] at hb1'
  let μ2 : MH := μ1.set bR (.lst (((next :: rest).map Lv.br).reverse.map D.ref))
  have hp2 : mPop (.ref bR) [] μ1 = .ok (.ref top.br) μ2 := mPop_ap hb1'
  obtain ⟨e1, e2', e3, e4⟩ := dd top (List.mem_cons_self ..)
  have ht2 : μ2[top.br]? = some (.lst (nds top.body)) := set_ne (Ne.symm e2') (set_ne (Ne.symm e3) (H.bo top (List.mem_cons_self ..)))
  have hb2 : μ2[bR]? = some (.lst (((next :: rest).map Lv.br).reverse.map D.ref)) := set_self hb1
  have hlast : opIx (.ref bR) (.int (-1)) μ2 = .ok (.ref next.br) μ2 := by
    refine opIx_l hb2 ?_
    rw [List.map_cons, List.reverse_cons, List.map_append]
    exact atI_last
  have hh2 : μ2[hR]? = some (.lst ((hs ++ [top.hd]).map hdD)) := set_ne (Ne.symm a1) (set_ne (Ne.symm a2) H.h)
  have hh2' := hh2
  rw [List.map_append] at hh2'
  have hp3 : mPop (.ref hR) [] μ2 = .ok (hdD top.hd) (popHeap wR bR hR (next :: rest) hs μ) := mPop_ap hh2'
  obtain ⟨f1, f2, f3, f4⟩ := dd next (List.mem_cons_of_mem _ (List.mem_cons_self ..))
  have hn2 : μ2[next.br]? = some (.lst (nds next.body)) := set_ne (Ne.symm f2) (set_ne (Ne.symm f3) (H.bo next (List.mem_cons_of_mem _ (List.mem_cons_self ..))))
  have hn3 := HP.bo next (List.mem_cons_self ..)
  have hadd : ∀ ν : MH, opAdd (hdD top.hd) (.tup [.tup (nds top.body)]) ν = .ok (nd (lpNd top.hd top.body)) ν := fun ν => opAdd_t (by simp)
  refine ⟨[x0, x1, some (.ref hR), some (.ref bR), some (.ref wR), x5, some (.tup (nds top.body))], _, ?_, HF, by rw [List.length_set]; unfold popHeap; rw [List.length_set, List.length_set, List.length_set]; exact Nat.le_refl _⟩
  simp only [sEnd2, sSeq_ap, sEx_ap, eMeth_ap, eVar_ap, List.getElem?_cons_zero, List.getElem?_cons_succ, varK_some, Out.bind_ok, methK_lst hw, aNil_ap, hp1, toS_ok, seqK_nx, sAsg_ap, eN_ap, aCons_ap, methK_lst hb1, hp2, consK_ap, fTuple_l ht2, asgK_nm, List.set_cons_zero, List.set_cons_succ, e2_ap, e2K_ap, e1_ap, eCon_ap, opNeg_i, hlast, methK_lst hn2, methK_lst hh2, hp3, eTup_ap]
  rw [tupK_ok (by simp)]
  simp only [Out.bind_ok, hadd, consK_ap, aNil_ap]
  rw [mAppend_ap hn3 (by rw [nds_len]; omega), ← nds_snoc]
  simp only [toS_ok]
theorem end_ok {cell number : Int} (n : Nat) (H : HI U M hR bR wR dR (hs ++ [top.hd]) (top :: next :: rest) due μ) (hsc : ∀ k ∈ (hs ++ [top.hd]).map Hd.num, k ∈ top.sc.map (·.1)) (hml : ∀ w ∈ top.ways, w.1.length < 1000) (hwl : top.ways.length < 1000) (hdl : due.length < 800000)
    (hbl : next.body.length < 800000) (hdep : depL top.body ≤ 28) (hwd : wdL top.body) :
    ∃ bd due2 μ', Ph dep tab (n + 5) ("_law_end", none) [.int cell, .int number, .ref hR, .ref bR, .ref wR, .ref dR] μ = .ok .non μ' ∧ μ.length ≤ μ'.length ∧ HI U M hR bR wR dR hs ({ next with body := next.body ++ [lpNd top.hd bd] } :: rest) due2 μ' ∧
      ((bd = top.body ∧ due2 = due) ∨ (top.body = [] ∧ ∃ line word own turn, DeedOk (hs ++ [top.hd]) own turn word ∧ bd = [.deed number line word own turn] ∧ due2 = due ++ rowsIn 0 line word own turn top.ways)) := by
  have k1 : Kp μ (μ ++ [O.lst []]) := Kp.app
  have H1 := H.kp k1
  have hcmp := opEq_of (body_nil (H1.bo top (List.mem_cons_self ..)) (app_self (μ := μ) (x := .lst [])) hdep hwd)
  rw [show n + 5 = (n + 3) + 2 by omega, t_law_end]
  simp only [runFn_6, Nat.reduceSub, List.reduceReplicate]
  rw [sSeq_ap]
  simp only [sIf_ap, tBl_ap, e2_ap, eVar_ap, List.getElem?_cons_zero, List.getElem?_cons_succ, varK_some, Out.bind_ok, e2K_ap, e1_ap, eCon_ap, opNeg_i, H.lastB, eLst_ap, aNil_ap, lstK_ok (show ([] : List D).length ≤ 100 by decide), hcmp, blK_ap, toS_ok]
  cases hb : top.body with
  | nil =>
    obtain ⟨line, word, own, turn, μ2, e2', dk, l2, H2⟩ := put_ok (cell := cell) (number := number) n H1 hsc hml hwl hdl (by rw [hb]; simp)
    obtain ⟨τ, μ3, e3, H3, l3⟩ := end2_ok (top := { top with body := top.body ++ [.deed number line word own turn] }) (x0 := some (.int cell)) (x1 := some (.int number)) (x5 := some (.ref dR)) (x6 := none) H2 hbl
    refine ⟨[.deed number line word own turn], _, μ3, ?_, Nat.le_trans (Nat.le_trans k1.2 l2) l3, ?_, .inr ⟨rfl, line, word, own, turn, dk, rfl, rfl⟩⟩
    · simp only [List.isEmpty_nil, ifK_t, sEx_ap, eN_ap, aCons_ap, eVar_ap, List.getElem?_cons_zero, List.getElem?_cons_succ, varK_some, Out.bind_ok, consK_ap, aNil_ap]
      rw [show n + 3 + 1 = n + 4 by omega]
      simp only [e2', toS_ok, seqK_nx, e3, finK_nx]
    · rw [hb] at H3
      exact H3
  | cons y ys =>
    obtain ⟨τ, μ3, e3, H3, l3⟩ := end2_ok (x0 := some (.int cell)) (x1 := some (.int number)) (x5 := some (.ref dR)) (x6 := none) H1 hbl
    refine ⟨_, _, μ3, ?_, Nat.le_trans k1.2 l3, H3, .inl ⟨hb, rfl⟩⟩
    simp only [List.isEmpty_cons, ifK_f, sNx_ap, seqK_nx, e3, finK_nx]
end
end K43
namespace K43
open PySem PySem.Spec PyProof.Rows L2 MM
section
variable {U : List Int} {M : List Nat} {hR bR wR dR : Nat} {hs : List Hd} {st rest : List Lv} {top next : Lv} {due : List (List Int × D)} {μ μ' : MH}
noncomputable abbrev sPush (n : Nat) : Ms := (sSeq (sEx (eMeth (onT .list mAppend) (eVar 4) (aCons (eN (Ph dep tab (n + 1) ("_law_head_by", none)) (aCons (e2 opIx (eVar 0) (eVar 8)) (aCons (eVar 9) (aCons (eVar 4) (aCons (e2 opDiv (eCon (.int 24)) (eN (Ph dep tab (n + 1) ("_law_worth", none)) (aCons (eVar 4) aNil))) aNil))))) aNil)))
    (sSeq (sEx (eMeth (onT .list mAppend) (eVar 6) (aCons (eN (Ph dep tab (n + 1) ("_law_ways_within", none)) (aCons (e2 opIx (eVar 6) (e1 opNeg (eCon (.int 1)))) (aCons (eN fLen (aCons (e2 opIx (eVar 5) (e1 opNeg (eCon (.int 1)))) aNil)) (aCons (e2 opIx (eVar 4) (e1 opNeg (eCon (.int 1)))) aNil)))) aNil)))
    (sEx (eMeth (onT .list mAppend) (eVar 5) (aCons (eLst aNil) aNil)))))
theorem push_ok (hU : U.length < 1000) {ns : List Int} {k : Nat} {cell number : Int} {x1 x2 x3 x10 x11 : Option D} (n : Nat) (H : HI U M hR bR wR dR hs (top :: rest) due μ) (ok : HsOk hs) (hk : ns[k]? = some cell) (hsc : scOf hs = top.sc) (hnn : number ∉ hs.map Hd.num) (hnU : number ∈ U)
    (he : ∀ w ∈ top.ways, EnvOk top.sc w.2 ∧ w.1.length < 1000) (hwl : ∀ h, h.num = number → NewOk hs h → (waysIn top.body.length h top.ways).length < 900000) (hl : hs.length < 1000) (hl2 : rest.length < 1000) :
    ∃ h M' br wr μ', sPush (n + 1) [some (.frl (isD ns)), x1, x2, x3, some (.ref hR), some (.ref bR), some (.ref wR), some (.ref dR), some (.int k), some (.int number), x10, x11] μ =
        .ok (.nx [some (.frl (isD ns)), x1, x2, x3, some (.ref hR), some (.ref bR), some (.ref wR), some (.ref dR), some (.int k), some (.int number), x10, x11]) μ' ∧
      h.num = number ∧ NewOk hs h ∧ HdOk top.sc h ∧ HI U M' hR bR wR dR (hs ++ [h]) (⟨h, [], waysIn top.body.length h top.ways, (h.num, h.size) :: top.sc, br, wr⟩ :: top :: rest) due μ' ∧ μ.length ≤ μ'.length := by
  obtain ⟨w1, w2⟩ := ok.all
  have m1 : 1 ≤ 24 / worth hs := Int.le_ediv_of_mul_le (by omega) (by omega)
  have m2 : worth hs * (24 / worth hs) ≤ 24 := Int.mul_ediv_self_le (by omega)
  obtain ⟨h, μ1, e1, k1, hnum, hnew⟩ := head_ok (cell := cell) (number := number) (most := 24 / worth hs) n H.h ok m1 m2
  have hwth := worth_ok (n) H.h ok.w
  have H1 := H.kp k1
  obtain ⟨a1, a2, a3, b1, b2, c1, dd⟩ := H.ne
  have hhd : HdOk top.sc h := hsc ▸ NewOk.hd ok hnew (by rw [hnum]; exact hnn)
  let μ2 : MH := μ1.set hR (.lst ((hs ++ [h]).map hdD))
  have hl12 : μ2.length = μ1.length := List.length_set
  obtain ⟨tw1, xs, tw2, tw3⟩ := H1.wset H.mh (.lst ((hs ++ [h]).map hdD)) top (List.mem_cons_self ..)
  obtain ⟨r3, μ3, ys, e3, hr3, g3, p3, k3, k3'⟩ := ways_ok (place := top.body.length) (h := h) hU (n) (μ := μ2) tw2 tw3 (fun i hi => by rw [hl12]; exact H1.lt i hi) hhd (by rw [hnum]; exact hnU) he (hwl h hnum hnew)
  have kp3 : Kp μ2 μ3 := ⟨k3, k3'⟩
  have hw2 : μ2[wR]? = some (.lst (((top :: rest).map Lv.wr).reverse.map D.ref)) := set_ne a2 H1.w
  have hw3 := kp3.get hw2
  have hb2 : μ2[bR]? = some (.lst (((top :: rest).map Lv.br).reverse.map D.ref)) := set_ne a1 H1.b
  let W4 : List D := (((top :: rest).map Lv.wr).reverse.map D.ref) ++ [.ref r3]
  let μ4 : MH := μ3.set wR (.lst W4)
  have hl34 : μ4.length = μ3.length := List.length_set
  have hb4 : μ4[bR]? = some (.lst (((top :: rest).map Lv.br).reverse.map D.ref)) := set_ne (Ne.symm b1) (kp3.get hb2)
  let μ5 : MH := μ4 ++ [.lst []]
  let B6 : List D := (((top :: rest).map Lv.br).reverse.map D.ref) ++ [.ref μ4.length]
  let μ6 : MH := μ5.set bR (.lst B6)
  have hb5 : μ5[bR]? = some (.lst (((top :: rest).map Lv.br).reverse.map D.ref)) := app_get _ hb4
  have hlast : opIx (.ref hR) (.int (-1)) μ2 = .ok (hdD h) μ2 := by
    refine opIx_l (set_self H1.h) ?_
    rw [List.map_append]
    exact atI_last
  have hlW : opIx (.ref wR) (.int (-1)) μ2 = .ok (.ref top.wr) μ2 := by
    refine opIx_l hw2 ?_
    rw [List.map_cons, List.reverse_cons, List.map_append]
    exact atI_last
  have hlB : opIx (.ref bR) (.int (-1)) μ2 = .ok (.ref top.br) μ2 := by
    refine opIx_l hb2 ?_
    rw [List.map_cons, List.reverse_cons, List.map_append]
    exact atI_last
  have htb2 : μ2[top.br]? = some (.lst (nds top.body)) := set_ne (Ne.symm (dd top (List.mem_cons_self ..)).1) (H1.bo top (List.mem_cons_self ..))
  have hix : opIx (.frl (isD ns)) (.int k) μ = .ok (.int cell) μ := opIx_f (atI_nat (by unfold isD; rw [List.getElem?_map, hk]; rfl))
  have hdv : ∀ {ν : MH}, opDiv (.int 24) (.int (worth hs)) ν = .ok (.int (24 / worth hs)) ν := fun {ν} => opDiv_i (by omega) (by omega)
  -- what is kept of the old
  have keep : ∀ i o, i ∉ M → μ1[i]? = some o → μ6[i]? = some o := fun i o hi e => by
    have z1 : μ2[i]? = some o := set_ne (fun z => hi (z ▸ H.mh)) e
    have z3 : μ4[i]? = some o := set_ne (fun z => hi (z ▸ H.mw)) (kp3.get z1)
    exact set_ne (fun z => hi (z ▸ H.mB)) (app_get _ z3)
  have keep3 : ∀ i o, i ∉ M → μ3[i]? = some o → μ6[i]? = some o := fun i o hi e => by
    have z3 : μ4[i]? = some o := set_ne (fun z => hi (z ▸ H.mw)) e
    exact set_ne (fun z => hi (z ▸ H.mB)) (app_get _ z3)
  have Mlt : ∀ i ∈ M, i < μ4.length := fun i hi => by
    have := H1.lt i hi
    rw [hl34]; omega
  have hr3M : r3 ∉ M := fun z => by have := H1.lt _ z; omega
  refine ⟨h, μ4.length :: M, μ4.length, r3, μ6, ?_, hnum, hnew, hhd, ?_, ?_⟩
  · unfold sPush
    rw [sSeq_ap]
    simp only [sEx_ap, eMeth_ap, eVar_ap, List.getElem?_cons_zero, List.getElem?_cons_succ, varK_some, Out.bind_ok, methK_lst H.h, aCons_ap, eN_ap, e2_ap, e2K_ap, eCon_ap, hix, consK_ap, aNil_ap]
    rw [show n + 1 + 1 = n + 2 by omega]
    simp only [hwth, Out.bind_ok, hdv, consK_ap, aNil_ap, e1]
    rw [mAppend_ap H1.h (by simp; omega), show (hs.map hdD ++ [hdD h]) = (hs ++ [h]).map hdD by simp]
    simp only [toS_ok, seqK_nx]
    rw [show μ1.set hR (.lst ((hs ++ [h]).map hdD)) = μ2 from rfl, sSeq_ap]
    have hfl : fLen [.ref top.br] μ2 = .ok (.int (top.body.length : Nat)) μ2 := by rw [fLen_l htb2, nds_len]
    simp only [sEx_ap, eMeth_ap, eVar_ap, List.getElem?_cons_zero, List.getElem?_cons_succ, varK_some, Out.bind_ok, methK_lst hw2, aCons_ap, eN_ap, e2_ap, e2K_ap, e1_ap, eCon_ap, opNeg_i, hlW, hlB, hlast, hfl, consK_ap, aNil_ap]
    simp only [e3, Out.bind_ok, consK_ap, aNil_ap]
    rw [mAppend_ap hw3 (by simp; omega)]
    simp only [toS_ok, seqK_nx]
    rw [show (μ3.set wR (.lst ((((top :: rest).map Lv.wr).reverse.map D.ref) ++ [.ref r3]))) = μ4 from rfl]
    simp only [sEx_ap, eMeth_ap, eVar_ap, List.getElem?_cons_zero, List.getElem?_cons_succ, varK_some, Out.bind_ok, methK_lst hb4, aCons_ap, eLst_ap, aNil_ap, lstK_ok (show ([] : List D).length ≤ 100 by decide), consK_ap]
    rw [mAppend_ap hb5 (by simp; omega)]
    simp only [toS_ok]
    rfl
  · have hnb : ∀ l ∈ top :: rest, l.br ≠ μ4.length := fun l hl => Nat.ne_of_lt (Mlt _ (H.mb l hl))
    have hnd := H.nd
    refine ⟨?_, List.mem_cons_of_mem _ H.mh, List.mem_cons_of_mem _ H.mB, List.mem_cons_of_mem _ H.mw, List.mem_cons_of_mem _ H.md, ?_, ?_, ?_, ?_, ?_, ?_, ?_, ?_⟩
    · intro i hi
      have : μ6.length = μ4.length + 1 := by simp [μ6, μ5]
      rcases List.mem_cons.mp hi with rfl | hi
      · omega
      · have := Mlt i hi; omega
    · intro l hl
      rcases List.mem_cons.mp hl with rfl | hl
      · exact List.mem_cons_self ..
      · exact List.mem_cons_of_mem _ (H.mb l hl)
    · have q1 := Nat.ne_of_lt (Mlt _ H.mh)
      have q2 := Nat.ne_of_lt (Mlt _ H.mB)
      have q3 := Nat.ne_of_lt (Mlt _ H.mw)
      have q4 := Nat.ne_of_lt (Mlt _ H.md)
      have q5 : μ4.length ∉ (top :: rest).map Lv.br := fun z => by
        obtain ⟨l, hl, e⟩ := List.mem_map.mp z
        exact hnb l hl e
      rw [List.map_cons]
      show (hR :: bR :: wR :: dR :: μ4.length :: (top :: rest).map Lv.br).Nodup
      simp only [List.nodup_cons, List.mem_cons, not_or] at hnd ⊢
      obtain ⟨⟨n1, n2, n3, n4⟩, ⟨n5, n6, n7⟩, ⟨n8, n9⟩, n10, n11⟩ := hnd
      exact ⟨⟨n1, n2, n3, q1, n4⟩, ⟨n5, n6, q2, n7⟩, ⟨n8, q3, n9⟩, ⟨q4, n10⟩, q5, n11⟩
    · have z1 : μ2[hR]? = some (.lst ((hs ++ [h]).map hdD)) := set_self H1.h
      exact set_ne (Ne.symm a1) (app_get _ (set_ne (Ne.symm a2) (kp3.get z1)))
    · have : B6 = ((⟨h, [], waysIn top.body.length h top.ways, (h.num, h.size) :: top.sc, μ4.length, r3⟩ :: top :: rest : List Lv).map Lv.br).reverse.map D.ref := by simp [B6]
      rw [← this]
      exact set_self hb5
    · have : W4 = ((⟨h, [], waysIn top.body.length h top.ways, (h.num, h.size) :: top.sc, μ4.length, r3⟩ :: top :: rest : List Lv).map Lv.wr).reverse.map D.ref := by simp [W4]
      rw [← this]
      exact set_ne b1 (app_get _ (set_self hw3))
    · have z1 : μ2[dR]? = some (.lst (due.map rowD)) := set_ne a3 H1.d
      exact set_ne b2 (app_get _ (set_ne c1 (kp3.get z1)))
    · intro l hl
      rcases List.mem_cons.mp hl with rfl | hl
      · exact set_ne (Nat.ne_of_lt (Mlt _ H.mB)) app_self
      · obtain ⟨f1, f2, f3, f4⟩ := dd l hl
        have z1 : μ2[l.br]? = some (.lst (nds l.body)) := set_ne (Ne.symm f1) (H1.bo l hl)
        exact set_ne (Ne.symm f2) (app_get _ (set_ne (Ne.symm f3) (kp3.get z1)))
    · intro l hl
      rcases List.mem_cons.mp hl with rfl | hl
      · refine ⟨?_, ys, keep3 _ _ hr3M g3, PySem.Paired.mono (fun a b r => ?_) p3⟩
        · intro z
          rcases List.mem_cons.mp z with z | z
          · have : r3 < μ3.length := getSome_lt g3
            have z' : r3 = μ4.length := z
            omega
          · exact hr3M z
        · obtain ⟨dr, kvs, r1, r2, r3', r4⟩ := r
          refine ⟨dr, kvs, r1, fun z => ?_, keep3 _ _ r2 r3', r4⟩
          rcases List.mem_cons.mp z with z | z
          · have := getSome_lt r3'
            omega
          · exact r2 z
      · obtain ⟨h1, xs', h2, h3⟩ := H1.wo l hl
        refine ⟨?_, xs', keep _ _ h1 h2, PySem.Paired.mono (fun a b r => ?_) h3⟩
        · intro z
          rcases List.mem_cons.mp z with z | z
          · have := getSome_lt h2
            omega
          · exact h1 z
        · obtain ⟨dr, kvs, r1, r2, r3', r4⟩ := r
          refine ⟨dr, kvs, r1, fun z => ?_, keep _ _ r2 r3', r4⟩
          rcases List.mem_cons.mp z with z | z
          · have := getSome_lt r3'
            omega
          · exact r2 z
  · have : μ6.length = μ4.length + 1 := by simp [μ6, μ5]
    have := k1.2
    omega
end
end K43
namespace K43
open PySem PySem.Spec PyProof.Rows L2 MM
abbrev Row := List Int × D
mutual
def rowN (env : Env) (m : List Int) (p : Int) : Nd → List Row
  | .deed _ l w o t => [(m ++ [p], stp l w (o.map env) (t.map env))]
  | .loop n s w o b => (cnts env s w o).flatMap fun c => rowL (upE env n c) (m ++ [p, c]) 0 b
def rowL (env : Env) (m : List Int) (p : Int) : List Nd → List Row
  | [] => []
  | x :: xs => rowN env m p x ++ rowL env m (p + 1) xs
end
theorem rowL_snoc (env : Env) (m : List Int) : ∀ (b : List Nd) (p : Int) (x : Nd), rowL env m p (b ++ [x]) = rowL env m p b ++ rowN env m (p + b.length) x
  | [], p, x => by simp [rowL]
  | y :: b, p, x => by
    rw [List.cons_append, rowL, rowL_snoc env m b (p + 1) x, rowL, List.append_assoc]
    have : p + 1 + (b.length : Int) = p + ((y :: b).length : Nat) := by simp; omega
    rw [this]
mutual
theorem rowN_snd (env : Env) (m : List Int) (p : Int) : ∀ x : Nd, (rowN env m p x).map (·.2) = walkN env x
  | .deed n l w o t => by simp [rowN, walkN]
  | .loop n s w o b => by
    rw [rowN, walkN, List.map_flatMap]
    congr 1
    funext c
    exact rowL_snd (upE env n c) (m ++ [p, c]) 0 b
theorem rowL_snd (env : Env) (m : List Int) (p : Int) : ∀ b : List Nd, (rowL env m p b).map (·.2) = walk env b
  | [] => by simp [rowL, walk]
  | x :: xs => by rw [rowL, walk, List.map_append, rowN_snd env m p x, rowL_snd env m (p + 1) xs]
end
/-! marks go up -/
theorem lt_app (m : List Int) {a b : List Int} (h : a < b) : m ++ a < m ++ b := by
  induction m with
  | nil => exact h
  | cons x m ih => exact List.cons_lt_cons_iff.mpr (.inr ⟨rfl, ih⟩)
theorem lt_head (m : List Int) {p q : Int} (h : p < q) (t u : List Int) : m ++ p :: t < m ++ q :: u := lt_app m (List.cons_lt_cons_iff.mpr (.inl h))
def Up (rs : List Row) : Prop := rs.Pairwise fun r s => r.1 < s.1
theorem up_flat {cs : List Int} {f : Int → List Row} (hc : cs.Pairwise (· < ·)) (m : List Int) (p : Int) (h1 : ∀ c ∈ cs, Up (f c)) (h2 : ∀ c ∈ cs, ∀ r ∈ f c, ∃ t, r.1 = m ++ p :: c :: t) : Up (cs.flatMap f) := by
  induction cs with
  | nil => exact List.Pairwise.nil
  | cons c cs ih =>
    rw [List.pairwise_cons] at hc
    rw [List.flatMap_cons]
    refine List.pairwise_append.mpr ⟨h1 c (List.mem_cons_self ..), ih hc.2 (fun x hx => h1 x (List.mem_cons_of_mem _ hx)) (fun x hx => h2 x (List.mem_cons_of_mem _ hx)), fun r hr s hs => ?_⟩
    obtain ⟨d, hd, hs⟩ := List.mem_flatMap.mp hs
    obtain ⟨t, e1⟩ := h2 c (List.mem_cons_self ..) r hr
    obtain ⟨u, e2⟩ := h2 d (List.mem_cons_of_mem _ hd) s hs
    rw [e1, e2]
    have := lt_head (m ++ [p]) (hc.1 d hd) t u
    simpa using this
theorem rg_up (a b : Int) : (rg a b).Pairwise (· < ·) := by
  unfold rg
  rw [List.pairwise_map]
  exact List.pairwise_lt_range.imp fun h => by omega
theorem cnts_up (env : Env) (s w o : Int) : (cnts env s w o).Pairwise (· < ·) := by
  unfold cnts; split <;> exact rg_up _ _
mutual
theorem rowN_mark (env : Env) (m : List Int) (p : Int) : ∀ (x : Nd), ∀ r ∈ rowN env m p x, ∃ t, r.1 = m ++ p :: t
  | .deed n l w o t, r, hr => by
    simp only [rowN, List.mem_singleton] at hr
    subst hr
    exact ⟨[], rfl⟩
  | .loop n s w o b, r, hr => by
    rw [rowN] at hr
    obtain ⟨c, hc, hr⟩ := List.mem_flatMap.mp hr
    obtain ⟨q, t, hq, e⟩ := rowL_mark (upE env n c) (m ++ [p, c]) 0 b r hr
    exact ⟨c :: q :: t, by rw [e]; simp⟩
theorem rowL_mark (env : Env) (m : List Int) (p : Int) : ∀ (b : List Nd), ∀ r ∈ rowL env m p b, ∃ q t, p ≤ q ∧ r.1 = m ++ q :: t
  | [], r, hr => by simp [rowL] at hr
  | x :: xs, r, hr => by
    rw [rowL] at hr
    rcases List.mem_append.mp hr with hr | hr
    · obtain ⟨t, e⟩ := rowN_mark env m p x r hr
      exact ⟨p, t, Int.le_refl _, e⟩
    · obtain ⟨q, t, hq, e⟩ := rowL_mark env m (p + 1) xs r hr
      exact ⟨q, t, by omega, e⟩
end
mutual
theorem rowN_up (env : Env) (m : List Int) (p : Int) : ∀ (x : Nd), Up (rowN env m p x)
  | .deed n l w o t => by rw [rowN]; exact List.pairwise_singleton _ _
  | .loop n s w o b => by
    rw [rowN]
    refine up_flat (cnts_up _ _ _ _) m p (fun c _ => rowL_up (upE env n c) (m ++ [p, c]) 0 b) fun c _ r hr => ?_
    obtain ⟨q, t, _, e⟩ := rowL_mark (upE env n c) (m ++ [p, c]) 0 b r hr
    exact ⟨q :: t, by rw [e]; simp⟩
theorem rowL_up (env : Env) (m : List Int) (p : Int) : ∀ (b : List Nd), Up (rowL env m p b)
  | [] => by rw [rowL]; exact List.Pairwise.nil
  | x :: xs => by
    rw [rowL]
    refine List.pairwise_append.mpr ⟨rowN_up env m p x, rowL_up env m (p + 1) xs, fun r hr s hs => ?_⟩
    obtain ⟨t, e1⟩ := rowN_mark env m p x r hr
    obtain ⟨q, u, hq, e2⟩ := rowL_mark env m (p + 1) xs s hs
    rw [e1, e2]
    exact lt_head m (by omega) t u
end
/-! the rows of the open loops -/
def lvRows (l : Lv) : List Row := l.ways.flatMap fun w => rowL w.2 w.1 0 l.body
def stRows (st : List Lv) : List Row := st.flatMap lvRows
theorem flat_app_perm {α β : Type} (f g : α → List β) : ∀ l : List α, (l.flatMap fun x => f x ++ g x).Perm (l.flatMap f ++ l.flatMap g)
  | [] => by simp
  | x :: l => by
    simp only [List.flatMap_cons]
    have ih := flat_app_perm f g l
    have h1 : (f x ++ g x ++ l.flatMap fun x => f x ++ g x).Perm (f x ++ g x ++ (l.flatMap f ++ l.flatMap g)) := List.Perm.append_left _ ih
    refine h1.trans ?_
    rw [List.append_assoc, List.append_assoc]
    refine List.Perm.append_left _ ?_
    rw [← List.append_assoc, ← List.append_assoc]
    exact List.Perm.append_right _ List.perm_append_comm
theorem put_rows {top : Lv} {num line : Int} {word : Str} {own turn : List Int} : (lvRows { top with body := top.body ++ [.deed num line word own turn] }).Perm (lvRows top ++ rowsIn top.body.length line word own turn top.ways) := by
  have e : lvRows { top with body := top.body ++ [.deed num line word own turn] } = top.ways.flatMap fun w => rowL w.2 w.1 0 top.body ++ [(w.1 ++ [(top.body.length : Int)], stp line word (own.map w.2) (turn.map w.2))] := by
    unfold lvRows
    congr 1
    funext w
    rw [rowL_snoc, rowN, Int.zero_add]
  rw [e]
  refine (flat_app_perm _ _ _).trans ?_
  have e2 : (top.ways.flatMap fun w => [(w.1 ++ [(top.body.length : Int)], stp line word (own.map w.2) (turn.map w.2))]) = rowsIn top.body.length line word own turn top.ways := by
    unfold rowsIn
    exact (List.map_eq_flatMap).symm
  rw [e2]
  exact List.Perm.refl _
theorem end_rows {top next : Lv} {bd : List Nd} (hw : top.ways = waysIn next.body.length top.hd next.ways) : (lvRows { next with body := next.body ++ [lpNd top.hd bd] }).Perm (lvRows next ++ lvRows { top with body := bd }) := by
  have e : lvRows { next with body := next.body ++ [lpNd top.hd bd] } = next.ways.flatMap fun w => rowL w.2 w.1 0 next.body ++ (hCnts top.hd w.2).flatMap fun c => rowL (upE w.2 top.hd.num c) (w.1 ++ [(next.body.length : Int), c]) 0 bd := by
    unfold lvRows
    congr 1
    funext w
    rw [rowL_snoc, lpNd, rowN, Int.zero_add]
    rfl
  rw [e]
  refine (flat_app_perm _ _ _).trans ?_
  have e2 : lvRows { top with body := bd } = next.ways.flatMap fun w => (hCnts top.hd w.2).flatMap fun c => rowL (upE w.2 top.hd.num c) (w.1 ++ [(next.body.length : Int), c]) 0 bd := by
    unfold lvRows
    show (top.ways.flatMap fun w => rowL w.2 w.1 0 bd) = _
    rw [hw]
    unfold waysIn
    rw [List.flatMap_assoc]
    congr 1
    funext w
    rw [List.flatMap_map]
  rw [e2]
  exact List.Perm.refl _
/-! sorting -/
theorem uniq {α : Type} {k : α → List Int} : ∀ {l1 l2 : List α}, l1.Perm l2 → l1.Pairwise (fun a b => k a ≤ k b) → l2.Pairwise (fun a b => k a < k b) → l1 = l2
  | [], l2, p, _, _ => (List.Perm.nil_eq p)
  | a :: as, [], p, _, _ => absurd p.length_eq (by simp)
  | a :: as, b :: bs, p, h1, h2 => by
    rw [List.pairwise_cons] at h1 h2
    have hab : a = b := by
      have ha : a ∈ b :: bs := p.mem_iff.mp (List.mem_cons_self ..)
      have hb : b ∈ a :: as := p.mem_iff.mpr (List.mem_cons_self ..)
      rcases List.mem_cons.mp ha with e | ha
      · exact e
      · rcases List.mem_cons.mp hb with e | hb
        · exact e.symm
        · exact absurd (h2.1 a ha) (List.not_lt.mpr (h1.1 b hb))
    subst hab
    rw [uniq (List.perm_cons a |>.mp p) h1.2 h2.2]
theorem intsD_isD : ∀ xs : List Int, intsD (isD xs) = some xs
  | [] => rfl
  | x :: xs => by
    show (intsD (isD xs)).map (x :: ·) = _
    rw [intsD_isD xs]; rfl
theorem keyOf_row (r : Row) : keyOf 0 (rowD r) = r.1 := by
  unfold keyOf rowD
  simp only [atI_0, intsD_isD, Option.getD_some]
theorem sort_rows {due rows : List Row} (hp : due.Perm rows) (hu : Up rows) : (due.map rowD).mergeSort (leK 0) = rows.map rowD := by
  refine uniq (k := keyOf 0) ((List.mergeSort_perm _ _).trans (hp.map _)) ?_ ?_
  · have h1 : ∀ a b c : D, leK 0 a b = true → leK 0 b c = true → leK 0 a c = true := fun a b c h h' => by
      unfold leK at h h' ⊢
      simp only [decide_eq_true_eq] at h h' ⊢
      exact List.le_trans h h'
    have h2 : ∀ a b : D, (leK 0 a b || leK 0 b a) = true := fun a b => by
      unfold leK
      rcases List.le_total (keyOf 0 a) (keyOf 0 b) with h | h <;> simp [h]
    exact (List.pairwise_mergeSort h1 h2 _).imp fun h => by unfold leK at h; simpa using h
  · rw [List.pairwise_map]
    exact hu.imp fun h => by rw [keyOf_row, keyOf_row]; exact h
end K43
namespace K43
open PySem PySem.Spec PyProof.Rows L2 MM
def hdsOf : List Lv → List Hd
  | [] => []
  | [_] => []
  | l :: p :: r => hdsOf (p :: r) ++ [l.hd]
def LvOk (U : List Int) (k : Nat) (l : Lv) : Prop := wfL l.sc l.body ∧ wdL l.body ∧ depL l.body + k ≤ 20 ∧ (∀ x ∈ numL l.body, x ∈ U) ∧ ∀ w ∈ l.ways, EnvOk l.sc w.2 ∧ w.1.length = 2 * k
def Chain (U : List Int) : List Lv → Prop
  | [] => False
  | [b] => b.ways = [([], fun _ => 0)] ∧ b.sc = [] ∧ LvOk U 0 b
  | l :: p :: r => Chain U (p :: r) ∧ l.ways = waysIn p.body.length l.hd p.ways ∧ l.sc = (l.hd.num, l.hd.size) :: p.sc ∧ HdOk p.sc l.hd ∧ LvOk U (r.length + 1) l
section
variable {U : List Int} {l p top next : Lv} {r rest st : List Lv} {hs : List Hd} {due : List Row}
theorem chain_top (h : Chain U (l :: r)) : LvOk U r.length l := by
  cases r with
  | nil => exact h.2.2
  | cons p r => exact h.2.2.2.2
theorem chain_set (h : Chain U (l :: r)) {b : List Nd} (ok : LvOk U r.length { l with body := b }) : Chain U ({ l with body := b } :: r) := by
  cases r with
  | nil => exact ⟨h.1, h.2.1, ok⟩
  | cons p r => exact ⟨h.1, h.2.1, h.2.2.1, h.2.2.2.1, ok⟩
theorem sc_hds : ∀ {st : List Lv} {l : Lv}, Chain U (l :: st) → scOf (hdsOf (l :: st)) = l.sc
  | [], l, h => by rw [hdsOf, h.2.1]; rfl
  | p :: r, l, h => by rw [hdsOf, scOf_app, sc_hds h.1, h.2.2.1]
theorem wf_snoc {S : Sc} {x : Nd} : ∀ {b : List Nd}, wfL S b → wfN S x → wfL S (b ++ [x])
  | [], _, h => by rw [List.nil_append, wfL]; exact ⟨h, by rw [wfL]; trivial⟩
  | y :: b, h, hx => by
    rw [wfL] at h
    rw [List.cons_append, wfL]
    exact ⟨h.1, wf_snoc h.2 hx⟩
theorem wd_snoc {x : Nd} : ∀ {b : List Nd}, wdL b → wdN x → wdL (b ++ [x])
  | [], _, h => by rw [List.nil_append, wdL]; exact ⟨h, by rw [wdL]; trivial⟩
  | y :: b, h, hx => by
    rw [wdL] at h
    rw [List.cons_append, wdL]
    exact ⟨h.1, wd_snoc h.2 hx⟩
theorem dep_snoc {x : Nd} : ∀ {b : List Nd}, depL (b ++ [x]) = max (depL b) (depN x)
  | [] => by simp [depL]
  | y :: b => by rw [List.cons_append, depL, depL, dep_snoc]; omega
theorem num_snoc {x : Nd} : ∀ {b : List Nd}, numL (b ++ [x]) = numL b ++ numN x
  | [] => by simp [numL]
  | y :: b => by rw [List.cons_append, numL, numL, num_snoc, List.append_assoc]
theorem hCnts_len {S : Sc} {h : Hd} {e : Env} (hh : HdOk S h) (he : EnvOk S e) : (hCnts h e).length ≤ (hW h).toNat := by
  obtain ⟨h1, h2, _, h4⟩ := hh
  unfold hCnts cnts hW
  rcases h4 with h4 | ⟨h3, z, hz, h5, h6⟩
  · rw [if_pos h4, if_pos h4]; simp [rg]
  · rw [if_neg h3, if_neg h3]
    obtain ⟨h7, h8, h9⟩ := he _ hz
    have hlow : 0 ≤ e h.outer * h.width := Int.mul_nonneg h7 (by omega)
    simp only [rg, List.length_map, List.length_range]
    unfold mn
    split <;> split <;> omega
theorem waysIn_len {S : Sc} {h : Hd} {q : Int} (hh : HdOk S h) : ∀ {ws : List Way}, (∀ w ∈ ws, EnvOk S w.2) → (waysIn q h ws).length ≤ ws.length * (hW h).toNat
  | [], _ => by simp [waysIn]
  | w :: ws, he => by
    have ih := waysIn_len (q := q) hh (ws := ws) fun x hx => he x (List.mem_cons_of_mem _ hx)
    have h1 := hCnts_len hh (he w (List.mem_cons_self ..))
    unfold waysIn at ih ⊢
    rw [List.flatMap_cons, List.length_append, List.length_map, List.length_cons, Nat.succ_mul]
    omega
theorem ways_le : ∀ {st : List Lv} {l : Lv}, Chain U (l :: st) → WOk (hdsOf (l :: st)) → (l.ways.length : Int) ≤ worth (hdsOf (l :: st))
  | [], l, h, _ => by rw [h.1, hdsOf]; decide
  | p :: r, l, h, hw => by
    have hw' : WOk (hdsOf (p :: r)) := fun i => by
      rw [hdsOf] at hw
      rcases Nat.le_total i (hdsOf (p :: r)).length with hi | hi
      · have := hw i; rwa [List.take_append_of_le_length hi] at this
      · have := hw (hdsOf (p :: r)).length
        rw [List.take_append_of_le_length (Nat.le_refl _), List.take_length] at this
        rw [List.take_of_length_le hi]; exact this
    have ih := ways_le h.1 hw'
    have h1 := waysIn_len (q := p.body.length) h.2.2.2.1 (ws := p.ways) fun w hw => ((chain_top h.1).2.2.2.2 w hw).1
    rw [h.2.1, hdsOf, worth_app]
    have w1 := hw' (hdsOf (p :: r)).length
    rw [List.take_length] at w1
    have hW0 : 0 ≤ hW l.hd := by
      obtain ⟨a1, a2, _, a4⟩ := h.2.2.2.1
      unfold hW mn
      rcases a4 with a4 | ⟨a3, z, hz, a5, a6⟩
      · rw [if_pos a4]; omega
      · rw [if_neg a3]; split <;> omega
    have h2 : ((waysIn p.body.length l.hd p.ways).length : Int) ≤ (p.ways.length : Int) * hW l.hd := by
      have h3 : ((waysIn p.body.length l.hd p.ways).length : Int) ≤ ((p.ways.length * (hW l.hd).toNat : Nat) : Int) := by exact_mod_cast h1
      rw [Int.natCast_mul, Int.toNat_of_nonneg hW0] at h3
      exact h3
    exact Int.le_trans h2 (Int.mul_le_mul_of_nonneg_right ih hW0)
/-- what holds of the open loops and the rows that are due; k the next number, c a count of the steps -/
structure PI (U : List Int) (nm : Nat → Int) (hs : List Hd) (st : List Lv) (due : List Row) (k c : Nat) : Prop where
  ch : Chain U st
  heq : hs = hdsOf st
  ok : HsOk hs
  nums : ∀ h ∈ hs, ∃ i, 1 ≤ i ∧ i < k ∧ h.num = nm i
  perm : due.Perm (stRows st)
  dl : due.length ≤ 24 * c
  bl : ∀ l ∈ st, l.body.length ≤ c
variable {nm : Nat → Int} {k c : Nat}
theorem PI.mono (h : PI U nm hs st due k c) {k' c' : Nat} (hk : k ≤ k') (hc : c ≤ c') : PI U nm hs st due k' c' :=
  ⟨h.ch, h.heq, h.ok, fun x hx => by obtain ⟨i, a, b, e⟩ := h.nums x hx; exact ⟨i, a, by omega, e⟩, h.perm, Nat.le_trans h.dl (by omega), fun l hl => Nat.le_trans (h.bl l hl) hc⟩
theorem PI.wl (h : PI U nm hs (top :: rest) due k c) : top.ways.length ≤ 24 := by
  have := ways_le h.ch (by have := h.ok.w; rwa [h.heq] at this)
  have h2 := h.ok.all
  rw [h.heq] at h2
  omega
theorem PI.sc (h : PI U nm hs (top :: rest) due k c) : scOf hs = top.sc := by rw [h.heq]; exact sc_hds h.ch
theorem PI.put {number line : Int} {word : Str} {own turn : List Int} (h : PI U nm hs (top :: rest) due k c) (dk : DeedOk hs own turn word) :
    PI U nm hs ({ top with body := top.body ++ [.deed number line word own turn] } :: rest) (due ++ rowsIn top.body.length line word own turn top.ways) k (c + 1) := by
  obtain ⟨d1, d2, d3, d4, d5⟩ := dk
  have hsc := h.sc
  obtain ⟨t1, t2, t3, t4, t5⟩ := chain_top h.ch
  have mem : ∀ x ∈ hs.map Hd.num, x ∈ top.sc.map (·.1) := fun x hx => by rw [← hsc]; exact scOf_num.mpr hx
  refine ⟨chain_set h.ch ⟨wf_snoc t1 ?_, wd_snoc t2 ?_, ?_, ?_, t5⟩, ?_, h.ok, h.nums, ?_, ?_, ?_⟩
  · rw [wfN]; exact ⟨fun x hx => mem x (d1 x hx), fun x hx => mem x (d2 x hx), by omega, by omega⟩
  · rw [wdN]; exact d5
  · show depL (top.body ++ [.deed number line word own turn]) + _ ≤ 20
    rw [dep_snoc, depN]; omega
  · intro x hx
    have hx : x ∈ numL (top.body ++ [.deed number line word own turn]) := hx
    rw [num_snoc, numN, List.append_nil] at hx
    exact t4 x hx
  · rw [h.heq]
    cases rest <;> rfl
  · unfold stRows
    rw [List.flatMap_cons]
    have hp := h.perm
    unfold stRows at hp
    rw [List.flatMap_cons] at hp
    refine (List.Perm.append_right _ hp).trans ?_
    refine List.Perm.trans ?_ (List.Perm.append_right _ put_rows.symm)
    rw [List.append_assoc, List.append_assoc]
    exact List.Perm.append_left _ List.perm_append_comm
  · have := h.wl
    have := h.dl
    rw [List.length_append]
    simp only [rowsIn, List.length_map]
    omega
  · intro l hl
    rcases List.mem_cons.mp hl with rfl | hl
    · have := h.bl top (List.mem_cons_self ..)
      simp; omega
    · exact Nat.le_succ_of_le (h.bl l (List.mem_cons_of_mem _ hl))
theorem PI.push {h : Hd} {br wr : Nat} (P : PI U nm hs (top :: rest) due k c) (hn : NewOk hs h) (hk : h.num = nm k) (k1 : 1 ≤ k) (h0 : 0 ≤ h.num) (hd : HdOk top.sc h) (hl : rest.length < 20) :
    PI U nm (hs ++ [h]) (⟨h, [], waysIn top.body.length h top.ways, (h.num, h.size) :: top.sc, br, wr⟩ :: top :: rest) due (k + 1) (c + 1) := by
  obtain ⟨t1, t2, t3, t4, t5⟩ := chain_top P.ch
  refine ⟨⟨P.ch, rfl, rfl, hd, by show wfL _ []; rw [wfL]; trivial, by show wdL []; rw [wdL]; trivial, by show depL [] + _ ≤ _; rw [depL]; omega, fun x hx => absurd (show x ∈ numL [] from hx) (by rw [numL]; simp), fun w hw => ?_⟩, by rw [hdsOf, P.heq], P.ok.snoc hn h0, fun x hx => ?_, ?_, Nat.le_trans P.dl (by omega), fun l hl => ?_⟩
  · have hw : w ∈ top.ways.flatMap fun w => (hCnts h w.2).map fun c => (w.1 ++ [(top.body.length : Int), c], upE w.2 h.num c) := hw
    obtain ⟨v, hv, hw⟩ := List.mem_flatMap.mp hw
    obtain ⟨x, hx, rfl⟩ := List.mem_map.mp hw
    obtain ⟨e1, e2'⟩ := t5 v hv
    obtain ⟨b0, b1⟩ := cnts_ok hd.wf e1 x hx
    exact ⟨e1.put hd.2.2.1 b0 b1 hd.2.1, by simp [e2']; omega⟩
  · rcases List.mem_append.mp hx with hx | hx
    · obtain ⟨i, a, b, e⟩ := P.nums x hx
      exact ⟨i, a, by omega, e⟩
    · simp only [List.mem_singleton] at hx
      subst hx
      exact ⟨k, k1, by omega, hk⟩
  · have hp := P.perm
    have e : lvRows ⟨h, [], waysIn top.body.length h top.ways, (h.num, h.size) :: top.sc, br, wr⟩ = [] := by
      unfold lvRows
      simp [rowL]
    unfold stRows at hp ⊢
    rw [List.flatMap_cons, e]
    exact hp
  · rcases List.mem_cons.mp hl with rfl | hl
    · exact Nat.zero_le _
    · exact Nat.le_succ_of_le (P.bl l hl)
theorem PI.fin {hs' : List Hd} (P : PI U nm hs (top :: next :: rest) due k c) (he : hs = hs' ++ [top.hd]) (hnU : ∀ h ∈ hs, h.num ∈ U) : PI U nm hs' ({ next with body := next.body ++ [lpNd top.hd top.body] } :: rest) due k (c + 1) := by
  obtain ⟨c1, c2, c3, c4, t1, t2, t3, t4, t5⟩ := P.ch
  obtain ⟨n1, n2, n3, n4, n5⟩ := chain_top c1
  obtain ⟨d1, d2, d3, d4⟩ := c4
  have hh := P.heq
  rw [hdsOf, he] at hh
  have hhs : hs' = hdsOf (next :: rest) := (List.append_inj' hh rfl).1
  refine ⟨chain_set c1 ⟨wf_snoc n1 ?_, wd_snoc n2 ?_, ?_, ?_, n5⟩, ?_, ⟨fun i => ?_, fun j x hx => ?_⟩, fun x hx => P.nums x (by rw [he]; exact List.mem_append_left _ hx), ?_, Nat.le_trans P.dl (by omega), ?_⟩
  · rw [lpNd, wfN]
    exact ⟨d1, d2, d3, d4, by rw [← c3]; exact t1⟩
  · rw [lpNd, wdN]; exact t2
  · show depL (next.body ++ [lpNd top.hd top.body]) + _ ≤ 20
    rw [dep_snoc, lpNd, depN]; omega
  · intro x hx
    have hx : x ∈ numL (next.body ++ [lpNd top.hd top.body]) := hx
    rw [num_snoc, lpNd, numN] at hx
    rcases List.mem_append.mp hx with hx | hx
    · exact n4 x hx
    · rcases List.mem_cons.mp hx with rfl | hx
      · exact hnU _ (by rw [he]; simp)
      · exact t4 x hx
  · rw [hhs]
    cases rest <;> rfl
  · rcases Nat.le_total i hs'.length with hi | hi
    · have := P.ok.w i
      rwa [he, List.take_append_of_le_length hi] at this
    · have := P.ok.w hs'.length
      rw [he, List.take_append_of_le_length (Nat.le_refl _), List.take_length] at this
      rw [List.take_of_length_le hi]; exact this
  · rcases Nat.le_total j hs'.length with hj | hj
    · have := P.ok.szs j x
      rw [he, List.take_append_of_le_length hj] at this
      exact this hx
    · have := P.ok.szs hs'.length x
      rw [he, List.take_append_of_le_length (Nat.le_refl _), List.take_length] at this
      rw [List.take_of_length_le hj] at hx ⊢
      exact this hx
  · have hp := P.perm
    unfold stRows at hp ⊢
    rw [List.flatMap_cons, List.flatMap_cons, ← List.append_assoc] at hp
    rw [List.flatMap_cons]
    refine hp.trans (List.Perm.append_right _ ?_)
    exact List.perm_append_comm.trans (end_rows c2).symm
  · intro l hl
    rcases List.mem_cons.mp hl with rfl | hl
    · have := P.bl next (List.mem_cons_of_mem _ (List.mem_cons_self ..))
      simp; omega
    · exact Nat.le_succ_of_le (P.bl l (List.mem_cons_of_mem _ (List.mem_cons_of_mem _ hl)))
end
end K43
namespace K43
open PySem PySem.Spec PyProof.Rows L2 MM
theorem hds_len : ∀ {r : List Lv} {l : Lv}, (hdsOf (l :: r)).length = r.length
  | [], l => rfl
  | p :: r, l => by rw [hdsOf, List.length_append, hds_len]; rfl
theorem nm_inj {start s beh : Int} (hb : 100 ≤ beh) (hs : s = 1 ∨ s = -1) {i j : Nat} (hi : i < 63) (hj : j < 63) (e : (start + s * i) % beh = (start + s * j) % beh) : i = j := by
  have h := Int.emod_eq_emod_iff_emod_sub_eq_zero.mp e
  have key : ∀ d : Int, -63 < d → d < 63 → d % beh = 0 → d = 0 := fun d d1 d2 h => by
    rcases Int.lt_trichotomy d 0 with hd | hd | hd
    · have h2 : (d + beh) % beh = 0 := by rw [Int.add_emod_right]; exact h
      rw [Int.emod_eq_of_lt (by omega) (by omega)] at h2
      omega
    · exact hd
    · rw [Int.emod_eq_of_lt (by omega) (by omega)] at h; exact h
  rcases hs with rfl | rfl
  · have := key _ (by omega) (by omega) h
    omega
  · have := key _ (by omega) (by omega) h
    omega
noncomputable abbrev sStep (n : Nat) : Ms := (sSeq (sAsg (e2 opMod (e2 opAdd (eVar 2) (e2 opMul (eVar 3) (eVar 8))) (eVar 1)) (.nm 9))
    (sSeq (sAsg (eN (Ph dep tab (n + 1) ("_law_act", none)) (aCons (e2 opIx (eVar 0) (eVar 8)) (aCons (eN fLen (aCons (eVar 4) aNil)) aNil))) (.nm 10))
    (sIf (tBl (e2 opEq (eVar 10) (eCon (.str "loop")))) (sPush n) (sIf (tBl (e2 opEq (eVar 10) (eCon (.str "end")))) (sEx (eN (Ph dep tab (n + 1) ("_law_end", none)) (aCons (e2 opIx (eVar 0) (eVar 8)) (aCons (eVar 9) (aCons (eVar 4) (aCons (eVar 5) (aCons (eVar 6) (aCons (eVar 7) aNil)))))))) (sIf (tBl (e2 opLe (e2 opAdd (eN fLen (aCons (eVar 7) aNil)) (eN fLen (aCons (e2 opIx (eVar 6) (e1 opNeg (eCon (.int 1)))) aNil))) (eCon (.int 200)))) (sEx (eN (Ph dep tab (n + 1) ("_law_put", none)) (aCons (e2 opIx (eVar 0) (eVar 8)) (aCons (eVar 9) (aCons (eVar 4) (aCons (eVar 5) (aCons (eVar 6) (aCons (eVar 7) aNil)))))))) sNx)))))
section
variable {U : List Int} {hR bR wR dR : Nat} {ns : List Int} {beh start sv : Int}
/-- the state of the build -/
def BSt (ns : List Int) (beh start sv : Int) (hR bR wR dR : Nat) (x8 x9 x10 x11 : Option D) : MSt := [some (.frl (isD ns)), some (.int beh), some (.int start), some (.int sv), some (.ref hR), some (.ref bR), some (.ref wR), some (.ref dR), x8, x9, x10, x11]
theorem fin_any {M : List Nat} {hs : List Hd} {top next : Lv} {rest : List Lv} {due : List Row} {nm : Nat → Int} {k c : Nat} {cell number : Int} {μ : MH} (n : Nat) (H : HI U M hR bR wR dR hs (top :: next :: rest) due μ) (P : PI U nm hs (top :: next :: rest) due k c) (hc : c ≤ 1000)
    (hkU : ∀ i, 1 ≤ i → i < k → nm i ∈ U) : ∃ hs' st due2 μ', Ph dep tab (n + 5) ("_law_end", none) [.int cell, .int number, .ref hR, .ref bR, .ref wR, .ref dR] μ = .ok .non μ' ∧ HI U M hR bR wR dR hs' st due2 μ' ∧ PI U nm hs' st due2 k (c + 2) ∧ hs'.length + 1 = hs.length := by
  have hheq := P.heq
  rw [hdsOf] at hheq
  obtain ⟨t1, t2, t3, t4, t5⟩ := chain_top P.ch
  have hsc := P.sc
  have hU : ∀ h ∈ hs, h.num ∈ U := fun h hh => by
    obtain ⟨i, a, b, e⟩ := P.nums h hh
    rw [e]; exact hkU i a b
  have hdl := P.dl
  have hbn := P.bl next (List.mem_cons_of_mem _ (List.mem_cons_self ..))
  have hwl := P.wl
  have hlr : 2 * (next :: rest).length ≤ 40 := by omega
  subst hheq
  obtain ⟨bd, due2, μ', e, hle, H2, alt⟩ := end_ok (cell := cell) (number := number) n H (fun k hk => by rw [← hsc]; exact scOf_num.mpr hk) (fun w hw => by rw [(t5 w hw).2]; omega) (by omega) (by omega) (by omega) (by omega) t2
  refine ⟨_, _, due2, μ', e, H2, ?_, by simp⟩
  rcases alt with ⟨rfl, rfl⟩ | ⟨hb, line, word, own, turn, dk, rfl, rfl⟩
  · exact (P.fin rfl hU).mono (Nat.le_refl _) (by omega)
  · have P2 := P.put (number := number) (line := line) dk
    rw [hb] at P2
    exact P2.fin rfl hU
theorem step_ok (hU : U.length < 1000) {nm : Nat → Int} (hnm : ∀ i, nm i = (start + sv * i) % beh) (hb : 100 ≤ beh) (hs1 : sv = 1 ∨ sv = -1) (hnU : ∀ i, i < 63 → nm i ∈ U) (n : Nat) {k : Nat} {cell : Int} (hk : ns[k]? = some cell) (hk1 : 1 ≤ k) (hk2 : k < 63) {M : List Nat} {hs : List Hd} {st : List Lv} {due : List Row} {x9 x10 x11 : Option D} {c : Nat} {μ : MH}
    (H : HI U M hR bR wR dR hs st due μ) (P : PI U nm hs st due k c) (hc : c ≤ 1000) :
    ∃ M' hs' st' due' y9 y10 μ', sStep (n + 4) (BSt ns beh start sv hR bR wR dR (some (.int k)) x9 x10 x11) μ = .ok (.nx (BSt ns beh start sv hR bR wR dR (some (.int k)) y9 y10 x11)) μ' ∧ HI U M' hR bR wR dR hs' st' due' μ' ∧ PI U nm hs' st' due' (k + 1) (c + 3) := by
  have hix : ∀ {ν : MH}, opIx (.frl (isD ns)) (.int k) ν = .ok (.int cell) ν := fun {ν} => opIx_f (atI_nat (by unfold isD; rw [List.getElem?_map, hk]; rfl))
  have hmul : ∀ {ν : MH}, opMul (.int sv) (.int k) ν = .ok (.int (sv * k)) ν := fun {ν} => opMul_i (mulOk_r (by omega))
  have hmod : ∀ {ν : MH}, opMod (.int (start + sv * k)) (.int beh) ν = .ok (.int (nm k)) ν := fun {ν} => by rw [hnm]; exact opMod_i (by omega)
  have hfl : fLen [.ref hR] μ = .ok (.int (hs.length : Nat)) μ := by rw [fLen_l H.h]; simp
  have hn0 : 0 ≤ nm k := by rw [hnm]; exact Int.emod_nonneg _ (by omega)
  cases st with
  | nil => exact P.ch.elim
  | cons top rest =>
  have hwl := P.wl
  have hdl := P.dl
  obtain ⟨t1, t2, t3, t4, t5⟩ := chain_top P.ch
  have hlen : hs.length = rest.length := by rw [P.heq]; exact hds_len
  have hbt := P.bl top (List.mem_cons_self ..)
  have hml : ∀ w ∈ top.ways, w.1.length < 1000 := fun w hw => by rw [(t5 w hw).2]; omega
  unfold sStep BSt
  rw [sSeq_ap]
  simp only [sAsg_ap, e2_ap, eVar_ap, List.getElem?_cons_zero, List.getElem?_cons_succ, varK_some, Out.bind_ok, e2K_ap, hmul, opAdd_i, hmod, toS_ok, asgK_nm, List.set_cons_zero, List.set_cons_succ, seqK_nx]
  rw [sSeq_ap]
  simp only [sAsg_ap, eN_ap, aCons_ap, e2_ap, eVar_ap, List.getElem?_cons_zero, List.getElem?_cons_succ, varK_some, Out.bind_ok, e2K_ap, hix, consK_ap, aNil_ap, hfl]
  rw [show n + 4 + 1 = (n + 3) + 2 by omega]
  simp only [act_ok, toS_ok, asgK_nm, List.set_cons_zero, List.set_cons_succ, seqK_nx, sIf_ap, tBl_ap, e2_ap, eVar_ap, List.getElem?_cons_zero, List.getElem?_cons_succ, varK_some, Out.bind_ok, e2K_ap, eCon_ap, opEq_s, blK_ap]
  by_cases hl : actS cell (hs.length : Nat) = "loop"
  · have hd20 : hs.length < 20 := by
      unfold actS at hl
      split at hl
      · rename_i hh; omega
      · split at hl
        · exact absurd hl (by decide)
        · exact absurd hl (by decide)
    have hnn : nm k ∉ hs.map Hd.num := fun z => by
      obtain ⟨h, hh, e⟩ := List.mem_map.mp z
      obtain ⟨i, a, b, e2'⟩ := P.nums h hh
      rw [e2', hnm, hnm] at e
      have := nm_inj hb hs1 (by omega) hk2 e
      omega
    obtain ⟨h, M', br, wr, μ', e, e1, e2', e3, H2, _⟩ := push_ok (cell := cell) (number := nm k) (x1 := some (.int beh)) (x2 := some (.int start)) (x3 := some (.int sv)) (x10 := some (.str (actS cell (hs.length : Nat)))) (x11 := x11) hU (n + 3) H P.ok hk P.sc hnn (hnU k hk2) (fun w hw => ⟨(t5 w hw).1, hml w hw⟩)
      (fun h hq hh => by
        have := waysIn_len (q := (top.body.length : Int)) (NewOk.hd P.ok hh (by rw [hq]; exact hnn)) (ws := top.ways) (fun w hw => by rw [P.sc]; exact (t5 w hw).1)
        have h3 := hh.2.1
        have h4 := P.ok.all
        have h5 := hh.1
        have h6 : hW h ≤ 24 := by
          have := Int.mul_le_mul_of_nonneg_right h4.1 (show 0 ≤ hW h by omega)
          omega
        have h7 : top.ways.length * (hW h).toNat ≤ 24 * 24 := Nat.mul_le_mul hwl (by omega)
        omega) (by omega) (by omega)
    simp only [hl, decide_true, ifK_t] at e ⊢
    refine ⟨M', _, _, _, _, _, μ', e, H2, (P.push e2' e1 hk1 (by rw [e1]; exact hn0) e3 (by omega)).mono (Nat.le_refl _) (by omega)⟩
  · simp only [hl, decide_false, ifK_f, sIf_ap, tBl_ap, e2_ap, eVar_ap, List.getElem?_cons_zero, List.getElem?_cons_succ, varK_some, Out.bind_ok, e2K_ap, eCon_ap, opEq_s, blK_ap, toS_ok]
    by_cases he : actS cell (hs.length : Nat) = "end"
    · have hd0 : 0 < hs.length := by
        unfold actS at he
        split at he
        · exact absurd he (by decide)
        · split at he
          · rename_i hh; omega
          · exact absurd he (by decide)
      cases rest with
      | nil => rw [hlen] at hd0; simp at hd0
      | cons next rest =>
        obtain ⟨hs', st', due2, μ', e, H2, P2, _⟩ := fin_any (cell := cell) (number := nm k) n H P hc (fun i a b => hnU i (by omega))
        rw [show n + 3 + 2 = n + 5 by omega]
        simp only [he, decide_true, ifK_t, sEx_ap, eN_ap, aCons_ap, e2_ap, eVar_ap, List.getElem?_cons_zero, List.getElem?_cons_succ, varK_some, Out.bind_ok, e2K_ap, hix, consK_ap, aNil_ap, e, toS_ok]
        exact ⟨M, hs', st', due2, _, _, μ', rfl, H2, P2.mono (by omega) (by omega)⟩
    · have hfd : fLen [.ref dR] μ = .ok (.int (due.length : Nat)) μ := by rw [fLen_l H.d]; simp
      obtain ⟨wn, xs, hx, hp⟩ := H.wo top (List.mem_cons_self ..)
      have hfw : fLen [.ref top.wr] μ = .ok (.int (xs.length : Nat)) μ := fLen_l hx
      simp only [he, decide_false, ifK_f, sIf_ap, tBl_ap, e2_ap, eN_ap, aCons_ap, eVar_ap, List.getElem?_cons_zero, List.getElem?_cons_succ, varK_some, Out.bind_ok, e2K_ap, consK_ap, aNil_ap, hfd, e1_ap, eCon_ap, opNeg_i, H.lastW, hfw, opAdd_i, opLe_i, blK_ap, toS_ok]
      by_cases h2 : ((due.length : Nat) : Int) + ((xs.length : Nat) : Int) ≤ 200
      · obtain ⟨line, word, own, turn, μ', e, dk, _, H2⟩ := put_ok (cell := cell) (number := nm k) (n + 1) H (fun k hk => by rw [← P.sc]; exact scOf_num.mpr hk) hml (by omega) (by omega) (by omega)
        rw [show n + 3 + 2 = n + 1 + 4 by omega]
        simp only [h2, decide_true, ifK_t, sEx_ap, eN_ap, aCons_ap, e2_ap, eVar_ap, List.getElem?_cons_zero, List.getElem?_cons_succ, varK_some, Out.bind_ok, e2K_ap, hix, consK_ap, aNil_ap, e, toS_ok]
        exact ⟨M, hs, _, _, _, _, μ', rfl, H2, (P.put dk).mono (by omega) (by omega)⟩
      · simp only [h2, decide_false, ifK_f, sNx_ap]
        exact ⟨M, hs, _, due, _, _, μ, rfl, H, P.mono (by omega) (by omega)⟩
end
end K43
namespace K43
open PySem PySem.Spec PyProof.Rows L2 MM
theorem whileL_run2 {c : Mt} {b : Ms} (P : Nat → MSt → MH → Prop) (Q : MSt → MH → Prop) (h : ∀ n τ μ, P n τ μ → (∃ μ1, c τ μ = .ok false μ1 ∧ Q τ μ1) ∨ (∃ m μ1, n = m + 1 ∧ c τ μ = .ok true μ1 ∧ ∃ τ2 μ2, b τ μ1 = .ok (.nx τ2) μ2 ∧ P m τ2 μ2)) :
    ∀ (N n : Nat) (τ : MSt) (μ : MH), n < N → P n τ μ → ∃ τ' μ', whileL c b N τ μ = .ok (.nx τ') μ' ∧ Q τ' μ'
  | 0, n, _, _, hn, _ => absurd hn (Nat.not_lt_zero _)
  | N + 1, n, τ, μ, hn, hp => by
    rcases h n τ μ hp with ⟨μ1, h1, h2⟩ | ⟨m, μ1, rfl, h1, τ2, μ2, h2, h3⟩
    · exact ⟨τ, μ1, by unfold whileL; simp only [h1, toS_ok]; rfl, h2⟩
    · obtain ⟨τ', μ', h4, h5⟩ := whileL_run2 P Q h N m τ2 μ2 (by omega) h3
      refine ⟨τ', μ', ?_, h5⟩
      unfold whileL
      simp only [h1, toS_ok, if_true, h2]
      exact h4
theorem sWhile_run {c : Mt} {b : Ms} (P : Nat → MSt → MH → Prop) (Q : MSt → MH → Prop) (h : ∀ n τ μ, P n τ μ → (∃ μ1, c τ μ = .ok false μ1 ∧ Q τ μ1) ∨ (∃ m μ1, n = m + 1 ∧ c τ μ = .ok true μ1 ∧ ∃ τ2 μ2, b τ μ1 = .ok (.nx τ2) μ2 ∧ P m τ2 μ2))
    {n : Nat} {τ : MSt} {μ : MH} (hn : n < 100000) (hp : P n τ μ) : ∃ τ' μ', sWhile c b τ μ = .ok (.nx τ') μ' ∧ Q τ' μ' := whileL_run2 P Q h _ n τ μ (Nat.lt_of_lt_of_le hn (by decide)) hp
theorem fSortK_ap {c : Int} {j : Nat} {xs : List D} {μ : MH} (e : μ[j]? = some (.lst xs)) (h : (xs.all fun d => !(keyOf c d).isEmpty) = true) : fSortK c (.ref j) μ = .ok (.ref μ.length) (μ ++ [.lst (xs.mergeSort (leK c))]) := by
  unfold fSortK; simp only [e]; exact if_pos h
def c0 (ns : List Int) : Int := (ns[0]?).getD 0
def nmOf (ns : List Int) (beh : Int) (i : Nat) : Int := (c0 ns / 2 % beh + (1 - 2 * (c0 ns % 2)) * i) % beh
def UOf (ns : List Int) (beh : Int) : List Int := (List.range 63).map (nmOf ns beh)
theorem built_ok {ns : List Int} {beh : Int} {μ : MH} (n : Nat) (hb : 100 ≤ beh) : ∃ b r μ', Ph dep tab (n + 6) ("_law_built", none) [.frl (isD ns), .int beh] μ = .ok (.tup [.tup [.int beh, .tup (nds b)], .ref r]) μ' ∧
    μ'[r]? = some (.lst (walk (fun _ => 0) b)) ∧ depL b ≤ 20 ∧ wfL [] b ∧ wdL b ∧ (∀ k ∈ numL b, k ∈ UOf ns beh) ∧ (walk (fun _ => 0) b).length < 900000 := by
  have hc0 : ∀ {m : Nat} {ν : MH}, Ph dep tab (m + 2) ("_law_cell_at", none) [.frl (isD ns), .int 0] ν = .ok (.int (c0 ns)) ν := fun {m ν} => cell_ok (ns := ns) (μ := ν) m 0
  have hUl : (UOf ns beh).length < 1000 := by simp [UOf]
  let start := c0 ns / 2 % beh
  let sv := 1 - 2 * (c0 ns % 2)
  have hsv : sv = 1 ∨ sv = -1 := by
    have := Int.emod_two_eq (c0 ns)
    show 1 - 2 * (c0 ns % 2) = 1 ∨ 1 - 2 * (c0 ns % 2) = -1
    omega
  have hnU : ∀ i, i < 63 → nmOf ns beh i ∈ UOf ns beh := fun i hi => List.mem_map_of_mem (List.mem_range.mpr hi)
  let hR := μ.length
  let b0 := μ.length + 1
  let bR := μ.length + 2
  let d0 := μ.length + 3
  let w0 := μ.length + 4
  let wR := μ.length + 5
  let dR := μ.length + 6
  let base : Lv := ⟨⟨0, 0, 0, 0⟩, [], [([], fun _ => 0)], [], b0, w0⟩
  let μ0 : MH := μ ++ [.lst [], .lst [], .lst [.ref b0], .dict [] false, .lst [.tup [.tup [], .ref d0]], .lst [.ref w0], .lst []]
  have at0 : ∀ (i : Nat) (o : O), ([.lst [], .lst [], .lst [.ref b0], .dict [] false, .lst [.tup [.tup [], .ref d0]], .lst [.ref w0], .lst []] : List O)[i]? = some o → μ0[μ.length + i]? = some o := fun i o h => by
    show (μ ++ _)[μ.length + i]? = _
    rw [List.getElem?_append_right (Nat.le_add_right _ _), Nat.add_sub_cancel_left]; exact h
  have len0 : μ0.length = μ.length + 7 := by simp [μ0]
  have H0 : HI (UOf ns beh) [hR, bR, wR, dR, b0] hR bR wR dR [] [base] [] μ0 := by
    refine ⟨fun i hi => ?_, by simp, by simp, by simp, by simp, fun l hl => ?_, ?_, at0 0 _ rfl, at0 2 _ rfl, at0 5 _ rfl, at0 6 _ rfl, fun l hl => ?_, fun l hl => ?_⟩
    · rw [len0]
      simp only [List.mem_cons, List.not_mem_nil, or_false] at hi
      simp only [hR, bR, wR, dR, b0] at hi
      omega
    · simp only [List.mem_singleton] at hl; subst hl; simp [base]
    · simp [hR, bR, wR, dR, base, b0]
    · simp only [List.mem_singleton] at hl; subst hl
      exact at0 1 _ rfl
    · simp only [List.mem_singleton] at hl; subst hl
      refine ⟨by simp [base, w0, hR, bR, wR, dR, b0], _, at0 4 _ rfl, .cons ⟨d0, [], rfl, by simp [d0, hR, bR, wR, dR, b0], at0 3 _ rfl, ⟨List.nodup_nil, fun p hp => nomatch hp⟩, fun p hp => nomatch hp⟩ .nil⟩
  have P0 : PI (UOf ns beh) (nmOf ns beh) [] [base] [] 1 0 := by
    refine ⟨⟨rfl, rfl, by show wfL _ []; rw [wfL]; trivial, by show wdL []; rw [wdL]; trivial, by show depL [] + 0 ≤ 20; rw [depL]; omega, fun x hx => absurd (show x ∈ numL [] from hx) (by rw [numL]; simp), fun w hw => ?_⟩, rfl, ⟨fun i => by simp [worth, worthL], fun j x hx => by simp at hx⟩, fun x hx => (nomatch hx), ?_, by simp, fun l hl => ?_⟩
    · have hw : w ∈ ([([], fun _ => 0)] : List Way) := hw
      simp only [List.mem_singleton] at hw
      subst hw
      exact ⟨fun p hp => absurd (show p ∈ ([] : Sc) from hp) (by simp), rfl⟩
    · simp [stRows, lvRows, base, rowL]
    · simp only [List.mem_singleton] at hl; subst hl; exact Nat.le_refl _
  let hi : Int := if (63 : Int) < (ns.length : Nat) then 63 else (ns.length : Nat)
  have hhi : hi ≤ 63 ∧ hi ≤ (ns.length : Nat) ∧ 0 ≤ hi := by
    show (if (63 : Int) < (ns.length : Nat) then (63 : Int) else (ns.length : Nat)) ≤ 63 ∧ (if (63 : Int) < (ns.length : Nat) then (63 : Int) else (ns.length : Nat)) ≤ (ns.length : Nat) ∧ 0 ≤ (if (63 : Int) < (ns.length : Nat) then (63 : Int) else (ns.length : Nat))
    split <;> omega
  have hrl : (isD (rg 1 hi)).length ≤ 62 := by simp [isD, rg]; omega
  let P : Nat → MSt → MH → Prop := fun i τ μ1 => ∃ M hs st due x8 x9 x10 x11, τ = BSt ns beh start sv hR bR wR dR x8 x9 x10 x11 ∧ HI (UOf ns beh) M hR bR wR dR hs st due μ1 ∧ PI (UOf ns beh) (nmOf ns beh) hs st due (i + 1) (3 * i)
  obtain ⟨τ1, μ1, hrun, M1, hs1, st1, due1, x8, x9, x10, x11, rfl, H1, P1⟩ := sFor_run (it := iA kRng2 (aCons (eCon (.int 1)) (aCons (eN fMin (aCons (eN fLen (aCons (eVar 0) aNil)) (aCons (eCon (.int 63)) aNil))) aNil))) (t := .nm 8) (b := sStep (n + 4)) (τ := BSt ns beh start sv hR bR wR dR none none none none) (μ := μ0) (μ1 := μ0)
    (xs := isD (rg 1 hi)) (still := fun _ => True) P (by
      have hl : ((isD ns).length : Int) = (ns.length : Nat) := by simp [isD]
      simp only [BSt, iA_ap, aCons_ap, eCon_ap, Out.bind_ok, consK_ap, eN_ap, eVar_ap, List.getElem?_cons_zero, varK_some, aNil_ap, fLen_f, fMin_i, hl]
      rw [kRng2_ap (by decide) (by unfold okR; exact decide_eq_true (by omega)), ← rng_isD]; rfl) (fun _ _ _ _ => trivial) (fun i x τ ν hx hp => by
      obtain ⟨k, hk, rfl⟩ := isD_get hx
      obtain ⟨M, hs, st, due, x8, x9, x10, x11, rfl, H, P⟩ := hp
      have hk' : k = ((i + 1 : Nat) : Int) ∧ (i + 1 : Nat) < hi := by
        unfold rg at hk
        rw [List.getElem?_map] at hk
        cases q : (List.range (hi - 1).toNat)[i]? with
        | none => rw [q] at hk; cases hk
        | some j =>
          rw [q] at hk
          obtain ⟨h1, h2⟩ := List.getElem?_eq_some_iff.mp q
          rw [List.getElem_range] at h2
          rw [List.length_range] at h1
          subst h2
          have hk : some (1 + (i : Int)) = some k := hk
          have := Option.some.inj hk
          omega
      obtain ⟨rfl, hk2⟩ := hk'
      have hkl : i + 1 < ns.length := by omega
      obtain ⟨M', hs', st', due', y9, y10, ν', e, H', P'⟩ := step_ok (x9 := x9) (x10 := x10) (x11 := x11) hUl (nm := nmOf ns beh) (fun i => rfl) hb hsv hnU n (List.getElem?_eq_getElem hkl) (by omega) (by omega) H P (by omega)
      exact ⟨_, _, ν', rfl, .inl e, M', hs', st', due', _, y9, y10, x11, rfl, H', P'.mono (by omega) (by omega)⟩) ⟨_, _, _, _, none, none, none, none, rfl, H0, P0⟩
  have P1' := P1.mono (k' := 63) (c' := 190) (by omega) (by omega)
  let PW : Nat → MSt → MH → Prop := fun m τ ν => ∃ hs st due, τ = BSt ns beh start sv hR bR wR dR x8 x9 x10 x11 ∧ HI (UOf ns beh) M1 hR bR wR dR hs st due ν ∧ PI (UOf ns beh) (nmOf ns beh) hs st due 63 (190 + 2 * (20 - m)) ∧ hs.length = m ∧ m ≤ 20
  let QW : MSt → MH → Prop := fun τ ν => ∃ b due, τ = BSt ns beh start sv hR bR wR dR x8 x9 x10 x11 ∧ HI (UOf ns beh) M1 hR bR wR dR [] [b] due ν ∧ PI (UOf ns beh) (nmOf ns beh) [] [b] due 63 300
  have hlen1 : hs1.length ≤ 20 := by
    cases st1 with
    | nil => exact P1.ch.elim
    | cons top rest =>
      have := (chain_top P1.ch).2.2.1
      rw [P1.heq, hds_len]; omega
  obtain ⟨τ2, μ2, hrun2, bs, due2, rfl, H2, P2⟩ := sWhile_run (c := tBl (e2 opNe (eVar 4) (eLst aNil))) (b := (sEx (eN (Ph dep tab (n + 4 + 1) ("_law_end", none)) (aCons (eVar 2) (aCons (e2 opMod (e2 opAdd (eVar 2) (e2 opMul (eVar 3) (e2 opAdd (eCon (.int 63)) (eN fLen (aCons (eVar 4) aNil))))) (eVar 1)) (aCons (eVar 4) (aCons (eVar 5) (aCons (eVar 6) (aCons (eVar 7) aNil)))))))))
    PW QW (fun m τ ν hp => by
      obtain ⟨hs, st, due, rfl, H, P, hl, hm⟩ := hp
      have hnil := opNe_of (heads_nil (app_get _ H.h) (app_self (μ := ν) (x := .lst [])))
      have hcond : ∀ bb, (!hs.isEmpty) = bb → tBl (e2 opNe (eVar 4) (eLst aNil)) (BSt ns beh start sv hR bR wR dR x8 x9 x10 x11) ν = .ok bb (ν ++ [.lst []]) := fun bb hbb => by
        simp only [BSt, tBl_ap, e2_ap, eVar_ap, List.getElem?_cons_zero, List.getElem?_cons_succ, varK_some, Out.bind_ok, e2K_ap, eLst_ap, aNil_ap, lstK_ok (show ([] : List D).length ≤ 100 by decide), hnil, blK_ap, hbb]
      have HK := H.kp (Kp.app (o := .lst []))
      cases st with
      | nil => exact P.ch.elim
      | cons top rest =>
      cases rest with
      | nil =>
        have : hs = [] := P.heq
        subst this
        exact .inl ⟨_, hcond false rfl, top, due, rfl, HK, P.mono (Nat.le_refl _) (by omega)⟩
      | cons next rest =>
        have hne : hs ≠ [] := by
          rw [P.heq, hdsOf]; simp
        obtain ⟨hs', st', due', ν', e, H', P', hl'⟩ := fin_any (cell := start) (number := (start + sv * (63 + (hs.length : Nat))) % beh) n HK P (by omega) (fun i _ h => hnU i h)
        refine .inr ⟨m - 1, _, by omega, hcond true (by cases hs with | nil => exact absurd rfl hne | cons => rfl), _, ν', ?_, hs', st', due', rfl, H', P'.mono (Nat.le_refl _) (by omega), by omega, by omega⟩
        have hfl : fLen [.ref hR] (ν ++ [.lst []]) = .ok (.int (hs.length : Nat)) (ν ++ [.lst []]) := by rw [fLen_l HK.h]; simp
        have hmul : ∀ {ν : MH}, opMul (.int sv) (.int (63 + (hs.length : Nat))) ν = .ok (.int (sv * (63 + (hs.length : Nat)))) ν := fun {ν} => opMul_i (mulOk_r (by omega))
        have hmod : ∀ {ν : MH}, opMod (.int (start + sv * (63 + (hs.length : Nat)))) (.int beh) ν = .ok (.int ((start + sv * (63 + (hs.length : Nat))) % beh)) ν := fun {ν} => opMod_i (by omega)
        rw [show n + 4 + 1 = n + 5 by omega]
        simp only [BSt, sEx_ap, eN_ap, aCons_ap, eVar_ap, List.getElem?_cons_zero, List.getElem?_cons_succ, varK_some, Out.bind_ok, consK_ap, e2_ap, e2K_ap, eCon_ap, aNil_ap, hfl, opAdd_i, hmul, hmod, e, toS_ok]) (n := hs1.length) (by omega) ⟨hs1, st1, due1, rfl, H1, P1'.mono (Nat.le_refl _) (by omega), rfl, hlen1⟩
  -- the end
  obtain ⟨cw, csc, t1, t2, t3, t4, t5⟩ := P2.ch
  have hrows : due2.Perm (rowL (fun _ => 0) [] 0 bs.body) := by
    have := P2.perm
    simp only [stRows, List.flatMap_cons, List.flatMap_nil, List.append_nil, lvRows, cw] at this
    exact this
  have hup := rowL_up (fun _ => 0) [] 0 bs.body
  have hall : ((due2.map rowD).all fun d => !(keyOf 0 d).isEmpty) = true := by
    rw [List.all_eq_true]
    intro d hd
    obtain ⟨r, hr, rfl⟩ := List.mem_map.mp hd
    obtain ⟨q, t, _, e⟩ := rowL_mark _ _ _ _ r (hrows.mem_iff.mp hr)
    rw [keyOf_row, e]; rfl
  have hsort := fSortK_ap (c := 0) H2.d hall
  rw [sort_rows hrows hup] at hsort
  have hsnd := rowL_snd (fun _ => 0) [] 0 bs.body
  have hl2 := P2.dl
  have hrl2 := hrows.length_eq
  generalize hrs : rowL (fun _ => 0) [] 0 bs.body = rs at hsort hsnd hrl2
  have hB0 : opIx (.ref bR) (.int 0) μ2 = .ok (.ref bs.br) μ2 := opIx_l H2.b rfl
  have hft := fTuple_l (H2.bo bs (List.mem_cons_self ..))
  have hlc := eLc_run (τ := BSt ns beh start sv hR bR wR dR x8 x9 x10 x11) (μ := μ2) (μ1 := μ2 ++ [O.lst (rs.map rowD)]) (it := iVal (e1 (fSortK 0) (eVar 7))) (t := .nm 11) (c := tYesM) (e := e2 opIx (eVar 11) (eCon (.int 1))) (vs := [11]) (xs := rs.map rowD) (still := fun μ => μ[μ2.length]? = some (.lst (rs.map rowD)))
    (f := fun d => match d with | .tup [_, s] => s | d => d) (by
      simp only [BSt, iVal_ap, e1_ap, eVar_ap, List.getElem?_cons_zero, List.getElem?_cons_succ, varK_some, Out.bind_ok, hsort, planV_l app_self]) (fun acc => app_get _ app_self) (by rw [List.length_map]; omega) (fun x hx acc => by
      obtain ⟨r, hr, rfl⟩ := List.mem_map.mp hx
      refine ⟨_, rfl, rfl, ?_⟩
      show e2 opIx (eVar 11) (eCon (.int 1)) [_, _, _, _, _, _, _, _, _, _, _, some (rowD r)] _ = _
      simp only [e2_ap, eVar_ap, List.getElem?_cons_zero, List.getElem?_cons_succ, varK_some, Out.bind_ok, e2K_ap, eCon_ap]
      rfl)
  have hmap : (rs.map rowD).map (fun d => match d with | .tup [_, s] => s | d => d) = walk (fun _ => 0) bs.body := by
    rw [← hsnd, List.map_map]
    rfl
  rw [hmap] at hlc
  refine ⟨bs.body, _, _, ?_, app_self (μ := μ2 ++ [O.lst (rs.map rowD)]), by omega, csc ▸ t1, t2, t4, by rw [← hsnd, List.length_map]; omega⟩
  rw [show n + 6 = (n + 4) + 2 by omega, t_law_built]
  have hd2 : ∀ {p : Int} {ν : MH}, opDiv (.int p) (.int 2) ν = .ok (.int (p / 2)) ν := fun {p ν} => opDiv_i (by decide) (by decide)
  have hm2 : ∀ {p : Int} {ν : MH}, opMod (.int p) (.int 2) ν = .ok (.int (p % 2)) ν := fun {p ν} => opMod_i (by decide)
  have hmb : ∀ {p : Int} {ν : MH}, opMod (.int p) (.int beh) ν = .ok (.int (p % beh)) ν := fun {p ν} => opMod_i (by omega)
  have hmul2 : ∀ {p : Int} {ν : MH}, opMul (.int 2) (.int p) ν = .ok (.int (2 * p)) ν := fun {p ν} => opMul_i (mulOk_l (by decide))
  rw [show n + 4 + 1 = (n + 3) + 2 by omega]
  rw [runFn_2, sSeq_ap]
  simp only [Nat.reduceSub, List.reduceReplicate, sAsg_ap, e2_ap, eN_ap, aCons_ap, eVar_ap, List.getElem?_cons_zero, List.getElem?_cons_succ, varK_some, Out.bind_ok, consK_ap, eCon_ap, aNil_ap, hc0, e2K_ap, hd2, hmb, toS_ok, asgK_nm, List.set_cons_zero, List.set_cons_succ, seqK_nx]
  rw [sSeq_ap]
  simp only [sAsg_ap, e2_ap, eN_ap, aCons_ap, eVar_ap, List.getElem?_cons_zero, List.getElem?_cons_succ, varK_some, Out.bind_ok, consK_ap, eCon_ap, aNil_ap, hc0, e2K_ap, hm2, hmul2, opSub_i, toS_ok, asgK_nm, List.set_cons_zero, List.set_cons_succ, seqK_nx]
  rw [sSeq_ap]
  simp only [sAsg_ap, eLst_ap, aNil_ap, Out.bind_ok, lstK_ok (show ([] : List D).length ≤ 100 by decide), toS_ok, asgK_nm, List.set_cons_zero, List.set_cons_succ, seqK_nx]
  rw [sSeq_ap]
  have l1 : ∀ {x : D} {ν : MH}, lstK [x] ν = .ok (.ref ν.length) (ν ++ [.lst [x]]) := fun {x ν} => lstK_ok (by simp)
  have tp2 : ∀ {x y : D} {ν : MH}, tupK [x, y] ν = .ok (.tup [x, y]) ν := fun {x y ν} => tupK_ok (by simp)
  simp only [sAsg_ap, eLst_ap, aCons_ap, aNil_ap, Out.bind_ok, lstK_ok (show ([] : List D).length ≤ 100 by decide), consK_ap, l1, toS_ok, asgK_nm, List.set_cons_zero, List.set_cons_succ, seqK_nx]
  rw [sSeq_ap]
  simp only [sAsg_ap, eLst_ap, aCons_ap, eTup_ap, aNil_ap, Out.bind_ok, tupK_ok (show ([] : List D).length ≤ 100 by decide), eDict0_ap, consK_ap, tp2, l1, toS_ok, asgK_nm, List.set_cons_zero, List.set_cons_succ, seqK_nx]
  rw [sSeq_ap]
  simp only [sAsg_ap, eLst_ap, aNil_ap, Out.bind_ok, lstK_ok (show ([] : List D).length ≤ 100 by decide), toS_ok, asgK_nm, List.set_cons_zero, List.set_cons_succ, seqK_nx]
  simp only [List.append_assoc, List.cons_append, List.nil_append, List.length_append, List.length_cons, List.length_nil, Nat.zero_add, Nat.reduceAdd]
  rw [show n + 3 + 2 = n + 4 + 1 by omega]
  rw [sSeq_ap]
  have e1 := hrun
  unfold BSt at e1 hrun2 hlc
  rw [e1, seqK_nx, sSeq_ap, hrun2, seqK_nx]
  simp only [sRet_ap, eTup_ap, aCons_ap, eVar_ap, List.getElem?_cons_zero, List.getElem?_cons_succ, varK_some, Out.bind_ok, eN_ap, e2_ap, e2K_ap, eCon_ap, hB0, consK_ap, aNil_ap, hft, tp2, hlc, toS_ok, finK_ret]
  simp
end K43
namespace K43
open PySem PySem.Spec PyProof.Rows L2 MM
/-- a step -/
def IsStp (d : D) : Prop := ∃ l w c t, d = stp l w c t ∧ PyData.strOk w = true ∧ c.length ≤ 1000 ∧ t.length ≤ 1000
mutual
theorem walkN_stp : ∀ (x : Nd) (S : Sc) (env : Env), wfN S x → wdN x → ∀ d ∈ walkN env x, IsStp d
  | .deed n l w o t, S, env, h, hw, d, hd => by
    unfold wfN at h
    unfold wdN at hw
    simp only [walkN, List.mem_singleton] at hd
    exact ⟨l, w, _, _, hd, hw, by rw [List.length_map]; exact h.2.2.1, by rw [List.length_map]; exact h.2.2.2⟩
  | .loop n s w o b, S, env, h, hw, d, hd => by
    unfold wfN at h
    unfold wdN at hw
    rw [walkN] at hd
    obtain ⟨c, hc, hd⟩ := List.mem_flatMap.mp hd
    exact walk_stp b _ _ h.2.2.2.2 hw d hd
theorem walk_stp : ∀ (b : List Nd) (S : Sc) (env : Env), wfL S b → wdL b → ∀ d ∈ walk env b, IsStp d
  | [], _, _, _, _, d, hd => by simp [walk] at hd
  | x :: xs, S, env, h, hw, d, hd => by
    unfold wfL at h
    unfold wdL at hw
    rw [walk] at hd
    rcases List.mem_append.mp hd with hd | hd
    · exact walkN_stp x S env h.1 hw.1 d hd
    · exact walk_stp xs S env h.2 hw.2 d hd
end
theorem isi_ii {i : Int} {μ : MH} : opIsi .int (.int i) μ = .ok (.bl true) μ := rfl
theorem isi_bi {i : Int} {μ : MH} : opIsi .bool (.int i) μ = .ok (.bl false) μ := rfl
theorem isi_tt {xs : List D} {μ : MH} : opIsi .tuple (.tup xs) μ = .ok (.bl true) μ := rfl
theorem isi_ss {x : Str} {μ : MH} : opIsi .str (.str x) μ = .ok (.bl true) μ := rfl
theorem isi_ll {j : Nat} {xs : List D} {μ : MH} (e : μ[j]? = some (.lst xs)) : opIsi .list (.ref j) μ = .ok (.bl true) μ := by
  unfold opIsi tyD; simp only [e]; rfl
theorem whole_ok {i : Int} {μ : MH} (n : Nat) : Ph dep tab (n + 2) ("_law_whole", none) [.int i] μ = .ok (.bl true) μ := by
  rw [t_law_whole]
  simp only [runFn_1, Nat.reduceSub, List.reduceReplicate, sRet_ap, eAnd_ap, e1_ap, eVar_ap, List.getElem?_cons_zero, varK_some, Out.bind_ok, isi_ii, eAndK_t, eNot_ap, isi_bi, eNotK_ap, Bool.not_false, toS_ok, finK_ret]
theorem rg0_get {m i : Nat} {k : Int} (hk : (rg 0 (m : Int))[i]? = some k) : k = (i : Nat) ∧ i < m := by
  unfold rg at hk
  rw [List.getElem?_map] at hk
  cases q : (List.range ((m : Int) - 0).toNat)[i]? with
  | none => rw [q] at hk; cases hk
  | some j =>
    rw [q] at hk
    obtain ⟨h1, h2⟩ := List.getElem?_eq_some_iff.mp q
    rw [List.getElem_range] at h2
    rw [List.length_range] at h1
    subst h2
    have hk : some (0 + (i : Int)) = some k := hk
    have := Option.some.inj hk
    omega
theorem bindOk {α β : Type} (a : α) (μ : MH) (f : α → MH → Out β) : (Out.ok a μ).bind f = f a μ := (rfl)
theorem kRng0 {m : Nat} {μ : MH} (h : m < 1000000) : kRng1 [.int (m : Nat)] μ = .ok ⟨isD (rg 0 (m : Int)), fun _ => True, id, some⟩ μ := by
  rw [kRng1_ap (by unfold okR; exact decide_eq_true (by omega)), ← rng_isD, Int.sub_zero]; rfl
theorem it1 {a : D} {xs : List Int} {μ : MH} (hl : xs.length ≤ 1000) : iA kRng1 (aCons (eN fLen (aCons (eVar 1) aNil)) aNil) [some a, some (.tup (isD xs)), none] μ = .ok ⟨isD (rg 0 (xs.length : Int)), fun _ => True, id, some⟩ μ := by
  have hln : (isD xs).length = xs.length := by simp [isD]
  have h := kRng0 (μ := μ) (show xs.length < 1000000 by omega)
  have e : (aCons (eN fLen (aCons (eVar 1) aNil)) aNil) [some a, some (.tup (isD xs)), none] μ = .ok [.int (xs.length : Nat)] μ := by
    simp only [aCons_ap, eN_ap, eVar_ap, List.getElem?_cons_zero, List.getElem?_cons_succ, varK_some, Out.bind_ok, consK_ap, aNil_ap, fLen_t, hln]
  unfold iA
  rw [e, bindOk]
  exact h
theorem it2 {a : D} {xs : List D} {r : Nat} {μ : MH} (hl : xs.length < 900000) (hr : μ[r]? = some (.lst xs)) : iA kRng1 (aCons (eN fLen (aCons (eVar 1) aNil)) aNil) [some a, some (.ref r), none, none] μ = .ok ⟨isD (rg 0 (xs.length : Int)), fun _ => True, id, some⟩ μ := by
  have h := kRng0 (μ := μ) (show xs.length < 1000000 by omega)
  have e : (aCons (eN fLen (aCons (eVar 1) aNil)) aNil) [some a, some (.ref r), none, none] μ = .ok [.int (xs.length : Nat)] μ := by
    simp only [aCons_ap, eN_ap, eVar_ap, List.getElem?_cons_zero, List.getElem?_cons_succ, varK_some, Out.bind_ok, consK_ap, aNil_ap, fLen_l hr]
  unfold iA
  rw [e, bindOk]
  exact h
theorem wholes_ok {xs : List Int} {μ : MH} (n : Nat) (hl : xs.length ≤ 1000) : Ph dep tab (n + 3) ("_law_wholes", none) [.tup (isD xs), .tup (isD xs)] μ = .ok (.bl true) μ := by
  let P : Nat → MSt → MH → Prop := fun i τ μ1 => (∃ x2, τ = [some (.tup (isD xs)), some (.tup (isD xs)), x2]) ∧ μ1 = μ
  have hln : (isD xs).length = xs.length := by simp [isD]
  obtain ⟨τ', μ', hrun, ⟨x2, rfl⟩, rfl⟩ := sFor_run (it := iA kRng1 (aCons (eN fLen (aCons (eVar 1) aNil)) aNil)) (t := .nm 2) (b := (sIf (tOrM (tNotM (tTru (eN (Ph dep tab (n + 1 + 1) ("_law_whole", none)) (aCons (e2 opIx (eVar 0) (eVar 2)) aNil)))) (tBl (e2 opNe (e2 opIx (eVar 0) (eVar 2)) (e2 opIx (eVar 1) (eVar 2))))) (sRet (eCon (.bl false))) sNx))
    (τ := [some (.tup (isD xs)), some (.tup (isD xs)), none]) (μ := μ) (μ1 := μ) (xs := isD (rg 0 xs.length)) (still := fun _ => True) P (it1 hl) (fun _ _ _ _ => trivial) (fun i x τ μ1 hx hp => by
      obtain ⟨⟨x2, rfl⟩, rfl⟩ := hp
      obtain ⟨k, hk, rfl⟩ := isD_get hx
      have hk' := rg0_get hk
      obtain ⟨rfl, hi⟩ := hk'
      have hat : atI (isD xs) ((i : Nat) : Int) = some (.int xs[i]) := atI_nat (by unfold isD; rw [List.getElem?_map, List.getElem?_eq_getElem hi]; rfl)
      refine ⟨_, [some (.tup (isD xs)), some (.tup (isD xs)), some (.int (i : Nat))], μ1, rfl, .inl ?_, ⟨_, rfl⟩, rfl⟩
      rw [show n + 1 + 1 = n + 2 by omega]
      simp only [List.set_cons_zero, List.set_cons_succ, sIf_ap, tOrM_ap, tNotM_ap, tTru_ap, eN_ap, aCons_ap, e2_ap, eVar_ap, List.getElem?_cons_zero, List.getElem?_cons_succ, varK_some, Out.bind_ok, e2K_ap, opIx_t hat, consK_ap, aNil_ap, whole_ok, opTru_bl, Bool.not_true, orK_f, tBl_ap, opNe_i, decide_true, blK_ap, toS_ok, ifK_f, sNx_ap]) ⟨⟨none, rfl⟩, rfl⟩
  rw [show n + 3 = (n + 1) + 2 by omega, t_law_wholes]
  rw [runFn_2, sSeq_ap]
  simp only [Nat.reduceSub, List.reduceReplicate, sIf_ap, tOrM_ap, tNotM_ap, tTru_ap, e1_ap, eVar_ap, List.getElem?_cons_zero, List.getElem?_cons_succ, varK_some, Out.bind_ok, isi_tt, opTru_bl, Bool.not_true, orK_f, tBl_ap, e2_ap, e2K_ap, eN_ap, aCons_ap, consK_ap, aNil_ap, fLen_t, opNe_i, decide_true, blK_ap, toS_ok, ifK_f, sNx_ap, seqK_nx]
  rw [sSeq_ap, hrun]
  simp only [seqK_nx, sRet_ap, eCon_ap, toS_ok, finK_ret]
theorem sl2 {a b c d : D} {μ : MH} : opSl (.tup [a, b, c, d]) none (some 2) μ = .ok (.tup [a, b]) μ := rfl
theorem eq2 {l : Int} {w : Str} {μ : MH} (h : PyData.strOk w = true) : opNe (.tup [.int l, .str w]) (.tup [.int l, .str w]) μ = .ok (.bl false) μ := by
  have e : pdata 60 μ (.tup [.int l, .str w]) = some (.tuple [.int l, .str w]) := rfl
  have hs : SeqAt.shaped (.tuple [.int l, .str w]) = true := by
    unfold SeqAt.shaped
    simp only [PyData.canLay0, PyData.canLayAll0, h, PyData.depth, PyData.depthAll]
    rfl
  have : eqData (.tup [.int l, .str w]) (.tup [.int l, .str w]) μ = some true := by
    unfold eqData
    rw [if_neg (by simp [scalD]), e]
    simp only [hs, and_self, if_true]
    simp [PyData.eqv, PyData.eqvAll]
  rw [opNe_of this]; rfl
noncomputable abbrev sSame (n : Nat) : Ms := (sSeq (sAsg (e2 opIx (eVar 0) (eVar 2)) (.nm 3))
    (sSeq (sIf (tOrM (tNotM (tTru (e1 (opIsi .tuple) (eVar 3)))) (tBl (e2 opNe (eN fLen (aCons (eVar 3) aNil)) (eCon (.int 4))))) (sRet (eCon (.bl false))) sNx)
    (sSeq (sIf (tOrM (tNotM (tTru (eN (Ph dep tab (n + 1) ("_law_whole", none)) (aCons (e2 opIx (eVar 3) (eCon (.int 0))) aNil)))) (tOrM (tNotM (tTru (e1 (opIsi .str) (e2 opIx (eVar 3) (eCon (.int 1)))))) (tBl (e2 opNe (eSl (eVar 3) pNone (pSome (eCon (.int 2)))) (eSl (e2 opIx (eVar 1) (eVar 2)) pNone (pSome (eCon (.int 2)))))))) (sRet (eCon (.bl false))) sNx)
    (sIf (tOrM (tNotM (tTru (eN (Ph dep tab (n + 1) ("_law_wholes", none)) (aCons (e2 opIx (eVar 3) (eCon (.int 2))) (aCons (e2 opIx (e2 opIx (eVar 1) (eVar 2)) (eCon (.int 2))) aNil))))) (tNotM (tTru (eN (Ph dep tab (n + 1) ("_law_wholes", none)) (aCons (e2 opIx (eVar 3) (eCon (.int 3))) (aCons (e2 opIx (e2 opIx (eVar 1) (eVar 2)) (eCon (.int 3))) aNil)))))) (sRet (eCon (.bl false))) sNx))))
theorem eSl_ap {a : Mx} {l h : Mp} {τ : MSt} {μ : MH} : eSl a l h τ μ = (a τ μ).bind fun x μ => (l τ μ).bind fun lo μ => (h τ μ).bind fun hi μ => opSl x lo hi μ := rfl
theorem pNone_ap {τ : MSt} {μ : MH} : pNone τ μ = .ok none μ := rfl
theorem pSome_2 {τ : MSt} {μ : MH} : pSome (eCon (.int 2)) τ μ = .ok (some 2) μ := rfl
theorem s0 {a b c d : D} {μ : MH} : opIx (.tup [a, b, c, d]) (.int 0) μ = .ok a μ := rfl
theorem s1' {a b c d : D} {μ : MH} : opIx (.tup [a, b, c, d]) (.int 1) μ = .ok b μ := rfl
theorem s2' {a b c d : D} {μ : MH} : opIx (.tup [a, b, c, d]) (.int 2) μ = .ok c μ := rfl
theorem s3' {a b c d : D} {μ : MH} : opIx (.tup [a, b, c, d]) (.int 3) μ = .ok d μ := rfl
theorem same_ok {xs : List D} {r1 r2 : Nat} {μ : MH} (n : Nat) (h1 : μ[r1]? = some (.lst xs)) (h2 : μ[r2]? = some (.lst xs)) (hs : ∀ d ∈ xs, IsStp d) (hl : xs.length < 900000) : Ph dep tab (n + 4) ("_law_same", none) [.ref r1, .ref r2] μ = .ok (.bl true) μ := by
  let P : Nat → MSt → MH → Prop := fun i τ μ1 => (∃ x2 x3, τ = [some (.ref r1), some (.ref r2), x2, x3]) ∧ μ1 = μ
  obtain ⟨τ', μ', hrun, ⟨x2, x3, rfl⟩, rfl⟩ := sFor_run (it := iA kRng1 (aCons (eN fLen (aCons (eVar 1) aNil)) aNil)) (t := .nm 2) (b := sSame (n + 2))
    (τ := [some (.ref r1), some (.ref r2), none, none]) (μ := μ) (μ1 := μ) (xs := isD (rg 0 xs.length)) (still := fun _ => True) P (it2 hl h2) (fun _ _ _ _ => trivial) (fun i x τ μ1 hx hp => by
      obtain ⟨⟨x2, x3, rfl⟩, rfl⟩ := hp
      obtain ⟨k, hk, rfl⟩ := isD_get hx
      have hk' := rg0_get hk
      obtain ⟨rfl, hi⟩ := hk'
      obtain ⟨l, w, c, t, ed, hw, hc, ht⟩ := hs xs[i] (List.getElem_mem hi)
      have hat : atI xs ((i : Nat) : Int) = some (stp l w c t) := atI_nat (by rw [List.getElem?_eq_getElem hi, ed])
      refine ⟨_, [some (.ref r1), some (.ref r2), some (.int (i : Nat)), some (stp l w c t)], μ1, rfl, .inl ?_, ⟨_, _, rfl⟩, rfl⟩
      have hwh : ∀ {j : Int} {ν : MH}, Ph dep tab (n + 2 + 1) ("_law_whole", none) [.int j] ν = .ok (.bl true) ν := fun {j ν} => whole_ok (n + 1)
      have hwc : Ph dep tab (n + 2 + 1) ("_law_wholes", none) [.tup (isD c), .tup (isD c)] μ1 = .ok (.bl true) μ1 := wholes_ok n hc
      have hwt : Ph dep tab (n + 2 + 1) ("_law_wholes", none) [.tup (isD t), .tup (isD t)] μ1 = .ok (.bl true) μ1 := wholes_ok n ht
      have hf4 : fLen [stp l w c t] μ1 = .ok (.int 4) μ1 := rfl
      have hit : opIsi .tuple (stp l w c t) μ1 = .ok (.bl true) μ1 := rfl
      unfold sSame
      rw [sSeq_ap]
      simp only [List.set_cons_zero, List.set_cons_succ, sAsg_ap, e2_ap, eVar_ap, List.getElem?_cons_zero, List.getElem?_cons_succ, varK_some, Out.bind_ok, e2K_ap, opIx_l h1 hat, toS_ok, asgK_nm, seqK_nx]
      rw [sSeq_ap]
      simp only [sIf_ap, tOrM_ap, tNotM_ap, tTru_ap, e1_ap, eVar_ap, List.getElem?_cons_zero, List.getElem?_cons_succ, varK_some, Out.bind_ok, hit, opTru_bl, Bool.not_true, orK_f, tBl_ap, e2_ap, e2K_ap, eN_ap, aCons_ap, consK_ap, aNil_ap, hf4, eCon_ap, opNe_i, decide_true, blK_ap, toS_ok, ifK_f, sNx_ap, seqK_nx]
      rw [sSeq_ap]
      simp only [stp, sIf_ap, tOrM_ap, tNotM_ap, tTru_ap, e1_ap, eVar_ap, List.getElem?_cons_zero, List.getElem?_cons_succ, varK_some, Out.bind_ok, opTru_bl, Bool.not_true, orK_f, tBl_ap, e2_ap, e2K_ap, eN_ap, aCons_ap, consK_ap, aNil_ap, eCon_ap, s0, s1', hwh, isi_ss, eSl_ap, pNone_ap, pSome_2, sl2, opIx_l h2 (show atI xs ((i : Nat) : Int) = some (.tup [.int l, .str w, .tup (isD c), .tup (isD t)]) from hat), eq2 hw, blK_ap, toS_ok, ifK_f, sNx_ap, seqK_nx]
      simp only [sIf_ap, tOrM_ap, tNotM_ap, tTru_ap, eVar_ap, List.getElem?_cons_zero, List.getElem?_cons_succ, varK_some, Out.bind_ok, opTru_bl, Bool.not_true, orK_f, e2_ap, e2K_ap, eN_ap, aCons_ap, consK_ap, aNil_ap, eCon_ap, s2', s3', opIx_l h2 (show atI xs ((i : Nat) : Int) = some (.tup [.int l, .str w, .tup (isD c), .tup (isD t)]) from hat), hwc, hwt, toS_ok, ifK_f, sNx_ap]) ⟨⟨none, none, rfl⟩, rfl⟩
  rw [show n + 4 = (n + 2) + 2 by omega, t_law_same]
  rw [runFn_2, sSeq_ap]
  simp only [Nat.reduceSub, List.reduceReplicate, sIf_ap, tOrM_ap, tNotM_ap, tTru_ap, e1_ap, eVar_ap, List.getElem?_cons_zero, List.getElem?_cons_succ, varK_some, Out.bind_ok, isi_ll h1, opTru_bl, Bool.not_true, orK_f, tBl_ap, e2_ap, e2K_ap, eN_ap, aCons_ap, consK_ap, aNil_ap, fLen_l h1, fLen_l h2, opNe_i, decide_true, blK_ap, toS_ok, ifK_f, sNx_ap, seqK_nx]
  rw [sSeq_ap, hrun]
  simp only [seqK_nx, sRet_ap, eCon_ap, toS_ok, finK_ret]
theorem law_pure (ns : List Int) : ∃ μ', Ph dep tab 42 ("law", none) [.frl (ns.map D.int)] [] = .ok (.bl true) μ' := by
  show ∃ μ', Ph dep tab 42 ("law", none) [.frl (isD ns)] [] = .ok (.bl true) μ'
  let c1 : Int := (ns[1]?).getD 0
  have hc1 : Ph dep tab 41 ("_law_cell_at", none) [.frl (isD ns), .int 1] [] = .ok (.int c1) [] := cell_ok (ns := ns) 39 1
  have m0 := Int.emod_nonneg c1 (show (1000000000000000000000000000000 + 1 : Int) ≠ 0 by decide)
  obtain ⟨b, r, μ1, e1, hr, hd, hwf, hwd, hnum, hl⟩ := built_ok (ns := ns) (beh := 100 + c1 % (1000000000000000000000000000000 + 1)) (μ := []) 35 (by omega)
  have hU : (UOf ns (100 + c1 % (1000000000000000000000000000000 + 1))).length < 1000 := by simp [UOf]
  obtain ⟨r2, μ2, e2', hle2, hr2, k2, k2'⟩ := steps_ok (n := 38) (beh := 100 + c1 % (1000000000000000000000000000000 + 1)) (μ := μ1) hU hnum (by omega) hwf hl
  have hs := walk_stp b [] (fun _ => 0) hwf hwd
  have hrl := getSome_lt hr
  have hr' : μ2[r]? = some (.lst (walk (fun _ => 0) b)) := by rw [k2 r hrl]; exact hr
  have e3 := same_ok 37 hr2 hr' hs hl
  let μ3 : MH := μ2.set r2 (.lst (walk (fun _ => 0) b ++ [.tup [.int 0, .str "set", .tup [], .tup []]]))
  have hne : r2 ≠ r := by omega
  have hr3 : μ3[r]? = some (.lst (walk (fun _ => 0) b)) := set_ne hne hr'
  obtain ⟨r4, μ4, e4, hle4, hr4, k4, k4'⟩ := steps_ok (n := 38) (beh := 100 + c1 % (1000000000000000000000000000000 + 1)) (μ := μ3) hU hnum (by omega) hwf hl
  have hr5 : μ4[r]? = some (.lst (walk (fun _ => 0) b)) := by rw [k4 r (getSome_lt hr3)]; exact hr3
  have e5 := same_ok 37 hr4 hr5 hs hl
  have hmod : opMod (.int c1) (.int (1000000000000000000000000000000 + 1)) [] = .ok (.int (c1 % (1000000000000000000000000000000 + 1))) [] := opMod_i (by decide)
  refine ⟨μ4, ?_⟩
  rw [show (42 : Nat) = 40 + 2 from rfl, t_law]
  rw [runFn_1, sSeq_ap]
  simp only [Nat.reduceSub, Nat.reduceAdd, List.reduceReplicate, sAsg_ap, eN_ap, aCons_ap, eVar_ap, List.getElem?_cons_zero, List.getElem?_cons_succ, varK_some, Out.bind_ok, consK_ap, aNil_ap, e2_ap, e2K_ap, eCon_ap, hc1, pow30, opAdd_i, hmod]
  simp only [Nat.reduceAdd] at e1 e2' e3 e4 e5
  simp only [e1, toS_ok, asgK_tp2, List.set_cons_zero, List.set_cons_succ, seqK_nx]
  rw [sSeq_ap]
  simp only [sAsg_ap, eN_ap, aCons_ap, eVar_ap, List.getElem?_cons_zero, List.getElem?_cons_succ, varK_some, Out.bind_ok, consK_ap, aNil_ap, e2', toS_ok, asgK_nm, List.set_cons_zero, List.set_cons_succ, seqK_nx]
  rw [sSeq_ap]
  simp only [sIf_ap, tNotM_ap, tTru_ap, eN_ap, aCons_ap, eVar_ap, List.getElem?_cons_zero, List.getElem?_cons_succ, varK_some, Out.bind_ok, consK_ap, aNil_ap, e3, opTru_bl, Bool.not_true, toS_ok, ifK_f, sNx_ap, seqK_nx]
  rw [sSeq_ap]
  simp only [sEx_ap, eMeth_ap, eVar_ap, List.getElem?_cons_zero, List.getElem?_cons_succ, varK_some, Out.bind_ok, methK_lst hr2, aCons_ap, eTup_ap, eCon_ap, consK_ap, aNil_ap, tupK_ok (show ([] : List D).length ≤ 100 by decide)]
  rw [tupK_ok (by simp)]
  simp only [Out.bind_ok, consK_ap, aNil_ap]
  rw [mAppend_ap hr2 (by omega)]
  simp only [toS_ok, seqK_nx]
  rw [show μ2.set r2 (.lst (walk (fun _ => 0) b ++ [.tup [.int 0, .str "set", .tup [], .tup []]])) = μ3 from rfl]
  simp only [sRet_ap, eN_ap, aCons_ap, eVar_ap, List.getElem?_cons_zero, List.getElem?_cons_succ, varK_some, Out.bind_ok, consK_ap, aNil_ap, e4, e5, toS_ok, finK_ret]
abbrev f_law : FD := f_18
end K43

open PySem PySem.W PySem.Calls PyProof.Rows
theorem PySem.Challenge.cw_arrayloom_k43_the_order_of_a_nest_holds : PySem.Challenge.rw_arrayloom_k43_the_order_of_a_nest.Holds := by
  w_on; o_law
  refine HandSHeadRun.head_any (r := OpenLaw.row PySem.Challenge.rw_arrayloom_k43_the_order_of_a_nest) (q := view (OpenLaw.row PySem.Challenge.rw_arrayloom_k43_the_order_of_a_nest).prog [20]) (H := K43.hk) (ob := K43.ob) (M := 20000) (loose := K43.loose) (d := HandSHeadRun.topDef (OpenLaw.row PySem.Challenge.rw_arrayloom_k43_the_order_of_a_nest).prog 20) (kwd := []) K43.ob_eq
    (by kernel_rfl) (fun s => by kernel_rfl) K43.run (by kernel_rfl) (by kernel_rfl) (by kernel_rfl) (by rfl) (by first | assumption | decide +kernel) (by decide +kernel) ⟨rfl, rfl, rfl, rfl, rfl, by decide +kernel⟩ ?hw ?hc
  case hw => w_witness2
  case hc =>
    refine L2.walk_ofE (l := PySem.Challenge.rw_arrayloom_k43_the_order_of_a_nest) (n := 63) (k := 42) (x := "_law_script") (CX := MM.CXE (PySem.Challenge.rw_arrayloom_k43_the_order_of_a_nest).prog) rfl (by decide) (by kernel_rfl) ⟨rfl, by decide, by decide⟩ ?F MM.cxe_no
    intro w mg fa h Y G hmg0
    obtain ⟨K, KX, c⟩ := Y
    have hmg : mg ("law" : PySem.Str) = some (.ref fa) := by
      have e : (HandSHeadRun.topDef (OpenLaw.row PySem.Challenge.rw_arrayloom_k43_the_order_of_a_nest).prog 20).name = ("law" : PySem.Str) := by kernel_rfl
      rw [← e]
      exact hmg0
    obtain ⟨fd, hb, hF⟩ := MM.law_ok (P := (PySem.Challenge.rw_arrayloom_k43_the_order_of_a_nest).prog) (w := w) (dep := K43.dep) KX G c K43.tabOk (fl := K43.f_law) (x := "_law_script") (by rfl) (by rfl) hmg (MM.mem_fa (by kernel_rfl)) 40
    exact ⟨K, fd, _, KX, hb, fun H a ns hl hO hS => MM.law_sp hO hS (K43.law_pure ns), hF⟩
