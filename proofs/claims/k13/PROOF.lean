import PyProof.Rows.All
import Wide.All
import OpenK.AllK
import Wide.FinOn
import HandS.ForMost
import HandS.ForExc
import HandS.Lambda
import HandS.TupAny
import HandS.TupMul
import HandS.Deep
import HandS.Style
import HandS.IsInst
import HandS.Conv
import HandS.WideBits
import HandS.CallSlots
import KE.GoesEnum
import HandS.Iter
import HandS.TupSets
import HandS.Rev
import HandS.Text
import KE.SortData
import KE.SortKeyHeap
import HandS.ExcOwn
import KE.KExcSuper
import KE.KExcHand
import OpenK.KCell
import OpenK.KMake
import HandS.SetFor
import HandS.EndTab
import HandS.HeadHook4
import HandS.HeadWalk
import HandS.Head2
import PySem.Challenge.RW_shellmarks_k13_whole_measures_that_depen
set_option Elab.async false
set_option linter.all false
set_option maxRecDepth 100000
set_option maxHeartbeats 1000000
/-! DL: a value layer of one's own over HandS: what an expression is worth as data. -/
namespace DL
open PySem PySem.Spec L2

/-- an outcome: a value, an own exception (its kind, what it carries), or nothing that is told -/
inductive R (α : Type) where
  | ok (a : α)
  | exc (k : Nat) (p : PyData)
  | bad
@[inline] def R.bind {α β : Type} (r : R α) (f : α → R β) : R β := match r with
  | .ok a => f a
  | .exc k p => .exc k p
  | .bad => .bad
instance : Monad R where
  pure := .ok
  bind := R.bind
@[simp] theorem R.ok_bind {α β : Type} (a : α) (f : α → R β) : (R.ok a >>= f) = f a := (rfl)
@[simp] theorem R.exc_bind {α β : Type} (k : Nat) (p : PyData) (f : α → R β) : (R.exc k p >>= f) = R.exc k p := (rfl)
@[simp] theorem R.bad_bind {α β : Type} (f : α → R β) : ((R.bad : R α) >>= f) = R.bad := (rfl)
@[simp] theorem R.pure_eq {α : Type} (a : α) : (pure a : R α) = R.ok a := (rfl)

/-- fresh, owned -/
inductive Md where
  | fr | ow
/-- what a value is worth: data; a list, a dict that is new or one's own; an instance that stands still -/
inductive S where
  | d (x : PyData)
  | l (m : Md) (ds : List PyData)
  | k (m : Md) (kvs : List (Key × PyData))
  | obj (c : Nat) (fs : List (Str × PyData))

/-- the classes of the text -/
structure Cfg where
  cls : Nat → Addr
  exc : Nat → Addr
  fld : Nat → Str
  /-- the attributes that a class's instances may have -/
  fl : Nat → List Str
  /-- the tables of code objects, the names that they bear -/
  T : List (Addr × Str)

/-- no table of code objects -/
def NT (o : HO) : Prop := ∀ ps, o ≠ .tbl ps
/-- what is tracked without some places, and without the tables -/
def Hm (H : Hp) (O : List Addr) : Hp := fun a => if a ∈ O then none else match H a with
  | some (.tbl _) => none
  | x => x
theorem hm_some {H : Hp} {O : List Addr} {a : Addr} {o : HO} (e : Hm H O a = some o) : a ∉ O ∧ H a = some o := by
  unfold Hm at e
  split at e
  · cases e
  · rename_i m
    refine ⟨m, ?_⟩
    split at e
    · cases e
    · exact e
theorem hm_nt {H : Hp} {O : List Addr} {a : Addr} {o : HO} (e : Hm H O a = some o) : NT o := by
  unfold Hm at e
  split at e
  · cases e
  · split at e
    · cases e
    · rename_i n
      intro ps z
      subst z
      exact n ps e
theorem hm_mk {H : Hp} {O : List Addr} {a : Addr} {o : HO} (m : a ∉ O) (e : H a = some o) (n : NT o := by intro _ z; cases z) : Hm H O a = some o := by
  unfold Hm
  rw [if_neg m, e]
  split
  · rename_i q; exact (n _ (Option.some.inj q)).elim
  · rfl
/-- all that is tracked stays; tables of code objects grow -/
structure Sm (C : Cfg) (H H' : Hp) : Prop where
  kp : ∀ a o, H a = some o → NT o → H' a = some o
  ts : LamX.Tabs C.T H → LamX.Tabs C.T H'
theorem Sm.at {C : Cfg} {H H' : Hp} (e : Sm C H H') {a : Addr} {o : HO} (h : H a = some o) (n : NT o := by intro _ z; cases z) : H' a = some o := e.kp a o h n
theorem Sm.of {C : Cfg} {H H' : Hp} (e : Same H H') : Sm C H H' := ⟨fun a o h _ => e a o h, fun t => t.ext e⟩
theorem Sm.refl {C : Cfg} (H : Hp) : Sm C H H := .of (Same.refl H)
theorem Sm.trans {C : Cfg} {H H1 H2 : Hp} (a : Sm C H H1) (b : Sm C H1 H2) : Sm C H H2 :=
  ⟨fun x o h n => b.kp x o (a.kp x o h n) n, fun t => b.ts (a.ts t)⟩
theorem nt_or (o : HO) : NT o ∨ ∃ ps, o = .tbl ps := by
  cases o with
  | tbl ps => exact .inr ⟨ps, rfl⟩
  | _ => exact .inl fun _ z => by cases z
/-- nothing is there, a table apart -/
def Nn (H : Hp) (a : Addr) : Prop := ∀ o, H a = some o → ¬ NT o
theorem Nn.of {H : Hp} {a : Addr} (h : H a = none) : Nn H a := fun o e => by rw [h] at e; cases e
theorem Nn.ne {H : Hp} {a b : Addr} {o : HO} (h : Nn H a) (e : H b = some o) (n : NT o := by intro _ z; cases z) : b ≠ a := fun z => h o (z ▸ e) n
theorem Sm.free {C : Cfg} {H H' : Hp} (e : Sm C H H') {l : Addr} (h : Nn H' l) : Nn H l := fun o q n => h o (e.kp l o q n) n
theorem hm_same {C : Cfg} {H H' : Hp} {O : List Addr} (h : Sm C H H') : Same (Hm H O) (Hm H' O) := fun a o e => by
  obtain ⟨m, e'⟩ := hm_some e
  exact hm_mk m (h.kp a o e' (hm_nt e)) (hm_nt e)
theorem hm_sub {H : Hp} {O O' : List Addr} (h : ∀ a, a ∈ O' → a ∈ O) : Same (Hm H O) (Hm H O') := fun a o e => by
  obtain ⟨m, e'⟩ := hm_some e
  exact hm_mk (fun z => m (h a z)) e' (hm_nt e)
theorem hm_le {H : Hp} {O : List Addr} : Same (Hm H O) H := fun a o e => (hm_some e).2
/-- a new place that is left out changes nothing -/
theorem hm_new {H : Hp} {O : List Addr} {p : Addr} {o : HO} (h : H p = none) : Same (Hm H O) (Hm (upd H p o) (p :: O)) := fun a u e => by
  obtain ⟨m, e'⟩ := hm_some e
  have ne : a ≠ p := ne_of_none e' h
  exact hm_mk (by simp [ne, m]) (by rw [upd_ne ne]; exact e') (hm_nt e)
/-- a store at a place that is left out -/
theorem hm_upd {H : Hp} {O : List Addr} {p : Addr} {o : HO} (h : p ∈ O) : Hm (upd H p o) O = Hm H O := by
  funext a
  unfold Hm
  by_cases m : a ∈ O
  · rw [if_pos m, if_pos m]
  · rw [if_neg m, if_neg m, upd_ne (fun z => m (by rw [z]; exact h))]

section
variable {K : PySem.W.Frag} {H H' : Hp}
theorem sqT_same {a : Addr} {xs : List V} (e : Same H H') (h : SqT K H a xs) : SqT K H' a xs := by
  rcases h with (h | ⟨o, h⟩) | h
  · exact .inl (.inl (e _ _ h))
  · exact .inl (.inr ⟨o, e _ _ h⟩)
  · exact .inr h
mutual
theorem dp_same (e : Same H H') : ∀ {v : V} {x : PyData}, Dp K H v x → Dp K H' v x
  | _, _, .non => .non
  | _, _, .bl b => .bl b
  | _, _, .int i => .int i
  | _, _, .str z => .str z
  | _, _, .lst h r => .lst (e.seq h) (dpa_same e r)
  | _, _, .tup h r => .tup (sqT_same e h) (dpa_same e r)
theorem dpa_same (e : Same H H') : ∀ {vs : List V} {xs : List PyData}, DpAll K H vs xs → DpAll K H' vs xs
  | _, _, .nil => .nil
  | _, _, .cons h r => .cons (dp_same e h) (dpa_same e r)
end
theorem dpa_length : ∀ {vs : List V} {xs : List PyData}, DpAll K H vs xs → vs.length = xs.length
  | _, _, .nil => rfl
  | _, _, .cons _ r => congrArg (· + 1) (dpa_length r)
theorem dpa_get : ∀ {vs : List V} {xs : List PyData} {i : Nat} {x : PyData}, DpAll K H vs xs → xs[i]? = some x → ∃ v, vs[i]? = some v ∧ Dp K H v x
  | _, _, _, _, .nil, e => by simp at e
  | _, _, 0, _, .cons h _, e => by simp at e; subst e; exact ⟨_, rfl, h⟩
  | _, _, i + 1, x, .cons _ r, e => by
    obtain ⟨v, e1, q⟩ := dpa_get (i := i) (x := x) r (by simpa using e)
    exact ⟨v, by simpa using e1, q⟩
theorem dpa_getV : ∀ {vs : List V} {xs : List PyData} {i : Nat} {v : V}, DpAll K H vs xs → vs[i]? = some v → ∃ x, xs[i]? = some x ∧ Dp K H v x
  | _, _, _, _, .nil, e => by simp at e
  | _, _, 0, _, .cons h _, e => by simp at e; subst e; exact ⟨_, rfl, h⟩
  | _, _, i + 1, v, .cons _ r, e => by
    obtain ⟨x, e1, q⟩ := dpa_getV (i := i) (v := v) r (by simpa using e)
    exact ⟨x, by simpa using e1, q⟩
theorem dpa_app : ∀ {vs ws : List V} {xs ys : List PyData}, DpAll K H vs xs → DpAll K H ws ys → DpAll K H (vs ++ ws) (xs ++ ys)
  | _, _, _, _, .nil, r => r
  | _, _, _, _, .cons h t, r => .cons h (dpa_app t r)
theorem dpa_set {v : V} {x : PyData} (h : Dp K H v x) : ∀ {vs : List V} {xs : List PyData} (i : Nat), DpAll K H vs xs → DpAll K H (vs.set i v) (xs.set i x)
  | _, _, _, .nil => .nil
  | _, _, 0, .cons _ t => .cons h t
  | _, _, i + 1, .cons q t => .cons q (dpa_set h i t)
theorem dpa_take : ∀ {vs : List V} {xs : List PyData} (n : Nat), DpAll K H vs xs → DpAll K H (vs.take n) (xs.take n)
  | _, _, 0, _ => .nil
  | _, _, _ + 1, .nil => .nil
  | _, _, n + 1, .cons h t => .cons h (dpa_take n t)
theorem dpa_drop : ∀ {vs : List V} {xs : List PyData} (n : Nat), DpAll K H vs xs → DpAll K H (vs.drop n) (xs.drop n)
  | _, _, 0, r => r
  | _, _, _ + 1, .nil => .nil
  | _, _, n + 1, .cons _ t => dpa_drop n t
theorem dpa_rev {vs : List V} {xs : List PyData} (h : DpAll K H vs xs) : DpAll K H vs.reverse xs.reverse := by
  have go : ∀ {vs ws : List V} {xs ys : List PyData}, DpAll K H vs xs → DpAll K H ws ys → DpAll K H (vs.reverseAux ws) (xs.reverseAux ys) := by
    intro vs
    induction vs with
    | nil => intro ws xs ys h r; cases h; exact r
    | cons v vs ih =>
      intro ws xs ys h r
      cases h with
      | @cons _ _ d ds h t => exact ih (ws := v :: ws) (xs := ds) (ys := d :: ys) t (.cons h r)
  exact go h .nil
theorem dpa_of_get : ∀ {vs : List V} {xs : List PyData}, vs.length = xs.length → (∀ (i : Nat) v x, vs[i]? = some v → xs[i]? = some x → Dp K H v x) → DpAll K H vs xs
  | [], [], _, _ => .nil
  | [], _ :: _, h, _ => by simp at h
  | _ :: _, [], h, _ => by simp at h
  | v :: vs, x :: xs, h, k => .cons (k 0 v x rfl rfl) (dpa_of_get (by simpa using h) fun i w y a b => k (i + 1) w y (by simpa using a) (by simpa using b))
theorem dpa_rep {vs : List V} {xs : List PyData} (h : DpAll K H vs xs) : ∀ n : Nat, DpAll K H (List.replicate n vs).flatten (List.replicate n xs).flatten
  | 0 => .nil
  | n + 1 => by rw [List.replicate_succ, List.replicate_succ, List.flatten_cons, List.flatten_cons]; exact dpa_app h (dpa_rep h n)
theorem dpa_ints (ns : List Int) : DpAll K H (ns.map V.int) (ns.map PyData.int) := by
  induction ns with
  | nil => exact .nil
  | cons n ns ih => exact .cons (.int n) ih
theorem dpa_int_inv : ∀ {vs : List V} {ns : List Int}, DpAll K H vs (ns.map PyData.int) → vs = ns.map V.int
  | _, [], .nil => rfl
  | _, n :: ns, .cons (.int _) r => by rw [dpa_int_inv r]; rfl
theorem dpa_bool_inv : ∀ {vs : List V} {ns : List Bool}, DpAll K H vs (ns.map PyData.bool) → vs = ns.map V.bl
  | _, [], .nil => rfl
  | _, n :: ns, .cons (.bl _) r => by rw [dpa_bool_inv r]; rfl
theorem dpa_str_inv : ∀ {vs : List V} {ns : List Str}, DpAll K H vs (ns.map PyData.str) → vs = ns.map V.str
  | _, [], .nil => rfl
  | _, n :: ns, .cons (.str _) r => by rw [dpa_str_inv r]; rfl
end

/-- pairs of keys and values -/
def KvAll (K : PySem.W.Frag) (H : Hp) : List (Key × V) → List (Key × PyData) → Prop
  | [], [] => True
  | (k, v) :: r, (k', x) :: r' => k = k' ∧ Dp K H v x ∧ KvAll K H r r'
  | _, _ => False
theorem kv_same {K : PySem.W.Frag} {H H' : Hp} (e : Same H H') : ∀ {vs : List (Key × V)} {xs : List (Key × PyData)}, KvAll K H vs xs → KvAll K H' vs xs
  | [], [], _ => trivial
  | (_, _) :: _, (_, _) :: _, ⟨h1, h2, h3⟩ => ⟨h1, dp_same e h2, kv_same e h3⟩
  | [], _ :: _, h => h.elim
  | _ :: _, [], h => h.elim
/-- some attributes of an instance; all that it has are among fl -/
def FsAll (K : PySem.W.Frag) (fl : List Str) (H : Hp) (vs : List (Str × V)) (xs : List (Str × PyData)) : Prop := (∀ f x, xs.lookup f = some x → ∃ v, vs.lookup f = some v ∧ Dp K H v x) ∧ ∀ f v, vs.lookup f = some v → f ∈ fl
theorem fs_same {K : PySem.W.Frag} {fl : List Str} {H H' : Hp} (e : Same H H') {vs : List (Str × V)} {xs : List (Str × PyData)} (h : FsAll K fl H vs xs) : FsAll K fl H' vs xs := ⟨fun f x l => let ⟨v, a, b⟩ := h.1 f x l; ⟨v, a, dp_same e b⟩, h.2⟩
theorem fs_look {K : PySem.W.Frag} {fl : List Str} {H : Hp} {f : Str} {vs : List (Str × V)} {xs : List (Str × PyData)} {x : PyData} (h : FsAll K fl H vs xs) (e : xs.lookup f = some x) : ∃ v, vs.lookup f = some v ∧ Dp K H v x := h.1 f x e

/-- a value is worth s, over H without the places O that one owns -/
inductive BV (K : PySem.W.Frag) (C : Cfg) (H : Hp) (O : List Addr) : V → S → Prop
  | d {v : V} {x : PyData} : Dp K (Hm H O) v x → BV K C H O v (.d x)
  | fl {a : Addr} {xs : List V} {ds : List PyData} : a ∉ O → H a = some (.lst xs) → DpAll K (Hm H (a :: O)) xs ds → BV K C H O (.ref a) (.l .fr ds)
  | ol {a : Addr} {xs : List V} {ds : List PyData} : a ∈ O → H a = some (.lst xs) → DpAll K (Hm H O) xs ds → BV K C H O (.ref a) (.l .ow ds)
  | fk {a : Addr} {xs : List (Key × V)} {ds : List (Key × PyData)} : a ∉ O → H a = some (.dK xs) → KvAll K (Hm H (a :: O)) xs ds → BV K C H O (.ref a) (.k .fr ds)
  | ok {a : Addr} {xs : List (Key × V)} {ds : List (Key × PyData)} : a ∈ O → H a = some (.dK xs) → KvAll K (Hm H O) xs ds → BV K C H O (.ref a) (.k .ow ds)
  | obj {a dx : Addr} {c : Nat} {fs : List (Str × V)} {gs : List (Str × PyData)} : Hm H O a = some (.ins (C.cls c) dx fs) → FsAll K (C.fl c) (Hm H O) fs gs → BV K C H O (.ref a) (.obj c gs)
section
variable {K : PySem.W.Frag} {C : Cfg} {H H' : Hp} {O : List Addr} {v : V} {s : S}
theorem bv_same (e : Sm C H H') (h : BV K C H O v s) : BV K C H' O v s := by
  cases h with
  | d h => exact .d (dp_same (hm_same e) h)
  | fl h1 h2 h3 => exact .fl h1 (e.at h2) (dpa_same (hm_same e) h3)
  | ol h1 h2 h3 => exact .ol h1 (e.at h2) (dpa_same (hm_same e) h3)
  | fk h1 h2 h3 => exact .fk h1 (e.at h2) (kv_same (hm_same e) h3)
  | ok h1 h2 h3 => exact .ok h1 (e.at h2) (kv_same (hm_same e) h3)
  | obj h1 h2 => exact .obj (hm_same e _ _ h1) (fs_same (hm_same e) h2)
/-- as data -/
def S.pd : S → R PyData
  | .d x => .ok x
  | .l .fr ds => .ok (.list ds)
  | _ => .bad
theorem hm_cons {H : Hp} {O : List Addr} {a : Addr} : Same (Hm H (a :: O)) (Hm H O) := hm_sub fun _ z => List.mem_cons_of_mem _ z
theorem bv_pd {x : PyData} (h : BV K C H O v s) (e : s.pd = .ok x) : Dp K (Hm H O) v x := by
  cases h with
  | d h => cases e; exact h
  | fl h1 h2 h3 => cases e; exact .lst (.inl (.inl (hm_mk h1 h2))) (dpa_same hm_cons h3)
  | ol => cases e
  | fk => cases e
  | ok => cases e
  | obj => cases e
/-- the items of a list, of a tuple -/
def S.its : S → R (List PyData)
  | .d (.list ds) => .ok ds
  | .d (.tuple ds) => .ok ds
  | .l _ ds => .ok ds
  | _ => .bad
def S.lst : S → R (List PyData)
  | .d (.list ds) => .ok ds
  | .l _ ds => .ok ds
  | _ => .bad
theorem bv_lst {ds : List PyData} (h : BV K C H O v s) (e : s.lst = .ok ds) : ∃ a xs, v = .ref a ∧ SqL K H a xs ∧ DpAll K (Hm H O) xs ds := by
  cases h with
  | d h =>
    cases h with
    | lst h r => cases e; exact ⟨_, _, rfl, hm_le.seq h, r⟩
    | _ => cases e
  | fl h1 h2 h3 => cases e; exact ⟨_, _, rfl, SqL.of h2, dpa_same hm_cons h3⟩
  | ol h1 h2 h3 => cases e; exact ⟨_, _, rfl, SqL.of h2, h3⟩
  | fk => cases e
  | ok => cases e
  | obj => cases e
theorem bv_its {ds : List PyData} (h : BV K C H O v s) (e : s.its = .ok ds) : ∃ a xs, v = .ref a ∧ (SqL K H a xs ∨ SqT K H a xs) ∧ DpAll K (Hm H O) xs ds := by
  cases h with
  | d h =>
    cases h with
    | lst h r => cases e; exact ⟨_, _, rfl, .inl (hm_le.seq h), r⟩
    | tup h r => cases e; exact ⟨_, _, rfl, .inr (sqT_same hm_le h), r⟩
    | _ => cases e
  | fl h1 h2 h3 => cases e; exact ⟨_, _, rfl, .inl (SqL.of h2), dpa_same hm_cons h3⟩
  | ol h1 h2 h3 => cases e; exact ⟨_, _, rfl, .inl (SqL.of h2), h3⟩
  | fk => cases e
  | ok => cases e
  | obj => cases e
end
/-- new: not there ahead -/
def Fresh (H : Hp) (v : V) : S → Prop
  | .l .fr _ => ∃ a, v = .ref a ∧ Nn H a
  | .k .fr _ => ∃ a, v = .ref a ∧ Nn H a
  | _ => True
theorem Fresh.back {H H' : Hp} {v : V} {s : S} (e : Sm C H H') (h : Fresh H' v s) : Fresh H v s := by
  cases s with
  | l m ds => cases m with
    | fr => obtain ⟨a, h1, h2⟩ := h; exact ⟨a, h1, e.free h2⟩
    | ow => trivial
  | k m ds => cases m with
    | fr => obtain ⟨a, h1, h2⟩ := h; exact ⟨a, h1, e.free h2⟩
    | ow => trivial
  | d x => trivial
  | obj c fs => trivial

abbrev Env := List (Option S)
/-- as a slot may hold it: still, or one's own -/
def S.still : S → Bool
  | .d _ => true
  | .obj _ _ => true
  | _ => false
def S.own : S → Bool
  | .l .ow _ => true
  | .k .ow _ => true
  | _ => false
/-- what one owns is there, and may be changed -/
abbrev Dom (H : Hp) (O : List Addr) : Prop := ∀ a ∈ O, ∃ o, H a = some o ∧ Mut (some o)
theorem mut_nt {o : HO} (h : Mut (some o)) : NT o := fun ps z => by subst z; exact h
theorem Dom.same {C : Cfg} {H H' : Hp} {O : List Addr} (d : Dom H O) (e : Sm C H H') : Dom H' O := fun a h => let ⟨o, p, q⟩ := d a h; ⟨o, e.at p (mut_nt q), q⟩
/-- the slots -/
structure Rep (K : PySem.W.Frag) (C : Cfg) (H : Hp) (O : List Addr) (δ : Env) (σ : St) : Prop where
  len : δ.length = σ.length
  slot : ∀ (i : Nat) s, δ[i]? = some (some s) → (s.still = true ∨ s.own = true) ∧ ∃ v, σ[i]? = some (some v) ∧ BV K C H O v s
  uniq : ∀ (i j : Nat) a s t, δ[i]? = some (some s) → δ[j]? = some (some t) → s.own = true → t.own = true → σ[i]? = some (some (.ref a)) → σ[j]? = some (some (.ref a)) → i = j
  dom : Dom H O
  tabs : LamX.Tabs C.T H
theorem Rep.same {K : PySem.W.Frag} {C : Cfg} {H H' : Hp} {O : List Addr} {δ : Env} {σ : St} (r : Rep K C H O δ σ) (e : Sm C H H') : Rep K C H' O δ σ :=
  ⟨r.len, fun i s h => let ⟨q, v, a, b⟩ := r.slot i s h; ⟨q, v, a, bv_same e b⟩, r.uniq, r.dom.same e, e.ts r.tabs⟩

/-- behind an expression -/
def Post (K : PySem.W.Frag) (C : Cfg) (W : WX) (σ : St) (H : Hp) (O : List Addr) (Q : VK) : R S → Prop
  | .ok s => ∀ v H', Sm C H H' → BV K C H' O v s → Fresh H v s → Q v H'
  | .exc k p => ∀ v d H', Sm C H H' → H' d = some (.xd [(C.fld k, v)]) → Dp K (Hm H' O) v p → W (.ref (C.exc k)) (some d) σ H'
  | .bad => False
def tD (K : PySem.W.Frag) (C : Cfg) (W : WX) (f : Env → R S) : TE := fun σ H Q => ∃ δ O, Rep K C H O δ σ ∧ Post K C W σ H O Q (f δ)
/-- several -/
inductive BVs (K : PySem.W.Frag) (C : Cfg) (H : Hp) (O : List Addr) : List V → List S → Prop
  | nil : BVs K C H O [] []
  | cons {v : V} {s : S} {vs : List V} {ss : List S} : BV K C H O v s → BVs K C H O vs ss → BVs K C H O (v :: vs) (s :: ss)
theorem bvs_same {K : PySem.W.Frag} {C : Cfg} {H H' : Hp} {O : List Addr} (e : Sm C H H') : ∀ {vs : List V} {ss : List S}, BVs K C H O vs ss → BVs K C H' O vs ss
  | _, _, .nil => .nil
  | _, _, .cons h r => .cons (bv_same e h) (bvs_same e r)
theorem bvs_length {K : PySem.W.Frag} {C : Cfg} {H : Hp} {O : List Addr} : ∀ {vs : List V} {ss : List S}, BVs K C H O vs ss → vs.length = ss.length
  | _, _, .nil => rfl
  | _, _, .cons _ r => congrArg (· + 1) (bvs_length r)
def PostA (K : PySem.W.Frag) (C : Cfg) (W : WX) (σ : St) (H : Hp) (O : List Addr) (Q : List V → Hp → Prop) : R (List S) → Prop
  | .ok ss => ∀ vs H', Sm C H H' → BVs K C H' O vs ss → Q vs H'
  | .exc k p => ∀ v d H', Sm C H H' → H' d = some (.xd [(C.fld k, v)]) → Dp K (Hm H' O) v p → W (.ref (C.exc k)) (some d) σ H'
  | .bad => False
def tDA (K : PySem.W.Frag) (C : Cfg) (W : WX) (f : Env → R (List S)) : TA := fun σ H Q => ∃ δ O, Rep K C H O δ σ ∧ PostA K C W σ H O Q (f δ)
def PostT (K : PySem.W.Frag) (C : Cfg) (W : WX) (σ : St) (H : Hp) (O : List Addr) (Q : Bool → Hp → Prop) : R Bool → Prop
  | .ok b => ∀ H', Sm C H H' → Q b H'
  | .exc k p => ∀ v d H', Sm C H H' → H' d = some (.xd [(C.fld k, v)]) → Dp K (Hm H' O) v p → W (.ref (C.exc k)) (some d) σ H'
  | .bad => False
def tDT (K : PySem.W.Frag) (C : Cfg) (W : WX) (f : Env → R Bool) : TT := fun σ H Q => ∃ δ O, Rep K C H O δ σ ∧ PostT K C W σ H O Q (f δ)

theorem PE.imp {X : Cx} {e : Expr} {t t' : TE} (h : PE X e t) (k : ∀ σ H Q, t' σ H Q → t σ H Q) : PE X e t' := ⟨fun pins s σ H Q I w => h.run pins s σ H Q I (k σ H Q w)⟩
theorem PT.imp {X : Cx} {e : Expr} {t t' : TT} (h : PT X e t) (k : ∀ σ H Q, t' σ H Q → t σ H Q) : PT X e t' := ⟨fun pins s σ H Q I w => h.run pins s σ H Q I (k σ H Q w)⟩
theorem PW.imp {X : Cx} {e : Expr} {t t' : TT} (h : PW X e t) (k : ∀ σ H Q, t' σ H Q → t σ H Q) : PW X e t' := ⟨fun wh pins s σ H Q I w => h.run wh pins s σ H Q I (k σ H Q w)⟩
theorem PA.imp {X : Cx} {e : List Expr} {t t' : TA} (h : PA X e t) (k : ∀ σ H Q, t' σ H Q → t σ H Q) : PA X e t' := ⟨fun pos pins s σ H Q I w => h.run pos pins s σ H Q I (k σ H Q w)⟩
theorem PS.imp {X : Cx} {e : Stmt} {t t' : TS} (h : PS X e t) (k : ∀ D σ H, t' D σ H → t D σ H) : PS X e t' := ⟨fun pins s σ H D I w => h.run pins s σ H D I (k D σ H w)⟩
theorem PSs.imp {X : Cx} {e : List Stmt} {t t' : TS} (h : PSs X e t) (k : ∀ D σ H, t' D σ H → t D σ H) : PSs X e t' := ⟨fun pins s σ H D I w => h.run pins s σ H D I (k D σ H w)⟩

section
variable {K : PySem.W.Frag} {C : Cfg} {W : WX} {σ : St} {H : Hp} {O : List Addr} {δ : Env}
/-- one after another -/
theorem seq1 {α : Type} {f : Env → R S} {g : S → R α} {PQ : R α → Prop} {Q' : VK} (rep : Rep K C H O δ σ) (h : PQ (f δ >>= g))
    (hx : ∀ k p, PQ (.exc k p) → ∀ v d H', Sm C H H' → H' d = some (.xd [(C.fld k, v)]) → Dp K (Hm H' O) v p → W (.ref (C.exc k)) (some d) σ H') (hb : ¬ PQ .bad)
    (ho : ∀ s, f δ = .ok s → PQ (g s) → ∀ v H1, Sm C H H1 → BV K C H1 O v s → Fresh H v s → Q' v H1) : tD K C W f σ H Q' := by
  refine ⟨δ, O, rep, ?_⟩
  cases e : f δ with
  | ok s => rw [e] at h; exact ho s e h
  | exc k p => rw [e] at h; exact hx k p h
  | bad => rw [e] at h; exact (hb h).elim
theorem post_mono {H1 : Hp} {Q : VK} (e : Sm C H H1) : ∀ {r : R S}, Post K C W σ H O Q r → Post K C W σ H1 O Q r
  | .ok s, h => fun v H' a b c => h v H' (e.trans a) b (c.back e)
  | .exc k p, h => fun v d H' a => h v d H' (e.trans a)
  | .bad, h => h
theorem postA_mono {H1 : Hp} {Q : List V → Hp → Prop} (e : Sm C H H1) : ∀ {r : R (List S)}, PostA K C W σ H O Q r → PostA K C W σ H1 O Q r
  | .ok s, h => fun v H' a => h v H' (e.trans a)
  | .exc k p, h => fun v d H' a => h v d H' (e.trans a)
  | .bad, h => h
theorem postT_mono {H1 : Hp} {Q : Bool → Hp → Prop} (e : Sm C H H1) : ∀ {r : R Bool}, PostT K C W σ H O Q r → PostT K C W σ H1 O Q r
  | .ok s, h => fun H' a => h H' (e.trans a)
  | .exc k p, h => fun v d H' a => h v d H' (e.trans a)
  | .bad, h => h
end

/-! ### operations by values -/
def rD2 (K : PySem.W.Frag) (C : Cfg) (g : S → S → R S) : R2 := fun x y H Q => ∃ O sx sy s, Dom H O ∧ LamX.Tabs C.T H ∧ BV K C H O x sx ∧ BV K C H O y sy ∧ g sx sy = .ok s ∧ ∀ v H', Sm C H H' → BV K C H' O v s → Fresh H v s → Q v H'
def rD1 (K : PySem.W.Frag) (C : Cfg) (g : S → R S) : V → Hp → VK → Prop := fun x H Q => ∃ O sx s, Dom H O ∧ LamX.Tabs C.T H ∧ BV K C H O x sx ∧ g sx = .ok s ∧ ∀ v H', Sm C H H' → BV K C H' O v s → Fresh H v s → Q v H'
def rDC (K : PySem.W.Frag) (C : Cfg) (g : List S → R S) : List V → Hp → VK → Prop := fun xs H Q => ∃ O ss s, Dom H O ∧ LamX.Tabs C.T H ∧ BVs K C H O xs ss ∧ g ss = .ok s ∧ ∀ v H', Sm C H H' → BV K C H' O v s → Fresh H v s → Q v H'
/-- never an own exception -/
def NoExc1 (g : S → R S) : Prop := ∀ a k p, g a ≠ .exc k p
def NoExc2 (g : S → S → R S) : Prop := ∀ a b k p, g a b ≠ .exc k p
def NoExcL (g : List S → R S) : Prop := ∀ a k p, g a ≠ .exc k p
/-- a rule for an operation, and that its answer is never an own exception -/
structure D2 (X : Cx) (C : Cfg) (f : Value → Value → Sem Value) (g : S → S → R S) : Prop where
  op : OpR X f (rD2 X.K C g)
  nx : NoExc2 g
structure D1 (X : Cx) (C : Cfg) (f : Value → Sem Value) (g : S → R S) : Prop where
  op : UnR X f (rD1 X.K C g)
  nx : NoExc1 g
structure DCall (X : Cx) (C : Cfg) (f : Value) (g : List S → R S) : Prop where
  op : CallR X f (rDC X.K C g)
  nx : NoExcL g
theorem OpR.imp {X : Cx} {f : Value → Value → Sem Value} {r r' : R2} (h : OpR X f r) (k : ∀ x y H Q, r' x y H Q → r x y H Q) : OpR X f r' := fun pins s σ H x y v u Q I a b w => h pins s σ H x y v u Q I a b (k x y H Q w)
theorem UnR.imp {X : Cx} {f : Value → Sem Value} {r r' : V → Hp → VK → Prop} (h : UnR X f r) (k : ∀ x H Q, r' x H Q → r x H Q) : UnR X f r' := fun pins s σ H x v Q I a w => h pins s σ H x v Q I a (k x H Q w)
theorem CallR.imp {X : Cx} {f : Value} {r r' : List V → Hp → VK → Prop} (h : CallR X f r) (k : ∀ x H Q, r' x H Q → r x H Q) : CallR X f r' := fun pins s σ H x v Q I a w => h pins s σ H x v Q I a (k x H Q w)

section
variable {X : Cx} {C : Cfg} {W : WX} {a b c : Expr} {f g : Env → R S} {pos : Pos}
abbrev DE (X : Cx) (C : Cfg) (W : WX) (e : Expr) (f : Env → R S) : Prop := PE X e (tD X.K C W f)
abbrev DT (X : Cx) (C : Cfg) (W : WX) (e : Expr) (f : Env → R Bool) : Prop := PT X e (tDT X.K C W f)
abbrev DW (X : Cx) (C : Cfg) (W : WX) (e : Expr) (f : Env → R Bool) : Prop := PW X e (tDT X.K C W f)
abbrev DA (X : Cx) (C : Cfg) (W : WX) (es : List Expr) (f : Env → R (List S)) : Prop := PA X es (tDA X.K C W f)

/-! constants, names -/
def kC (s : PyData) : Env → R S := fun _ => .ok (.d s)
theorem de_int {i j p} : DE X C W (.Constant (.int i) j p) (kC (.int i)) := PE.imp pe_int fun σ H Q ⟨δ, O, r, h⟩ => h _ H (Sm.refl H) (.d (.int i)) trivial
theorem de_bl {i j p} : DE X C W (.Constant (.bool i) j p) (kC (.bool i)) := PE.imp pe_bl fun σ H Q ⟨δ, O, r, h⟩ => h _ H (Sm.refl H) (.d (.bl i)) trivial
theorem de_non {j p} : DE X C W (.Constant .none j p) (kC .none) := PE.imp pe_non fun σ H Q ⟨δ, O, r, h⟩ => h _ H (Sm.refl H) (.d .non) trivial
theorem de_str {i j p} : DE X C W (.Constant (.str i) j p) (kC (.str i)) := PE.imp pe_str fun σ H Q ⟨δ, O, r, h⟩ => h _ H (Sm.refl H) (.d (.str i)) trivial
/-- a slot -/
def kV (i : Nat) : Env → R S := fun δ => match δ[i]? with
  | some (some (.l .fr _)) => .bad
  | some (some (.k .fr _)) => .bad
  | some (some s) => .ok s
  | _ => .bad
theorem kV_ok {i : Nat} {δ : Env} {s : S} (e : kV i δ = .ok s) : δ[i]? = some (some s) ∧ ∀ H v, Fresh H v s := by
  unfold kV at e
  split at e
  · cases e
  · cases e
  · rename_i s' n1 n2 h
    cases e
    refine ⟨h, fun H v => ?_⟩
    cases s with
    | l m ds => cases m with
      | fr => exact (n1 _ rfl).elim
      | ow => trivial
    | k m ds => cases m with
      | fr => exact (n2 _ rfl).elim
      | ow => trivial
    | d x => trivial
    | obj c fs => trivial
  · cases e
theorem kV_cases (i : Nat) (δ : Env) : (∃ s, kV i δ = .ok s) ∨ kV i δ = .bad := by
  unfold kV
  split
  · exact .inr rfl
  · exact .inr rfl
  · exact .inl ⟨_, rfl⟩
  · exact .inr rfl
theorem de_var (i : Nat) {x : Str} {p : Pos} (hN : X.N[i]? = some x := by rfl) (hv : Vis X.env.scope x := by first | exact Or.inl rfl | exact Or.inr (Or.inl rfl) | exact Or.inr (Or.inr rfl)) (hd : (x == ("__debug__" : Str)) = false := by decide)
    (hcd : (x == ("__classdict__" : Str)) = false := by decide) : DE X C W (.Name x p) (kV i) := by
  refine PE.imp (pe_var hN hv hd hcd) fun σ H Q ⟨δ, O, r, h⟩ => ?_
  rcases kV_cases i δ with ⟨s, e⟩ | e
  · rw [e] at h
    obtain ⟨e1, fr⟩ := kV_ok e
    obtain ⟨_, v, e2, bv⟩ := r.slot i s e1
    exact ⟨v, e2, h v H (Sm.refl H) bv (fr H v)⟩
  · rw [e] at h; exact h.elim

/-! operations -/
def kB (g : S → S → R S) (f1 f2 : Env → R S) : Env → R S := fun δ => do let x ← f1 δ; let y ← f2 δ; g x y
def kU (g : S → R S) (f1 : Env → R S) : Env → R S := fun δ => do let x ← f1 δ; g x
theorem op_core {r : S → S → R S} {ta tb : Env → R S} {σ : St} {H : Hp} {Q : VK} (nx : NoExc2 r) (w : tD X.K C W (kB r ta tb) σ H Q) : tOp (rD2 X.K C r) (tD X.K C W ta) (tD X.K C W tb) σ H Q := by
  obtain ⟨δ, O, rep, h⟩ := w
  refine seq1 (PQ := Post X.K C W σ H O Q) rep h (fun k p q => q) (fun q => q) fun s e q v H1 s1 bv fr => ?_
  refine seq1 (PQ := Post X.K C W σ H1 O Q) (rep.same s1) (g := fun y => r s y) (post_mono s1 q) (fun k p q => q) (fun q => q) fun s' e' q' v' H2 s2 bv' fr' => ?_
  cases er : r s s' with
  | ok z => rw [er] at q'; exact ⟨O, s, s', z, ((rep.same s1).same s2).dom, ((rep.same s1).same s2).tabs, bv_same s2 bv, bv', er, post_mono s2 (r := .ok z) q'⟩
  | exc k p => exact (nx _ _ _ _ er).elim
  | bad => rw [er] at q'; exact q'.elim
theorem de_bin {op : Operator} {r : S → S → R S} (ho : D2 X C (binaryOp op) r) (ha : DE X C W a f) (hb : DE X C W b g) : DE X C W (.BinOp a op b pos) (kB r f g) :=
  PE.imp (pe_op ho.op ha hb) fun σ H Q w => op_core ho.nx w
theorem de_cmp {op : CmpOp} {r : S → S → R S} (ho : D2 X C (compareOp op) r) (ha : DE X C W a f) (hb : DE X C W b g) (hm : behindInMarks op b = false) : DE X C W (.Compare a [op] [b] pos) (kB r f g) :=
  PE.imp (pe_cmpR ho.op ha hb hm) fun σ H Q w => op_core ho.nx w
theorem un_core {r : S → R S} {ta : Env → R S} {σ : St} {H : Hp} {Q : VK} (nx : NoExc1 r) (w : tD X.K C W (kU r ta) σ H Q) : tUn (rD1 X.K C r) (tD X.K C W ta) σ H Q := by
  obtain ⟨δ, O, rep, h⟩ := w
  refine seq1 (PQ := Post X.K C W σ H O Q) rep h (fun k p q => q) (fun q => q) fun s e q v H1 s1 bv fr => ?_
  cases er : r s with
  | ok z => rw [er] at q; exact ⟨O, s, z, (rep.same s1).dom, (rep.same s1).tabs, bv, er, post_mono s1 (r := .ok z) q⟩
  | exc k p => exact (nx _ _ _ er).elim
  | bad => rw [er] at q; exact q.elim
theorem de_un {op : UnaryOp} {r : S → R S} (ho : D1 X C (unaryOp op) r) (ha : DE X C W a f) : DE X C W (.UnaryOp op a pos) (kU r f) :=
  PE.imp (pe_un ho.op ha) fun σ H Q w => un_core ho.nx w
end
end DL

set_option Elab.async false
set_option linter.all false
set_option maxRecDepth 100000
set_option maxHeartbeats 1000000
/-! DL2: the operations of expressions, by values. -/
namespace DL
open PySem PySem.Spec L2

def S.i : S → R Int
  | .d (.int i) => .ok i
  | _ => .bad
def S.b : S → R Bool
  | .d (.bool b) => .ok b
  | _ => .bad
def S.z : S → R Str
  | .d (.str b) => .ok b
  | _ => .bad
@[simp] theorem S.i_int (i : Int) : S.i (.d (.int i)) = .ok i := (rfl)
@[simp] theorem S.b_bool (i : Bool) : S.b (.d (.bool i)) = .ok i := (rfl)
@[simp] theorem S.z_str (i : Str) : S.z (.d (.str i)) = .ok i := (rfl)
@[simp] theorem S.pd_d (x : PyData) : S.pd (.d x) = .ok x := (rfl)
@[simp] theorem S.pd_fr (x : List PyData) : S.pd (.l .fr x) = .ok (.list x) := (rfl)
@[simp] theorem S.lst_l (m : Md) (x : List PyData) : S.lst (.l m x) = .ok x := (rfl)
@[simp] theorem S.lst_d (x : List PyData) : S.lst (.d (.list x)) = .ok x := (rfl)
@[simp] theorem S.its_l (m : Md) (x : List PyData) : S.its (.l m x) = .ok x := by cases m <;> rfl
@[simp] theorem S.its_d (x : List PyData) : S.its (.d (.list x)) = .ok x := (rfl)
@[simp] theorem S.its_t (x : List PyData) : S.its (.d (.tuple x)) = .ok x := (rfl)
section
variable {K : PySem.W.Frag} {C : Cfg} {H H' : Hp} {O : List Addr} {v : V} {s : S}
theorem S.i_eq {i : Int} (e : s.i = .ok i) : s = .d (.int i) := by
  unfold S.i at e; split at e <;> cases e; rfl
theorem S.b_eq {i : Bool} (e : s.b = .ok i) : s = .d (.bool i) := by
  unfold S.b at e; split at e <;> cases e; rfl
theorem S.z_eq {i : Str} (e : s.z = .ok i) : s = .d (.str i) := by
  unfold S.z at e; split at e <;> cases e; rfl
theorem bv_int {i : Int} (h : BV K C H O v (.d (.int i))) : v = .int i := by cases h with | d h => cases h; rfl
theorem bv_bl {i : Bool} (h : BV K C H O v (.d (.bool i))) : v = .bl i := by cases h with | d h => cases h; rfl
theorem bv_str {i : Str} (h : BV K C H O v (.d (.str i))) : v = .str i := by cases h with | d h => cases h; rfl
theorem bv_non (h : BV K C H O v (.d .none)) : v = .non := by cases h with | d h => cases h; rfl
theorem bv_tup {ds : List PyData} (h : BV K C H O v (.d (.tuple ds))) : ∃ a xs, v = .ref a ∧ SqT K H a xs ∧ SqT K (Hm H O) a xs ∧ DpAll K (Hm H O) xs ds := by
  cases h with
  | d h => cases h with | tup h r => exact ⟨_, _, rfl, sqT_same hm_le h, h, r⟩
end
theorem bind_ok {α β : Type} {r : R α} {f : α → R β} {b : β} (h : (r >>= f) = .ok b) : ∃ a, r = .ok a ∧ f a = .ok b := by
  cases r with
  | ok a => exact ⟨a, rfl, h⟩
  | exc k p => cases h
  | bad => cases h
theorem bind_ne {α β : Type} {r : R α} {f : α → R β} (h1 : ∀ k p, r ≠ .exc k p) (h2 : ∀ a k p, f a ≠ .exc k p) : ∀ k p, (r >>= f) ≠ .exc k p := by
  intro k p
  cases r with
  | ok a => exact h2 a k p
  | exc k' p' => exact (h1 k' p' rfl).elim
  | bad => intro h; cases h
theorem i_ne (s : S) : ∀ k p, s.i ≠ .exc k p := by intro k p; unfold S.i; split <;> (intro h; cases h)
theorem b_ne (s : S) : ∀ k p, s.b ≠ .exc k p := by intro k p; unfold S.b; split <;> (intro h; cases h)
theorem z_ne (s : S) : ∀ k p, s.z ≠ .exc k p := by intro k p; unfold S.z; split <;> (intro h; cases h)
theorem pd_ne (s : S) : ∀ k p, s.pd ≠ .exc k p := by intro k p; unfold S.pd; split <;> (intro h; cases h)
theorem lst_ne (s : S) : ∀ k p, s.lst ≠ .exc k p := by intro k p; unfold S.lst; split <;> (intro h; cases h)
theorem its_ne (s : S) : ∀ k p, s.its ≠ .exc k p := by intro k p; unfold S.its; split <;> (intro h; cases h)
/-- a check -/
def chk {α : Type} (c : Bool) (r : R α) : R α := match c with
  | true => r
  | false => .bad
@[simp] theorem chk_true {α : Type} (r : R α) : chk true r = r := (rfl)
@[simp] theorem chk_false {α : Type} (r : R α) : chk false r = .bad := (rfl)
theorem chk_ok {α : Type} {c : Bool} {r : R α} {a : α} (h : chk c r = .ok a) : c = true ∧ r = .ok a := by
  cases c with
  | true => exact ⟨rfl, h⟩
  | false => cases h
theorem chk_ne {α : Type} {c : Bool} {r : R α} (h : ∀ k p, r ≠ .exc k p) : ∀ k p, chk c r ≠ .exc k p := by
  intro k p; cases c with
  | true => exact h k p
  | false => intro h; cases h
theorem ok_ne {α : Type} (a : α) : ∀ k p, (R.ok a) ≠ .exc k p := by intro k p h; cases h
theorem bad_ne {α : Type} : ∀ k p, (R.bad : R α) ≠ .exc k p := by intro k p h; cases h

/-- two ints -/
def iiS (c : Int → Int → Bool) (g : Int → Int → PyData) (x y : S) : R S := do let i ← x.i; let j ← y.i; chk (c i j) (.ok (.d (g i j)))
theorem ii_ne (c g) : NoExc2 (iiS c g) := fun x y => bind_ne (i_ne x) fun i => bind_ne (i_ne y) fun j => chk_ne (ok_ne _)
theorem ii_inv {c g x y s} (h : iiS c g x y = .ok s) : ∃ i j, x = .d (.int i) ∧ y = .d (.int j) ∧ c i j = true ∧ s = .d (g i j) := by
  obtain ⟨i, h1, h⟩ := bind_ok h
  obtain ⟨j, h2, h⟩ := bind_ok h
  obtain ⟨h3, h⟩ := chk_ok h
  cases h
  exact ⟨i, j, S.i_eq h1, S.i_eq h2, h3, rfl⟩
def cT : Int → Int → Bool := fun _ _ => true
section
variable {X : Cx} {C : Cfg}
theorem d2_rI {f : Value → Value → Sem Value} {P : Int → Int → Prop} {c : Int → Int → Bool} {g : Int → Int → V} {g' : Int → Int → PyData} (ho : OpR X f (rI P g)) (hc : ∀ i j, c i j = true → P i j) (hg : ∀ i j K H, Dp K H (g i j) (g' i j)) : D2 X C f (iiS c g') := by
  refine ⟨OpR.imp ho fun x y H Q h => ?_, ii_ne _ _⟩
  obtain ⟨O, sx, sy, s, hd, _, b1, b2, e, k⟩ := h
  obtain ⟨i, j, rfl, rfl, h3, rfl⟩ := ii_inv e
  exact ⟨i, j, bv_int b1, bv_int b2, hc _ _ h3, k _ H (Sm.refl H) (.d (hg _ _ _ _)) trivial⟩
theorem d2_rI0 {f : Value → Value → Sem Value} {g : Int → Int → V} {g' : Int → Int → PyData} (ho : OpR X f (rI0 g)) (hg : ∀ i j K H, Dp K H (g i j) (g' i j)) : D2 X C f (iiS cT g') :=
  d2_rI (P := fun _ _ => True) (OpR.imp ho fun x y H Q ⟨i, j, a, b, _, c⟩ => ⟨i, j, a, b, c⟩) (fun _ _ _ => trivial) hg
def cMulB (i j : Int) : Bool := (decide (-(2 ^ 64) < i) && decide (i < 2 ^ 64)) || (decide (-(2 ^ 64) < j) && decide (j < 2 ^ 64))
def cDivB (i j : Int) : Bool := decide (j ≠ 0) && decide (j.natAbs < 1073741824)
def cPowB (i j : Int) : Bool := decide (0 ≤ j) && decide (j ≤ 1000000) && decide (i.natAbs < 2 ^ 64)
def subS := iiS cT fun i j => .int (i - j)
def fdivS := iiS cDivB fun i j => .int (i.fdiv j)
def modS := iiS (fun _ j => decide (j ≠ 0)) fun i j => .int (i.fmod j)
def powS := iiS cPowB fun i j => .int (i ^ j.toNat)
def shlS := iiS cPowB fun i j => .int (i * 2 ^ j.toNat)
def shrS := iiS (fun _ j => decide (0 ≤ j)) fun i j => .int (i / 2 ^ j.toNat)
def andS := iiS cT fun i j => .int (Builtin.bitAnd i j)
def orS := iiS cT fun i j => .int (Builtin.bitOr i j)
def ltS := iiS cT fun i j => .bool (decide (i < j))
def leS := iiS cT fun i j => .bool (decide (i ≤ j))
def gtS := iiS cT fun i j => .bool (decide (j < i))
def geS := iiS cT fun i j => .bool (decide (j ≤ i))
theorem d_sub : D2 X C (binaryOp .Sub) subS := d2_rI0 op_sub fun _ _ _ _ => .int _
theorem d_fdiv : D2 X C (binaryOp .FloorDiv) fdivS := d2_rI op_fdivN (fun i j h => by simp [cDivB] at h; exact h) fun _ _ _ _ => .int _
theorem d_mod : D2 X C (binaryOp .Mod) modS := d2_rI op_modN (fun i j h => by simpa using h) fun _ _ _ _ => .int _
theorem d_pow : D2 X C (binaryOp .Pow) powS := d2_rI op_pow (fun i j h => by simp only [cPowB, Bool.and_eq_true, decide_eq_true_eq] at h; exact ⟨h.1.1, h.1.2, h.2⟩) fun _ _ _ _ => .int _
theorem d_shl : D2 X C (binaryOp .LShift) shlS := d2_rI op_shl (fun i j h => by simp only [cPowB, Bool.and_eq_true, decide_eq_true_eq] at h; exact ⟨h.1.1, h.1.2, h.2⟩) fun _ _ _ _ => .int _
theorem d_shr : D2 X C (binaryOp .RShift) shrS := d2_rI op_shr (fun i j h => by simpa using h) fun _ _ _ _ => .int _
theorem d_and : D2 X C (binaryOp .BitAnd) andS := d2_rI0 op_and fun _ _ _ _ => .int _
theorem d_or : D2 X C (binaryOp .BitOr) orS := d2_rI0 op_or fun _ _ _ _ => .int _
theorem d_iand : D2 X C (inplaceOp .BitAnd) andS := d2_rI0 iop_and fun _ _ _ _ => .int _
theorem d_ior : D2 X C (inplaceOp .BitOr) orS := d2_rI0 iop_or fun _ _ _ _ => .int _
theorem d_isub : D2 X C (inplaceOp .Sub) subS := d2_rI0 iop_sub fun _ _ _ _ => .int _
theorem d_iadd : D2 X C (inplaceOp .Add) (iiS cT fun i j => .int (i + j)) := d2_rI0 iop_add fun _ _ _ _ => .int _
theorem d_lt : D2 X C (compareOp .Lt) ltS := d2_rI0 op_lt fun _ _ _ _ => .bl _
theorem d_le : D2 X C (compareOp .LtE) leS := d2_rI0 op_le fun _ _ _ _ => .bl _
theorem d_gt : D2 X C (compareOp .Gt) gtS := d2_rI0 op_gt fun _ _ _ _ => .bl _
theorem d_ge : D2 X C (compareOp .GtE) geS := d2_rI0 op_ge fun _ _ _ _ => .bl _

/-! new lists and tuples -/
theorem dpa_new {K : PySem.W.Frag} {C : Cfg} {H H' : Hp} {O : List Addr} {p : Addr} {xs : List V} {ds : List PyData} {o : HO} (hp : H p = none) (r : DpAll K (Hm H O) xs ds) (s : Sm C (upd H p o) H') : DpAll K (Hm H' (p :: O)) xs ds :=
  dpa_same (fun a u e => hm_same s _ _ (hm_new (O := O) (o := o) hp a u e)) r
theorem same_new {C : Cfg} {H : Hp} {p : Addr} {o : HO} (hp : H p = none) : Sm C H (upd H p o) := .of fun a u e => by rw [upd_ne (ne_of_none e hp)]; exact e
theorem not_mem_dom {H : Hp} {O : List Addr} {p : Addr} (hd : ∀ a ∈ O, ∃ o, H a = some o ∧ Mut (some o)) (hp : H p = none) : p ∉ O := fun m => by
  obtain ⟨o, e, _⟩ := hd p m; rw [hp] at e; cases e
/-- a list just laid -/
theorem bv_newL {K : PySem.W.Frag} {H : Hp} {O : List Addr} {p : Addr} {xs : List V} {ds : List PyData} (hd : ∀ a ∈ O, ∃ o, H a = some o ∧ Mut (some o)) (hp : H p = none) (r : DpAll K (Hm H O) xs ds) : BV K C (upd H p (.lst xs)) O (.ref p) (.l .fr ds) :=
  .fl (not_mem_dom hd hp) upd_same (dpa_new (C := C) hp r (Sm.refl _))
theorem bv_newT {K : PySem.W.Frag} {H : Hp} {O : List Addr} {p : Addr} {xs : List V} {ds : List PyData} (hd : ∀ a ∈ O, ∃ o, H a = some o ∧ Mut (some o)) (hp : H p = none) (r : DpAll K (Hm H O) xs ds) : BV K C (upd H p (.tup xs)) O (.ref p) (.d (.tuple ds)) :=
  .d (.tup (.inl (.inl (hm_mk (not_mem_dom hd hp) upd_same))) (dpa_same (hm_same (C := C) (same_new hp)) r))
theorem bv_same_new {K : PySem.W.Frag} {H : Hp} {O : List Addr} {p : Addr} {o : HO} {v : V} {s : S} (hp : H p = none) (h : BV K C H O v s) : BV K C (upd H p o) O v s := bv_same (same_new hp) h
theorem small_line {n : Nat} (h : n ≤ 1000000) : n ≤ sizeLine := by
  have : (1000000 : Nat) ≤ sizeLine := by decide
  omega
theorem small_lineS {n : Nat} (h : n ≤ 1000000) : n < sizeLine := by
  have : (1000000 : Nat) < sizeLine := by decide
  omega

/-! + -/
def addS (x y : S) : R S := match x, y with
  | .d (.int i), .d (.int j) => .ok (.d (.int (i + j)))
  | .d (.str i), .d (.str j) => chk (decide (i.length + j.length ≤ 1000000)) (.ok (.d (.str (i ++ j))))
  | .d (.tuple a), .d (.tuple b) => chk (decide (a.length + b.length ≤ 1000000)) (.ok (.d (.tuple (a ++ b))))
  | x, y => do let a ← x.lst; let b ← y.lst; chk (decide (a.length + b.length ≤ 1000000)) (.ok (.l .fr (a ++ b)))
def rCatL (K : PySem.W.Frag) : R2 := fun x y H Q => ∃ l b xs zs, x = .ref l ∧ y = .ref b ∧ SqL K H l xs ∧ SqL K H b zs ∧ xs.length + zs.length ≤ sizeLine ∧ ∀ p, H p = none → Q (.ref p) (upd H p (.lst (xs ++ zs)))
theorem op_catL : OpR X (binaryOp .Add) (rCatL X.K) := by
  intro pins s σ H x y v u Q I rx ry h
  obtain ⟨l, b, xs, zs, rfl, rfl, hH, hB, hz, q⟩ := h
  cases rx
  cases ry
  obtain ⟨its, r, ⟨⟨c1, d1, da1, s1⟩, n, e, ec, ed, eda⟩, hl⟩ := I.list hH
  obtain ⟨its2, r2, ⟨⟨c2, d2, da2, s2⟩, n2, e2, ec2, ed2, eda2⟩, hl2⟩ := I.list hB
  simp only at ec ed eda ec2 ed2 eda2
  subst ec ed eda ec2 ed2 eda2
  have ll := r.length
  have ll2 := r2.length
  refine concat_meets ⟨_, e, rfl⟩ ⟨_, e2, rfl⟩ noFill_list_add seq_list_add PySem.F.slot_list_add PySem.F.entry_list_add (PySem.F.args_list_add_2 _ _) (PyProof.Rows.list_addW l b its.toArray its2.toArray n n2 none none s1 s2 (by simp; omega)) ⟨e, e2, ?_⟩
  have ea : its.toArray ++ its2.toArray = (its ++ its2).toArray := by simp
  rw [ea]
  exact ⟨.ref _, _, I.lnew (t' := s.toks) (r.append r2) (by rw [List.length_append]; omega), rfl, q _ I.fresh⟩
theorem add_ne : NoExc2 addS := by
  intro x y
  unfold addS
  split
  · exact ok_ne _
  · exact chk_ne (ok_ne _)
  · exact chk_ne (ok_ne _)
  · exact bind_ne (lst_ne _) fun a => bind_ne (lst_ne _) fun b => chk_ne (ok_ne _)
theorem d_add : D2 X C (binaryOp .Add) addS := by
  refine ⟨OpR.imp ((op_add.or op_add_str).or (op_catA.or op_catL)) fun x y H Q h => ?_, add_ne⟩
  obtain ⟨O, sx, sy, s, hd, _, b1, b2, e, k⟩ := h
  unfold addS at e
  split at e
  · cases e
    exact .inl (.inl ⟨_, _, bv_int b1, bv_int b2, k _ H (Sm.refl H) (.d (.int _)) trivial⟩)
  · obtain ⟨c, e⟩ := chk_ok e
    cases e
    exact .inl (.inr ⟨_, _, bv_str b1, bv_str b2, small_line (by simpa using c), k _ H (Sm.refl H) (.d (.str _)) trivial⟩)
  · obtain ⟨c, e⟩ := chk_ok e
    cases e
    obtain ⟨a, xs, rfl, h1, h1', r1⟩ := bv_tup b1
    obtain ⟨b, ys, rfl, h2, h2', r2⟩ := bv_tup b2
    have l1 := dpa_length r1
    have l2 := dpa_length r2
    have c' := of_decide_eq_true c
    refine .inr (.inl ⟨a, b, xs, ys, rfl, rfl, h1, h2, small_line (by omega), fun e => ?_, fun e e' => ?_, fun e e' p hp => ?_⟩)
    · subst e
      cases r1
      exact k _ H (Sm.refl H) (by simpa using b2) trivial
    · subst e'
      cases r2
      exact k _ H (Sm.refl H) (by simpa using b1) trivial
    · exact k _ _ (same_new hp) (bv_newT hd hp (dpa_app r1 r2)) trivial
  · obtain ⟨a, h1, e⟩ := bind_ok e
    obtain ⟨b, h2, e⟩ := bind_ok e
    obtain ⟨c, e⟩ := chk_ok e
    cases e
    obtain ⟨l1, xs, rfl, q1, r1⟩ := bv_lst b1 h1
    obtain ⟨l2, ys, rfl, q2, r2⟩ := bv_lst b2 h2
    have e1 := dpa_length r1
    have e2 := dpa_length r2
    have c' := of_decide_eq_true c
    exact .inr (.inr ⟨l1, l2, xs, ys, rfl, rfl, q1, q2, small_line (by omega), fun p hp => k _ _ (same_new hp) (bv_newL hd hp (dpa_app r1 r2)) ⟨p, rfl, .of hp⟩⟩)

/-! * -/
def mulS (x y : S) : R S := match x, y with
  | .d (.int i), .d (.int j) => chk (cMulB i j) (.ok (.d (.int (i * j))))
  | .d (.tuple a), .d (.int k) => chk (decide (a ≠ []) && decide (2 ≤ k) && decide (k ≤ 1000) && decide (a.length ≤ 1000)) (.ok (.d (.tuple (List.replicate k.toNat a).flatten)))
  | .l _ a, .d (.int k) => chk (decide (-1000 ≤ k) && decide (k ≤ 1000) && decide (a.length * k.toNat ≤ 1000000)) (.ok (.l .fr (List.replicate k.toNat a).flatten))
  | _, _ => .bad
theorem mul_ne : NoExc2 mulS := by
  intro x y
  unfold mulS
  split
  · exact chk_ne (ok_ne _)
  · exact chk_ne (ok_ne _)
  · exact chk_ne (ok_ne _)
  · exact bad_ne
theorem bv_own {K : PySem.W.Frag} {H : Hp} {O : List Addr} {v : V} {m : Md} {ds : List PyData} (h : BV K C H O v (.l m ds)) : ∃ a xs, v = .ref a ∧ H a = some (.lst xs) ∧ DpAll K (Hm H O) xs ds := by
  cases h with
  | fl h1 h2 h3 => exact ⟨_, _, rfl, h2, dpa_same hm_cons h3⟩
  | ol h1 h2 h3 => exact ⟨_, _, rfl, h2, h3⟩
theorem d_mul : D2 X C (binaryOp .Mult) mulS := by
  refine ⟨OpR.imp ((op_mul.or op_repT).or op_rep) fun x y H Q h => ?_, mul_ne⟩
  obtain ⟨O, sx, sy, s, hd, _, b1, b2, e, k⟩ := h
  unfold mulS at e
  split at e
  · obtain ⟨c, e⟩ := chk_ok e
    cases e
    refine .inl (.inl ⟨_, _, bv_int b1, bv_int b2, ?_, k _ H (Sm.refl H) (.d (.int _)) trivial⟩)
    simp only [cMulB, Bool.or_eq_true, Bool.and_eq_true, decide_eq_true_eq] at c
    exact c
  · obtain ⟨c, e⟩ := chk_ok e
    cases e
    obtain ⟨a, xs, rfl, h1, h1', r1⟩ := bv_tup b1
    have l1 := dpa_length r1
    simp only [Bool.and_eq_true, decide_eq_true_eq] at c
    obtain ⟨⟨⟨c1, c2⟩, c3⟩, c4⟩ := c
    refine .inl (.inr ⟨a, _, xs, rfl, bv_int b2, h1, fun z => c1 ?_, c2, c3, by omega, fun p hp => k _ _ (same_new hp) (bv_newT hd hp (dpa_rep r1 _)) trivial⟩)
    subst z; cases r1; rfl
  · obtain ⟨c, e⟩ := chk_ok e
    cases e
    obtain ⟨a, xs, rfl, h1, r1⟩ := bv_own b1
    have l1 := dpa_length r1
    simp only [Bool.and_eq_true, decide_eq_true_eq] at c
    obtain ⟨⟨c2, c3⟩, c4⟩ := c
    exact .inr ⟨a, _, xs, rfl, bv_int b2, h1, by omega, by omega, small_line (by rw [l1]; exact c4), fun p hp => k _ _ (same_new hp) (bv_newL hd hp (dpa_rep r1 _)) ⟨p, rfl, .of hp⟩⟩
  · cases e

/-! ==, != -/
def sh2 (x y : PyData) : Bool := SeqAt.shaped x && SeqAt.shaped y
/-- data, a list of one's own too -/
def S.rd : S → R PyData
  | .d x => .ok x
  | .l _ ds => .ok (.list ds)
  | _ => .bad
@[simp] theorem S.rd_d (x : PyData) : S.rd (.d x) = .ok x := (rfl)
@[simp] theorem S.rd_l (m : Md) (x : List PyData) : S.rd (.l m x) = .ok (.list x) := (rfl)
theorem rd_ne (s : S) : ∀ k p, s.rd ≠ .exc k p := by intro k p; unfold S.rd; split <;> (intro h; cases h)
theorem bv_rd {K : PySem.W.Frag} {H : Hp} {O : List Addr} {v : V} {s : S} {x : PyData} (h : BV K C H O v s) (e : s.rd = .ok x) : Dp K H v x := by
  cases h with
  | d h => cases e; exact dp_same hm_le h
  | fl h1 h2 h3 => cases e; exact .lst (SqL.of h2) (dpa_same hm_le h3)
  | ol h1 h2 h3 => cases e; exact .lst (SqL.of h2) (dpa_same hm_le h3)
  | fk => cases e
  | ok => cases e
  | obj => cases e
def eqS (x y : S) : R S := do let a ← x.rd; let b ← y.rd; chk (sh2 a b) (.ok (.d (.bool (PyData.eqv a b))))
def neS (x y : S) : R S := do let a ← x.rd; let b ← y.rd; chk (sh2 a b) (.ok (.d (.bool (!PyData.eqv a b))))
theorem d_eq (hu : X.A.units + 64 < cLine) : D2 X C (compareOp .Eq) eqS := by
  refine ⟨OpR.imp (op_eqD hu) fun x y H Q h => ?_, fun x y => bind_ne (rd_ne _) fun a => bind_ne (rd_ne _) fun b => chk_ne (ok_ne _)⟩
  obtain ⟨O, sx, sy, s, hd, _, b1, b2, e, k⟩ := h
  obtain ⟨a, h1, e⟩ := bind_ok e
  obtain ⟨b, h2, e⟩ := bind_ok e
  obtain ⟨c, e⟩ := chk_ok e
  cases e
  simp only [sh2, Bool.and_eq_true] at c
  exact ⟨a, b, bv_rd b1 h1, bv_rd b2 h2, c.1, c.2, k _ H (Sm.refl H) (.d (.bl _)) trivial⟩
theorem d_neq (hu : X.A.units + 64 < cLine) : D2 X C (compareOp .NotEq) neS := by
  refine ⟨OpR.imp (op_neD hu) fun x y H Q h => ?_, fun x y => bind_ne (rd_ne _) fun a => bind_ne (rd_ne _) fun b => chk_ne (ok_ne _)⟩
  obtain ⟨O, sx, sy, s, hd, _, b1, b2, e, k⟩ := h
  obtain ⟨a, h1, e⟩ := bind_ok e
  obtain ⟨b, h2, e⟩ := bind_ok e
  obtain ⟨c, e⟩ := chk_ok e
  cases e
  simp only [sh2, Bool.and_eq_true] at c
  exact ⟨a, b, bv_rd b1 h1, bv_rd b2 h2, c.1, c.2, k _ H (Sm.refl H) (.d (.bl _)) trivial⟩

/-! is None, is True, is False -/
def isS (neg : Bool) (x y : S) : R S := match x, y with
  | x, .d .none => match x with
    | .d .none => .ok (.d (.bool (!neg)))
    | _ => .ok (.d (.bool neg))
  | .d (.bool a), .d (.bool b) => .ok (.d (.bool (if neg then !decide (a = b) else decide (a = b))))
  | _, _ => .bad
theorem is_ne (n : Bool) : NoExc2 (isS n) := by
  intro x y
  unfold isS
  split
  · split <;> exact ok_ne _
  · exact ok_ne _
  · exact bad_ne
theorem bv_notnone {K : PySem.W.Frag} {H : Hp} {O : List Addr} {v : V} {s : S} (h : BV K C H O v s) (n : s ≠ .d .none) : decide (v = .non) = false := by
  cases h with
  | d h => cases h <;> first | exact (n rfl).elim | rfl
  | _ => rfl
theorem d_is : D2 X C (compareOp .Is) (isS false) := by
  refine ⟨OpR.imp (op_isN.or op_isBl) fun x y H Q h => ?_, is_ne _⟩
  obtain ⟨O, sx, sy, s, hd, _, b1, b2, e, k⟩ := h
  unfold isS at e
  split at e
  · refine .inl ⟨bv_non b2, ?_⟩
    split at e
    · cases e
      rw [bv_non b1]
      exact k _ H (Sm.refl H) (.d (.bl _)) trivial
    · rename_i hn
      cases e
      rw [bv_notnone b1 (by intro z; exact hn z)]
      exact k _ H (Sm.refl H) (.d (.bl _)) trivial
  · cases e
    exact .inr ⟨_, _, bv_bl b1, bv_bl b2, k _ H (Sm.refl H) (.d (.bl _)) trivial⟩
  · cases e
theorem d_isnot : D2 X C (compareOp .IsNot) (isS true) := by
  refine ⟨OpR.imp (op_notN.or op_notBl) fun x y H Q h => ?_, is_ne _⟩
  obtain ⟨O, sx, sy, s, hd, _, b1, b2, e, k⟩ := h
  unfold isS at e
  split at e
  · refine .inl ⟨bv_non b2, ?_⟩
    split at e
    · cases e
      rw [bv_non b1]
      exact k _ H (Sm.refl H) (.d (.bl _)) trivial
    · rename_i hn
      cases e
      rw [bv_notnone b1 (by intro z; exact hn z)]
      exact k _ H (Sm.refl H) (.d (.bl _)) trivial
  · cases e
    exact .inr ⟨_, _, bv_bl b1, bv_bl b2, k _ H (Sm.refl H) (.d (.bl _)) trivial⟩
  · cases e

/-! in, not in: lists, tuples (data), texts -/
def rInA (K : PySem.W.Frag) (neg : Bool) : R2 := fun x y H Q => ∃ d ds, Dp K H x d ∧ (Dp K H y (.list ds) ∨ Dp K H y (.tuple ds)) ∧ SeqAt.shaped d = true ∧ SeqAt.shaped (.list ds) = true ∧ Q (.bl (if neg then !(ds.any fun z => PyData.eqv z d) else ds.any fun z => PyData.eqv z d)) H
theorem op_inA (hu : X.A.units + 65 < cLine) : OpR X (compareOp .In) (rInA X.K false) := by
  intro pins s σ H x y v u Q I rx ry h
  obtain ⟨d, ds, hd, he, sd, se, q⟩ := h
  obtain ⟨as, r1⟩ := Dp.reads I d x v hd rx
  rcases he with he | he
  · obtain ⟨bs, r2⟩ := Dp.reads I (.list ds) y u he ry
    exact SeqAt.in_list_reads r2 r1 (SeqAt.canLay_of_shaped se) (SeqAt.canLay_of_shaped sd) (PyProof.Rows.room_in_shaped sd hu) ⟨.bl _, H, I, rfl, q⟩
  · obtain ⟨bs, r2⟩ := Dp.reads I (.tuple ds) y u he ry
    exact SeqAt.in_tuple_reads r2 r1 (SeqAt.canLay_of_shaped se) (SeqAt.canLay_of_shaped sd) (PyProof.Rows.room_in_shaped sd hu) ⟨.bl _, H, I, rfl, q⟩
theorem op_notInA (hu : X.A.units + 65 < cLine) : OpR X (compareOp .NotIn) (rInA X.K true) := by
  intro pins s σ H x y v u Q I rx ry h
  obtain ⟨d, ds, hd, he, sd, se, q⟩ := h
  obtain ⟨as, r1⟩ := Dp.reads I d x v hd rx
  rcases he with he | he
  · obtain ⟨bs, r2⟩ := Dp.reads I (.list ds) y u he ry
    exact SeqAt.notIn_list_reads r2 r1 (SeqAt.canLay_of_shaped se) (SeqAt.canLay_of_shaped sd) (PyProof.Rows.room_in_shaped sd hu) ⟨.bl _, H, I, rfl, q⟩
  · obtain ⟨bs, r2⟩ := Dp.reads I (.tuple ds) y u he ry
    exact SeqAt.notIn_tuple_reads r2 r1 (SeqAt.canLay_of_shaped se) (SeqAt.canLay_of_shaped sd) (PyProof.Rows.room_in_shaped sd hu) ⟨.bl _, H, I, rfl, q⟩
def anyEqv (ds : List PyData) (d : PyData) : Bool := ds.any fun z => PyData.eqv z d
def inS (neg : Bool) (x y : S) : R S := do let d ← x.rd; let ds ← y.its; chk (sh2 d (.list ds)) (.ok (.d (.bool (if neg then !(anyEqv ds d) else anyEqv ds d))))
theorem in_ne (n : Bool) : NoExc2 (inS n) := fun x y => bind_ne (rd_ne _) fun a => bind_ne (its_ne _) fun b => chk_ne (ok_ne _)
theorem bv_itsD {K : PySem.W.Frag} {H : Hp} {O : List Addr} {v : V} {s : S} {ds : List PyData} (h : BV K C H O v s) (e : s.its = .ok ds) : Dp K H v (.list ds) ∨ Dp K H v (.tuple ds) := by
  cases h with
  | d h =>
    have h' := dp_same (hm_le (H := H) (O := O)) h
    cases h with
    | lst h r => cases e; exact .inl h'
    | tup h r => cases e; exact .inr h'
    | _ => cases e
  | fl h1 h2 h3 => cases e; exact .inl (.lst (SqL.of h2) (dpa_same hm_le h3))
  | ol h1 h2 h3 => cases e; exact .inl (.lst (SqL.of h2) (dpa_same hm_le h3))
  | fk => cases e
  | ok => cases e
  | obj => cases e
theorem d_in (hu : X.A.units + 65 < cLine) : D2 X C (compareOp .In) (inS false) := by
  refine ⟨OpR.imp (op_inA hu) fun x y H Q h => ?_, in_ne _⟩
  obtain ⟨O, sx, sy, s, hd, _, b1, b2, e, k⟩ := h
  obtain ⟨a, h1, e⟩ := bind_ok e
  obtain ⟨b, h2, e⟩ := bind_ok e
  obtain ⟨c, e⟩ := chk_ok e
  cases e
  simp only [sh2, Bool.and_eq_true] at c
  exact ⟨a, b, bv_rd b1 h1, bv_itsD b2 h2, c.1, c.2, k _ H (Sm.refl H) (.d (.bl _)) trivial⟩
theorem d_notin (hu : X.A.units + 65 < cLine) : D2 X C (compareOp .NotIn) (inS true) := by
  refine ⟨OpR.imp (op_notInA hu) fun x y H Q h => ?_, in_ne _⟩
  obtain ⟨O, sx, sy, s, hd, _, b1, b2, e, k⟩ := h
  obtain ⟨a, h1, e⟩ := bind_ok e
  obtain ⟨b, h2, e⟩ := bind_ok e
  obtain ⟨c, e⟩ := chk_ok e
  cases e
  simp only [sh2, Bool.and_eq_true] at c
  exact ⟨a, b, bv_rd b1 h1, bv_itsD b2 h2, c.1, c.2, k _ H (Sm.refl H) (.d (.bl _)) trivial⟩

/-! -x -/
def negS (x : S) : R S := do let i ← x.i; .ok (.d (.int (-i)))
theorem d_neg : D1 X C (unaryOp .USub) negS := by
  refine ⟨UnR.imp un_neg fun x H Q h => ?_, fun x => bind_ne (i_ne _) fun a => ok_ne _⟩
  obtain ⟨O, sx, s, hd, _, b1, e, k⟩ := h
  obtain ⟨a, h1, e⟩ := bind_ok e
  cases e
  cases S.i_eq h1
  exact ⟨a, bv_int b1, k _ H (Sm.refl H) (.d (.int _)) trivial⟩
end
end DL

set_option Elab.async false
set_option linter.all false
set_option maxRecDepth 100000
set_option maxHeartbeats 1000000
/-! DL3: expressions: tests, displays, subscripts, attributes, calls. -/
namespace DL
open PySem PySem.Spec L2
section
variable {X : Cx} {C : Cfg} {W : WX} {a b c e : Expr} {es rest : List Expr} {f g h : Env → R S} {pos : Pos}

theorem seqB {K : PySem.W.Frag} {σ : L2.St} {H : Hp} {O : List Addr} {δ : Env} {α : Type} {f : Env → R Bool} {g : Bool → R α} {PQ : R α → Prop} {Q' : Bool → Hp → Prop} (rep : Rep K C H O δ σ) (h : PQ (f δ >>= g))
    (hx : ∀ k p, PQ (.exc k p) → ∀ v d H', Sm C H H' → H' d = some (.xd [(C.fld k, v)]) → Dp K (Hm H' O) v p → W (.ref (C.exc k)) (some d) σ H') (hb : ¬ PQ .bad)
    (ho : ∀ s, f δ = .ok s → PQ (g s) → ∀ H1, Sm C H H1 → Q' s H1) : tDT K C W f σ H Q' := by
  refine ⟨δ, O, rep, ?_⟩
  cases e : f δ with
  | ok s => rw [e] at h; exact ho s e h
  | exc k p => rw [e] at h; exact hx k p h
  | bad => rw [e] at h; exact (hb h).elim

/-! ### and, or, not as values (bools ahead of the last) -/
def kAnd (f g : Env → R S) : Env → R S := fun δ => do let x ← f δ; let c ← x.b; if c then g δ else .ok (.d (.bool false))
def kOr (f g : Env → R S) : Env → R S := fun δ => do let x ← f δ; let c ← x.b; if c then .ok (.d (.bool true)) else g δ
def kNot (f : Env → R S) : Env → R S := fun δ => do let x ← f δ; let c ← x.b; .ok (.d (.bool (!c)))
theorem de_one {op} (ha : DE X C W a f) : DE X C W (.BoolOp op [a] pos) f := pe_one ha
theorem de_and (ha : DE X C W a f) (hb : DE X C W (.BoolOp .And (b :: rest) pos) g) : DE X C W (.BoolOp .And (a :: b :: rest) pos) (kAnd f g) := by
  refine PE.imp (pe_and ha hb) fun σ H Q ⟨δ, O, rep, w⟩ => ?_
  refine seq1 (PQ := Post X.K C W σ H O Q) rep w (fun k p q => q) (fun q => q) fun s e q v H1 s1 bv fr => ?_
  cases eb : s.b with
  | ok k =>
    rw [eb] at q
    cases S.b_eq eb
    cases k with
    | true => exact ⟨true, bv_bl bv, by rw [if_pos rfl]; exact ⟨δ, O, rep.same s1, post_mono s1 q⟩⟩
    | false => exact ⟨false, bv_bl bv, by rw [if_neg Bool.false_ne_true]; exact q _ H1 s1 (.d (.bl false)) trivial⟩
  | exc k p => exact (b_ne s k p eb).elim
  | bad => rw [eb] at q; exact q.elim
theorem de_or (ha : DE X C W a f) (hb : DE X C W (.BoolOp .Or (b :: rest) pos) g) : DE X C W (.BoolOp .Or (a :: b :: rest) pos) (kOr f g) := by
  refine PE.imp (pe_or ha hb) fun σ H Q ⟨δ, O, rep, w⟩ => ?_
  refine seq1 (PQ := Post X.K C W σ H O Q) rep w (fun k p q => q) (fun q => q) fun s e q v H1 s1 bv fr => ?_
  cases eb : s.b with
  | ok k =>
    rw [eb] at q
    cases S.b_eq eb
    cases k with
    | true => exact ⟨true, bv_bl bv, by rw [if_pos rfl]; exact q _ H1 s1 (.d (.bl true)) trivial⟩
    | false => exact ⟨false, bv_bl bv, by rw [if_neg Bool.false_ne_true]; exact ⟨δ, O, rep.same s1, post_mono s1 q⟩⟩
  | exc k p => exact (b_ne s k p eb).elim
  | bad => rw [eb] at q; exact q.elim
theorem de_not (ha : DE X C W a f) : DE X C W (.UnaryOp .Not a pos) (kNot f) := by
  refine PE.imp (pe_not ha) fun σ H Q ⟨δ, O, rep, w⟩ => ?_
  refine seq1 (PQ := Post X.K C W σ H O Q) rep w (fun k p q => q) (fun q => q) fun s e q v H1 s1 bv fr => ?_
  cases eb : s.b with
  | ok k => rw [eb] at q; cases S.b_eq eb; exact ⟨k, bv_bl bv, q _ H1 s1 (.d (.bl _)) trivial⟩
  | exc k p => exact (b_ne s k p eb).elim
  | bad => rw [eb] at q; exact q.elim

/-! ### tests -/
def truS : S → R Bool
  | .d .none => .ok false
  | .d (.bool b) => .ok b
  | .d (.int i) => .ok (i != 0)
  | .d (.str y) => chk (decide (y.length ≤ 1000000)) (.ok ((y.length : Int) != 0))
  | .d (.list ds) => .ok (!ds.isEmpty)
  | .d (.tuple ds) => .ok (!ds.isEmpty)
  | .l _ ds => .ok (!ds.isEmpty)
  | _ => .bad
theorem tru_ne (s : S) : ∀ k p, truS s ≠ .exc k p := by
  intro k p; unfold truS
  split <;> first | exact ok_ne _ k p | exact chk_ne (ok_ne _) k p | exact bad_ne k p
theorem empty_dpa {K : PySem.W.Frag} {H : Hp} {vs : List V} {xs : List PyData} (h : DpAll K H vs xs) : (!xs.isEmpty) = !vs.isEmpty := by cases h <;> rfl
theorem tru_okS {K : PySem.W.Frag} {H : Hp} {O : List Addr} {v : V} {s : S} {k : Bool} (h : BV K C H O v s) (e : truS s = .ok k) : TruV K v H k := by
  unfold truS at e
  split at e
  · cases e; rw [bv_non h]; rfl
  · cases e; rw [bv_bl h]; rfl
  · cases e; rw [bv_int h]; rfl
  · obtain ⟨c, e⟩ := chk_ok e
    cases e; rw [bv_str h]; exact ⟨small_line (by simpa using c), rfl⟩
  · cases e
    obtain ⟨a, xs, rfl, q, r⟩ := bv_lst h rfl
    exact .inl ⟨xs, q, empty_dpa r⟩
  · cases e
    obtain ⟨a, xs, rfl, q, _, r⟩ := bv_tup h
    exact .inr (.inl ⟨xs, q, empty_dpa r⟩)
  · cases e
    obtain ⟨a, xs, rfl, q, r⟩ := bv_lst h rfl
    exact .inl ⟨xs, q, empty_dpa r⟩
  · cases e
def kTru (f : Env → R S) : Env → R Bool := fun δ => do let x ← f δ; truS x
def kBl (f : Env → R S) : Env → R Bool := fun δ => do let x ← f δ; x.b
/-- a value as a test -/
theorem dt_val (ha : DE X C W a f) (he : ∀ whole, isTrue a X.env whole = (do let v ← whole; standAt a.pos; holding [v] (truthy v)) := by intro _; rfl) : DT X C W a (kTru f) := by
  refine PT.imp (pt_truth ha he) fun σ H Q ⟨δ, O, rep, w⟩ => ?_
  refine seq1 (PQ := PostT X.K C W σ H O Q) rep w (fun k p q => q) (fun q => q) fun s e q v H1 s1 bv fr => ?_
  cases eb : truS s with
  | ok k => rw [eb] at q; exact ⟨k, tru_okS bv eb, q H1 s1⟩
  | exc k p => exact (tru_ne s k p eb).elim
  | bad => rw [eb] at q; exact q.elim
theorem test_core {r : Env → R S} {t : TE} {σ : L2.St} {H : Hp} {Q : Bool → Hp → Prop} (k : ∀ σ H Q, tD X.K C W r σ H Q → t σ H Q) (w : tDT X.K C W (kBl r) σ H Q) : tTest t σ H Q := by
  refine k _ _ _ ?_
  obtain ⟨δ, O, rep, w⟩ := w
  refine seq1 (PQ := PostT X.K C W σ H O Q) rep w (fun k p q => q) (fun q => q) fun s e q v H1 s1 bv fr => ?_
  cases eb : s.b with
  | ok k => rw [eb] at q; cases S.b_eq eb; exact ⟨k, bv_bl bv, q H1 s1⟩
  | exc k p => exact (b_ne s k p eb).elim
  | bad => rw [eb] at q; exact q.elim
theorem dt_cmp {op : CmpOp} {r : S → S → R S} (ho : D2 X C (compareOp op) r) (ha : DE X C W a f) (hb : DE X C W b g) (hm : behindInMarks op b = false) : DT X C W (.Compare a [op] [b] pos) (kBl (kB r f g)) :=
  PT.imp (pt_cmpR ho.op ha hb hm) fun σ H Q w => test_core (fun σ H Q => op_core ho.nx) w
/-- a op b op' c -/
def kCh (r r' : S → S → R S) (f g h : Env → R S) : Env → R S := fun δ => do let x ← f δ; let y ← g δ; let z ← r x y; let c ← z.b; if c then (do let w ← h δ; r' y w) else .ok (.d (.bool false))
theorem chain_core {r r' : S → S → R S} {σ : L2.St} {H : Hp} {Q : VK} (nx : NoExc2 r) (nx' : NoExc2 r') (hat : ∀ x y z, r x y = .ok z → ∃ k, z = .d (.bool k)) (w : tD X.K C W (kCh r r' f g h) σ H Q) :
    tChain (rD2 X.K C r) (rD2 X.K C r') (tD X.K C W f) (tD X.K C W g) (tD X.K C W h) σ H Q := by
  obtain ⟨δ, O, rep, w⟩ := w
  refine seq1 (PQ := Post X.K C W σ H O Q) rep w (fun k p q => q) (fun q => q) fun s e q v H1 s1 bv fr => ?_
  refine seq1 (PQ := Post X.K C W σ H1 O Q) (rep.same s1) (g := fun y => (do let z ← r s y; let c ← z.b; if c then (do let w ← h δ; r' y w) else .ok (.d (.bool false)))) (post_mono s1 q) (fun k p q => q) (fun q => q) fun s' e' q' v' H2 s2 bv' fr' => ?_
  cases er : r s s' with
  | ok z =>
    rw [er] at q'
    obtain ⟨k, rfl⟩ := hat _ _ _ er
    refine ⟨O, s, s', .d (.bool k), ((rep.same s1).same s2).dom, ((rep.same s1).same s2).tabs, bv_same s2 bv, bv', er, fun v3 H3 s3 b3 f3 => ⟨k, bv_bl b3, ?_⟩⟩
    cases k with
    | true =>
      rw [if_pos rfl]
      have q'' : Post X.K C W σ H3 O Q ((do let w ← h δ; r' s' w)) := post_mono s3 (post_mono s2 q')
      refine seq1 (PQ := Post X.K C W σ H3 O Q) (((rep.same s1).same s2).same s3) (g := fun w => r' s' w) q'' (fun k p q => q) (fun q => q) fun s4 e4 q4 v4 H4 se4 bv4 fr4 => ?_
      cases er' : r' s' s4 with
      | ok z => rw [er'] at q4; exact ⟨O, s', s4, z, ((((rep.same s1).same s2).same s3).same se4).dom, ((((rep.same s1).same s2).same s3).same se4).tabs, bv_same se4 (bv_same s3 bv'), bv4, er', post_mono se4 (r := .ok z) q4⟩
      | exc k p => exact (nx' _ _ _ _ er').elim
      | bad => rw [er'] at q4; exact q4.elim
    | false =>
      rw [if_neg Bool.false_ne_true]
      exact q' _ H3 (s2.trans s3) (.d (.bl false)) trivial
  | exc k p => exact (nx _ _ _ _ er).elim
  | bad => rw [er] at q'; exact q'.elim
theorem ii_bool {c : Int → Int → Bool} {p : Int → Int → Bool} : ∀ x y z, iiS c (fun i j => .bool (p i j)) x y = .ok z → ∃ k, z = .d (.bool k) := fun x y z h => by
  obtain ⟨i, j, _, _, _, rfl⟩ := ii_inv h; exact ⟨_, rfl⟩
theorem de_chain {op op' : CmpOp} {r r' : S → S → R S} (ho : D2 X C (compareOp op) r) (ho' : D2 X C (compareOp op') r') (hat : ∀ x y z, r x y = .ok z → ∃ k, z = .d (.bool k)) (ha : DE X C W a f) (hb : DE X C W b g) (hc : DE X C W c h)
    (hm : lastMarks [op, op'] [b, c] = false := by with_unfolding_all rfl) : DE X C W (.Compare a [op, op'] [b, c] pos) (kCh r r' f g h) :=
  PE.imp (pe_chain ho.op ho'.op ha hb hc hm) fun σ H Q w => chain_core ho.nx ho'.nx hat w
theorem dt_chain {op op' : CmpOp} {r r' : S → S → R S} (ho : D2 X C (compareOp op) r) (ho' : D2 X C (compareOp op') r') (hat : ∀ x y z, r x y = .ok z → ∃ k, z = .d (.bool k)) (ha : DE X C W a f) (hb : DE X C W b g) (hc : DE X C W c h)
    (hm : lastMarks [op, op'] [b, c] = false := by with_unfolding_all rfl) : DT X C W (.Compare a [op, op'] [b, c] pos) (kBl (kCh r r' f g h)) :=
  PT.imp (pt_chain ho.op ho'.op ha hb hc hm) fun σ H Q w => test_core (fun σ H Q => chain_core ho.nx ho'.nx hat) w
variable {t u : Env → R Bool}
def tAndK (t u : Env → R Bool) : Env → R Bool := fun δ => do let c ← t δ; if c then u δ else .ok false
def tOrK (t u : Env → R Bool) : Env → R Bool := fun δ => do let c ← t δ; if c then .ok true else u δ
def tNotK (t : Env → R Bool) : Env → R Bool := fun δ => do let c ← t δ; .ok (!c)
theorem dw_and1 (ha : DT X C W a t) : DW X C W (.BoolOp .And [a] pos) t := pw_and1 ha
theorem dw_or1 (ha : DT X C W a t) : DW X C W (.BoolOp .Or [a] pos) t := pw_or1 ha
theorem dw_and (ha : DT X C W a t) (hb : DW X C W (.BoolOp .And (b :: rest) pos) u) : DW X C W (.BoolOp .And (a :: b :: rest) pos) (tAndK t u) := by
  refine PW.imp (pw_and ha hb) fun σ H Q ⟨δ, O, rep, w⟩ => ?_
  refine seqB (PQ := PostT X.K C W σ H O Q) rep w (fun k p q => q) (fun q => q) fun k e q H1 s1 => ?_
  cases k with
  | true => rw [if_pos rfl]; exact ⟨δ, O, rep.same s1, postT_mono s1 q⟩
  | false => rw [if_neg Bool.false_ne_true]; exact q H1 s1
theorem dw_or (ha : DT X C W a t) (hb : DW X C W (.BoolOp .Or (b :: rest) pos) u) : DW X C W (.BoolOp .Or (a :: b :: rest) pos) (tOrK t u) := by
  refine PW.imp (pw_or ha hb) fun σ H Q ⟨δ, O, rep, w⟩ => ?_
  refine seqB (PQ := PostT X.K C W σ H O Q) rep w (fun k p q => q) (fun q => q) fun k e q H1 s1 => ?_
  cases k with
  | true => rw [if_pos rfl]; exact q H1 s1
  | false => rw [if_neg Bool.false_ne_true]; exact ⟨δ, O, rep.same s1, postT_mono s1 q⟩
theorem dt_bool (h : DW X C W a t) : DT X C W a t := PW.pt h
theorem dt_not (ha : DT X C W a t) : DT X C W (.UnaryOp .Not a pos) (tNotK t) := by
  refine PT.imp (pt_not ha) fun σ H Q ⟨δ, O, rep, w⟩ => ?_
  exact seqB (PQ := PostT X.K C W σ H O Q) rep w (fun k p q => q) (fun q => q) fun k e q H1 s1 => q H1 s1
def kIf (t : Env → R Bool) (f g : Env → R S) : Env → R S := fun δ => do let c ← t δ; if c then f δ else g δ
theorem de_if (hc : DT X C W c t) (ha : DE X C W a f) (hb : DE X C W b g) : DE X C W (.IfExp c a b pos) (kIf t f g) := by
  refine PE.imp (pe_ifExp hc ha hb) fun σ H Q ⟨δ, O, rep, w⟩ => ?_
  refine seqB (PQ := Post X.K C W σ H O Q) rep w (fun k p q => q) (fun q => q) fun k e q H1 s1 => ?_
  cases k with
  | true => rw [if_pos rfl]; exact ⟨δ, O, rep.same s1, post_mono s1 q⟩
  | false => rw [if_neg Bool.false_ne_true]; exact ⟨δ, O, rep.same s1, post_mono s1 q⟩

/-! ### several, displays -/
def aNil : Env → R (List S) := fun _ => .ok []
def aCons (f : Env → R S) (r : Env → R (List S)) : Env → R (List S) := fun δ => do let x ← f δ; let xs ← r δ; .ok (x :: xs)
variable {fs : Env → R (List S)}
theorem da_nil : DA X C W [] aNil := PA.imp pa_nil fun σ H Q ⟨δ, O, rep, w⟩ => w [] H (Sm.refl H) .nil
theorem da_cons (ha : DE X C W e f) (hr : DA X C W es fs) (hs : starEach (e :: es) X.env = (false, eval e X.env) :: starEach es X.env := by rfl) : DA X C W (e :: es) (aCons f fs) := by
  refine PA.imp (pa_cons ha hr hs) fun σ H Q ⟨δ, O, rep, w⟩ => ?_
  refine seq1 (PQ := PostA X.K C W σ H O Q) rep w (fun k p q => q) (fun q => q) fun s e q v H1 s1 bv fr => ?_
  refine ⟨δ, O, rep.same s1, ?_⟩
  cases ef : fs δ with
  | ok ss => rw [ef] at q; exact fun vs H2 s2 bvs => q (v :: vs) H2 (s1.trans s2) (.cons (bv_same s2 bv) bvs)
  | exc k p => rw [ef] at q; exact fun v d H' z => q v d H' (s1.trans z)
  | bad => rw [ef] at q; exact q.elim
def pds : List S → R (List PyData)
  | [] => .ok []
  | s :: ss => do let x ← s.pd; let xs ← pds ss; .ok (x :: xs)
theorem pds_ne : ∀ (ss : List S) k p, pds ss ≠ .exc k p
  | [] => ok_ne _
  | s :: ss => bind_ne (pd_ne s) fun x => bind_ne (pds_ne ss) fun xs => ok_ne _
theorem bvs_pds {K : PySem.W.Frag} {H : Hp} {O : List Addr} : ∀ {vs : List V} {ss : List S} {xs : List PyData}, BVs K C H O vs ss → pds ss = .ok xs → DpAll K (Hm H O) vs xs
  | _, _, _, .nil, e => by cases e; exact .nil
  | _, _, _, .cons h r, e => by
    obtain ⟨x, e1, e⟩ := bind_ok e
    obtain ⟨ys, e2, e⟩ := bind_ok e
    cases e
    exact .cons (bv_pd h e1) (bvs_pds r e2)
theorem seqA {K : PySem.W.Frag} {σ : L2.St} {H : Hp} {O : List Addr} {δ : Env} {α : Type} {f : Env → R (List S)} {g : List S → R α} {PQ : R α → Prop} {Q' : List V → Hp → Prop} (rep : Rep K C H O δ σ) (h : PQ (f δ >>= g))
    (hx : ∀ k p, PQ (.exc k p) → ∀ v d H', Sm C H H' → H' d = some (.xd [(C.fld k, v)]) → Dp K (Hm H' O) v p → W (.ref (C.exc k)) (some d) σ H') (hb : ¬ PQ .bad)
    (ho : ∀ s, f δ = .ok s → PQ (g s) → ∀ vs H1, Sm C H H1 → BVs K C H1 O vs s → Q' vs H1) : tDA K C W f σ H Q' := by
  refine ⟨δ, O, rep, ?_⟩
  cases e : f δ with
  | ok s => rw [e] at h; exact ho s e h
  | exc k p => rw [e] at h; exact hx k p h
  | bad => rw [e] at h; exact (hb h).elim
def kTup (fs : Env → R (List S)) : Env → R S := fun δ => do let ss ← fs δ; let xs ← pds ss; chk (decide (xs.length ≤ 1000000)) (.ok (.d (.tuple xs)))
def kLst (fs : Env → R (List S)) : Env → R S := fun δ => do let ss ← fs δ; let xs ← pds ss; chk (decide (xs.length ≤ 1000000)) (.ok (.l .fr xs))
theorem de_tup {n} (hf : DA X C W es fs) : DE X C W (.Tuple es n pos) (kTup fs) := by
  refine PE.imp (pe_tup hf) fun σ H Q ⟨δ, O, rep, w⟩ => ?_
  refine seqA (PQ := Post X.K C W σ H O Q) rep w (fun k p q => q) (fun q => q) fun ss e q vs H1 s1 bvs => ?_
  cases ex : pds ss with
  | ok xs =>
    rw [ex] at q
    have r := bvs_pds bvs ex
    cases ec : decide (xs.length ≤ 1000000) with
    | true =>
      simp only [R.ok_bind, ec, chk_true] at q
      have hl := of_decide_eq_true ec
      have l := dpa_length r
      exact ⟨small_line (by omega), fun p hp => q _ _ (s1.trans (same_new hp)) (bv_newT (rep.same s1).dom hp r) trivial⟩
    | false => simp only [R.ok_bind, ec, chk_false] at q; exact q.elim
  | exc k p => exact (pds_ne ss k p ex).elim
  | bad => rw [ex] at q; exact q.elim
theorem de_lst (hf : DA X C W es fs) : DE X C W (.List es pos) (kLst fs) := by
  refine PE.imp (pe_lst hf) fun σ H Q ⟨δ, O, rep, w⟩ => ?_
  refine seqA (PQ := Post X.K C W σ H O Q) rep w (fun k p q => q) (fun q => q) fun ss e q vs H1 s1 bvs => ?_
  cases ex : pds ss with
  | ok xs =>
    rw [ex] at q
    have r := bvs_pds bvs ex
    cases ec : decide (xs.length ≤ 1000000) with
    | true =>
      simp only [R.ok_bind, ec, chk_true] at q
      have hl := of_decide_eq_true ec
      have l := dpa_length r
      exact ⟨small_line (by omega), fun p hp => q _ _ (s1.trans (same_new hp)) (bv_newL (rep.same s1).dom hp r) ⟨p, rfl, s1.free (.of hp)⟩⟩
    | false => simp only [R.ok_bind, ec, chk_false] at q; exact q.elim
  | exc k p => exact (pds_ne ss k p ex).elim
  | bad => rw [ex] at q; exact q.elim

/-! ### subscripts -/
def ixS (x y : S) : R S := do
  let i ← y.i
  match x with
  | .d (.str z) => chk (decide (z.length ≤ 1000000)) (match atI z.cps.toList i with | some c => .ok (.d (.str ⟨#[c]⟩)) | none => .bad)
  | x => do let ds ← x.its; (match atI ds i with | some d => .ok (.d d) | none => .bad)
theorem ix_ne : NoExc2 ixS := by
  intro x y
  refine bind_ne (i_ne _) fun i => ?_
  split
  · exact chk_ne (by intro k p; split <;> (intro h; cases h))
  · exact bind_ne (its_ne _) fun ds => by intro k p; split <;> (intro h; cases h)
theorem atI_dpa {K : PySem.W.Frag} {H : Hp} {vs : List V} {xs : List PyData} {i : Int} {x : PyData} (r : DpAll K H vs xs) (h : atI xs i = some x) : ∃ v, atI vs i = some v ∧ Dp K H v x := by
  unfold atI at h ⊢
  rw [dpa_length r]
  cases e : ixN xs.length i with
  | none => rw [e] at h; cases h
  | some j => rw [e] at h; exact dpa_get r h
theorem ixs_core {K : PySem.W.Frag} {x y : V} {H : Hp} {Q : VK} (h : rD2 K C ixS x y H Q) : rIx K x y H Q := by
  obtain ⟨O, sx, sy, s, hd, _, b1, b2, e, k⟩ := h
  obtain ⟨i, h1, e2⟩ := bind_ok e
  have hy := S.i_eq h1
  subst hy
  clear e
  have e := e2
  clear e2
  have ey := bv_int b2
  split at e
  · obtain ⟨c, e⟩ := chk_ok e
    rename_i z _
    cases ea : atI z.cps.toList i with
    | none => rw [ea] at e; cases e
    | some cc =>
      rw [ea] at e
      cases e
      exact .inr (.inr ⟨z, i, cc, bv_str b1, ey, small_line (by simpa using c), ea, k _ H (Sm.refl H) (.d (.str _)) trivial⟩)
  · obtain ⟨ds, h2, e⟩ := bind_ok e
    cases ea : atI ds i with
    | none => rw [ea] at e; cases e
    | some d =>
      rw [ea] at e
      cases e
      obtain ⟨p, xs, rfl, q, r⟩ := bv_its b1 h2
      obtain ⟨v, e3, q3⟩ := atI_dpa r ea
      rcases q with q | q
      · exact .inl ⟨p, xs, i, v, rfl, ey, q, e3, k _ H (Sm.refl H) (.d q3) trivial⟩
      · exact .inr (.inl ⟨p, xs, i, v, rfl, ey, q, e3, k _ H (Sm.refl H) (.d q3) trivial⟩)
theorem de_ix (ha : DE X C W a f) (hb : DE X C W b g) (hs : PlainIx b := by intro _ _; rfl) : DE X C W (.Subscript a b pos) (kB ixS f g) := by
  have hr : IxR X (rD2 X.K C ixS) := fun value slice pins s σ H x y v u Q I rx ry h hs => ix_seq value slice pins s σ H x y v u Q I rx ry (ixs_core h) hs
  exact PE.imp (pe_ix hr ha hb hs) fun σ H Q w => op_core ix_ne w
def cutP (xs : List PyData) (lo hi : Option Int) : List PyData := (xs.drop (HT.sIx xs.length 0 lo)).take (HT.sIx xs.length xs.length hi - HT.sIx xs.length 0 lo)
theorem dpa_cut {K : PySem.W.Frag} {H : Hp} {vs : List V} {xs : List PyData} (r : DpAll K H vs xs) (lo hi : Option Int) : DpAll K H (cutV vs lo hi) (cutP xs lo hi) := by
  unfold cutV cutP
  rw [dpa_length r]
  exact dpa_take _ (dpa_drop _ r)
def slS (x : S) (lo hi : Option Int) : R S := match x with
  | .d (.tuple ds) => .ok (.d (.tuple (cutP ds lo hi)))
  | x => do let ds ← x.lst; .ok (.l .fr (cutP ds lo hi))
theorem sl_ne (x : S) (lo hi : Option Int) : ∀ k p, slS x lo hi ≠ .exc k p := by
  unfold slS
  split
  · exact ok_ne _
  · exact bind_ne (lst_ne _) fun _ => ok_ne _
/-- a slice's part -/
abbrev DO (X : Cx) (C : Cfg) (W : WX) (e : Option Expr) (f : Env → R (Option Int)) : Prop := PO X e (fun σ H Q => ∃ δ O, Rep X.K C H O δ σ ∧ match f δ with
  | .ok o => ∀ H', Sm C H H' → Q o H'
  | .exc k p => ∀ v d H', Sm C H H' → H' d = some (.xd [(C.fld k, v)]) → Dp X.K (Hm H' O) v p → W (.ref (C.exc k)) (some d) σ H'
  | .bad => False)
def oNo : Env → R (Option Int) := fun _ => .ok none
def oSome (f : Env → R S) : Env → R (Option Int) := fun δ => do let x ← f δ; let i ← x.i; .ok (some i)
theorem PO.imp {e : Option Expr} {t t' : TO} (h : PO X e t) (k : ∀ σ H Q, t' σ H Q → t σ H Q) : PO X e t' := ⟨fun pins s σ H Q I w => h.run pins s σ H Q I (k σ H Q w)⟩
theorem do_none : DO X C W none oNo := PO.imp po_none fun σ H Q ⟨δ, O, rep, w⟩ => w H (Sm.refl H)
theorem do_some (ha : DE X C W a f) : DO X C W (some a) (oSome f) := by
  refine PO.imp (po_some ha) fun σ H Q ⟨δ, O, rep, w⟩ => ?_
  refine ⟨δ, O, rep, ?_⟩
  cases e : f δ with
  | ok s =>
    simp only [oSome, e, R.ok_bind] at w
    intro v H1 s1 bv fr
    cases ei : s.i with
    | ok i => rw [ei] at w; cases S.i_eq ei; exact ⟨i, bv_int bv, w H1 s1⟩
    | exc k p => exact (i_ne s k p ei).elim
    | bad => rw [ei] at w; exact w.elim
  | exc k p => simp only [oSome, e, R.exc_bind] at w; exact w
  | bad => simp only [oSome, e, R.bad_bind] at w
def kSl (f : Env → R S) (l u : Env → R (Option Int)) : Env → R S := fun δ => do let x ← f δ; let lo ← l δ; let hi ← u δ; slS x lo hi
theorem de_slice {lo hi : Option Expr} {l u : Env → R (Option Int)} {p2 : Pos} (ha : DE X C W a f) (hl : DO X C W lo l) (hu : DO X C W hi u) : DE X C W (.Subscript a (.Slice lo hi none p2) pos) (kSl f l u) := by
  refine PE.imp (pe_slice (SlR.or sl_tupA sl_list) ha hl hu) fun σ H Q ⟨δ, O, rep, w⟩ => ?_
  refine seq1 (PQ := Post X.K C W σ H O Q) rep w (fun k p q => q) (fun q => q) fun s e q v H1 s1 bv fr => ?_
  refine ⟨δ, O, rep.same s1, ?_⟩
  cases el : l δ with
  | ok lo =>
    simp only [el, R.ok_bind] at q
    intro H2 s2
    refine ⟨δ, O, (rep.same s1).same s2, ?_⟩
    cases eu : u δ with
    | ok hi =>
      simp only [eu, R.ok_bind] at q
      intro H3 s3
      have bv3 := bv_same s3 (bv_same s2 bv)
      have dom3 := (((rep.same s1).same s2).same s3).dom
      have s13 := s1.trans (s2.trans s3)
      cases es : slS s lo hi with
      | ok z =>
        rw [es] at q
        unfold slS at es
        split at es
        · rename_i ds
          cases es
          obtain ⟨a, xs, rfl, h1, h1', r⟩ := bv_tup bv3
          refine .inl ⟨a, xs, rfl, h1, fun hw => ?_, fun hw p hp => ?_⟩
          · refine q _ H3 s13 ?_ trivial
            have e1 : cutP ds lo hi = ds := by
              unfold cutP
              rw [← dpa_length r, hw.1, hw.2, List.drop_zero, Nat.sub_zero, dpa_length r, List.take_length]
            rw [e1]
            exact bv3
          · exact q _ _ (s13.trans (same_new hp)) (bv_newT dom3 hp (dpa_cut r lo hi)) trivial
        · obtain ⟨ds, h2, es⟩ := bind_ok es
          cases es
          obtain ⟨a, xs, rfl, h1, r⟩ := bv_lst bv3 h2
          exact .inr ⟨a, xs, rfl, h1, fun p hp => q _ _ (s13.trans (same_new hp)) (bv_newL dom3 hp (dpa_cut r lo hi)) ⟨p, rfl, s13.free (.of hp)⟩⟩
      | exc k p => exact (sl_ne s lo hi k p es).elim
      | bad => rw [es] at q; exact q.elim
    | exc k p => simp only [eu, R.exc_bind] at q; exact fun v d H' z => q v d H' (s1.trans (s2.trans z))
    | bad => simp only [eu, R.bad_bind] at q; exact q.elim
  | exc k p => simp only [el, R.exc_bind] at q; exact fun v d H' z => q v d H' (s1.trans z)
  | bad => simp only [el, R.bad_bind] at q; exact q.elim

/-! ### attributes of an instance that stands still -/
def fldS (c : Nat) (f : Str) : S → R S
  | .obj c' fs => chk (decide (c' = c)) (match fs.lookup f with | some x => .ok (.d x) | none => .bad)
  | _ => .bad
theorem fld_ne (c : Nat) (f : Str) : NoExc1 (fldS c f) := by
  intro s
  unfold fldS
  split
  · exact chk_ne (by intro k p; split <;> (intro h; cases h))
  · exact bad_ne
theorem bv_obj {K : PySem.W.Frag} {H : Hp} {O : List Addr} {v : V} {c : Nat} {gs : List (Str × PyData)} (h : BV K C H O v (.obj c gs)) : ∃ a dx fs, v = .ref a ∧ H a = some (.ins (C.cls c) dx fs) ∧ FsAll K (C.fl c) (Hm H O) fs gs := by
  cases h with | obj h1 h2 => exact ⟨_, _, _, rfl, hm_le _ _ h1, h2⟩
theorem de_fld {cn : Nat} {m : Str} (hcl : Cls X.K (C.cls cn)) (hna : NoAttr X.K (C.cls cn) m) (ha : DE X C W a f) (hb : attributeBase a m X.env (eval a X.env) = eval a X.env := by rfl) : DE X C W (.Attribute a m pos) (kU (fldS cn m) f) := by
  refine PE.imp (pe_fld ha hb) fun σ H Q ⟨δ, O, rep, w⟩ => ?_
  refine seq1 (PQ := Post X.K C W σ H O Q) rep w (fun k p q => q) (fun q => q) fun s e q v H1 s1 bv fr => ?_
  cases es : fldS cn m s with
  | ok z =>
    rw [es] at q
    unfold fldS at es
    split at es
    · obtain ⟨c, es2⟩ := chk_ok es
      have hc := of_decide_eq_true c
      subst hc
      clear es
      obtain ⟨a, dx, fs, rfl, h1, h2⟩ := bv_obj bv
      split at es2
      · rename_i x el
        injection es2 with es2
        subst es2
        obtain ⟨v, e2, q2⟩ := fs_look h2 el
        exact ⟨_, _, _, _, v, rfl, h1, hcl, hna, e2, q _ H1 s1 (.d q2) trivial⟩
      · exact nomatch es2
    · cases es
  | exc k p => exact (fld_ne cn m s k p es).elim
  | bad => rw [es] at q; exact q.elim

/-! ### calls of built-ins -/
def kCB (g : List S → R S) (fs : Env → R (List S)) : Env → R S := fun δ => do let ss ← fs δ; g ss
theorem call_core {g : List S → R S} {σ : L2.St} {H : Hp} {Q : VK} (nx : NoExcL g) (w : tD X.K C W (kCB g fs) σ H Q) : tCB (rDC X.K C g) (tDA X.K C W fs) σ H Q := by
  obtain ⟨δ, O, rep, w⟩ := w
  refine seqA (PQ := Post X.K C W σ H O Q) rep w (fun k p q => q) (fun q => q) fun ss e q vs H1 s1 bvs => ?_
  cases es : g ss with
  | ok z => rw [es] at q; exact ⟨O, ss, z, (rep.same s1).dom, (rep.same s1).tabs, bvs, es, post_mono s1 (r := .ok z) q⟩
  | exc k p => exact (nx ss k p es).elim
  | bad => rw [es] at q; exact q.elim
theorem de_callB {id : String} {x : Str} {p : Pos} {g : List S → R S} (ho : DCall X C (.builtin id) g) (hg : Gl X x) (hm : X.mg x = none) (hv : bootBuiltins x = some (.builtin id)) (ha : DA X C W (e :: es) fs) (hn : x ≠ "__name__" := by decide) (hdb : (x == ("__debug__" : Str)) = false := by decide)
    (he : starEach (e :: es) X.env = (false, eval e X.env) :: starEach es X.env := by rfl) (hpl : (backTo pos (starEach es X.env)).any (·.1) = false := by rfl) : DE X C W (.Call (.Name x p) (e :: es) [] pos) (kCB g fs) :=
  PE.imp (pe_callB ho.op hg hm hv ha hn hdb he hpl) fun σ H Q w => call_core ho.nx w
theorem de_callTy {T : String} {x : Str} {p : Pos} {g : List S → R S} (ho : DCall X C (.type T) g) (hg : Gl X x) (hm : X.mg x = none) (hv : bootBuiltins x = some (.type T)) (ha : DA X C W (e :: es) fs) (hn : x ≠ "__name__" := by decide) (hdb : (x == ("__debug__" : Str)) = false := by decide)
    (he : starEach (e :: es) X.env = (false, eval e X.env) :: starEach es X.env := by rfl) (hpl : (backTo pos (starEach es X.env)).any (·.1) = false := by rfl) : DE X C W (.Call (.Name x p) (e :: es) [] pos) (kCB g fs) :=
  PE.imp (pe_callTy ho.op hg hm hv ha hn hdb he hpl) fun σ H Q w => call_core ho.nx w

/-! ### calls of defs -/
/-- as an argument -/
def S.arg : S → R S
  | .d x => .ok (.d x)
  | .obj c fs => .ok (.obj c fs)
  | .l .fr ds => .ok (.d (.list ds))
  | _ => .bad
def argsS : List S → R (List S)
  | [] => .ok []
  | s :: ss => do let x ← s.arg; let xs ← argsS ss; .ok (x :: xs)
@[simp] theorem arg_d (x : PyData) : S.arg (.d x) = .ok (.d x) := (rfl)
@[simp] theorem arg_obj (c fs) : S.arg (.obj c fs) = .ok (.obj c fs) := (rfl)
@[simp] theorem arg_fr (x) : S.arg (.l .fr x) = .ok (.d (.list x)) := (rfl)
@[simp] theorem args_nil : argsS [] = .ok [] := (rfl)
@[simp] theorem args_cons (s ss) : argsS (s :: ss) = (do let x ← s.arg; let xs ← argsS ss; .ok (x :: xs)) := (rfl)
theorem arg_ne (s : S) : ∀ k p, s.arg ≠ .exc k p := by intro k p; unfold S.arg; split <;> (intro h; cases h)
theorem args_ne : ∀ (ss : List S) k p, argsS ss ≠ .exc k p
  | [] => ok_ne _
  | s :: ss => bind_ne (arg_ne s) fun x => bind_ne (args_ne ss) fun xs => ok_ne _
theorem bv_arg {K : PySem.W.Frag} {H : Hp} {O : List Addr} {v : V} {s z : S} (h : BV K C H O v s) (e : s.arg = .ok z) : BV K C H O v z := by
  cases h with
  | d h => cases e; exact .d h
  | fl h1 h2 h3 => cases e; exact .d (.lst (.inl (.inl (hm_mk h1 h2))) (dpa_same hm_cons h3))
  | ol => cases e
  | fk => cases e
  | ok => cases e
  | obj h1 h2 => cases e; exact .obj h1 h2
theorem bvs_args {K : PySem.W.Frag} {H : Hp} {O : List Addr} : ∀ {vs : List V} {ss zs : List S}, BVs K C H O vs ss → argsS ss = .ok zs → BVs K C H O vs zs
  | _, _, _, .nil, e => by cases e; exact .nil
  | _, _, _, .cons h r, e => by
    obtain ⟨x, e1, e⟩ := bind_ok e
    obtain ⟨ys, e2, e⟩ := bind_ok e
    cases e
    exact .cons (bv_arg h e1) (bvs_args r e2)
/-- what a def hands back or lets out -/
def PostF (K : PySem.W.Frag) (C : Cfg) (E : XK) (H : Hp) (O : List Addr) (Q : VK) : R S → Prop
  | .ok s => ∀ v H', Sm C H H' → BV K C H' O v s → Fresh H v s → Q v H'
  | .exc k p => ∀ v d H', Sm C H H' → H' d = some (.xd [(C.fld k, v)]) → Dp K (Hm H' O) v p → E (.ref (C.exc k)) (some d) H'
  | .bad => False
/-- THE PROMISE of a def that is worth m -/
def spD (K : PySem.W.Frag) (C : Cfg) (n : Nat) (m : List S → R S) : Sp := fun vs H Q E => ∃ ss O, Dom H O ∧ LamX.Tabs C.T H ∧ vs.length = n ∧ (∀ s ∈ ss, s.still = true) ∧ BVs K C H O vs ss ∧ PostF K C E H O Q (m ss)
theorem arg_still {s z : S} (e : s.arg = .ok z) : z.still = true := by
  unfold S.arg at e; split at e <;> cases e <;> rfl
theorem args_still : ∀ {ss zs : List S}, argsS ss = .ok zs → ∀ z ∈ zs, z.still = true
  | [], _, e => by cases e; intro z h; cases h
  | s :: ss, _, e => by
    obtain ⟨x, e1, e⟩ := bind_ok e
    obtain ⟨ys, e2, e⟩ := bind_ok e
    cases e
    intro z h
    rcases List.mem_cons.mp h with rfl | h
    · exact arg_still e1
    · exact args_still e2 z h
def kCall (n : Nat) (m : List S → R S) (fs : Env → R (List S)) : Env → R S := fun δ => do let ss ← fs δ; let as ← argsS ss; chk (decide (as.length = n)) (m as)
theorem callD_core {n : Nat} {m : List S → R S} {σ : L2.St} {H : Hp} {Q : VK} (w : tD X.K C W (kCall n m fs) σ H Q) : tDA X.K C W fs σ H fun vs H1 => spD X.K C n m vs H1 Q (WE W σ) := by
  obtain ⟨δ, O, rep, w⟩ := w
  refine seqA (PQ := Post X.K C W σ H O Q) rep w (fun k p q => q) (fun q => q) fun ss e q vs H1 s1 bvs => ?_
  cases es : argsS ss with
  | ok as =>
    rw [es] at q
    simp only [R.ok_bind] at q
    have b2 := bvs_args bvs es
    cases ec : decide (as.length = n) with
    | true =>
      rw [ec, chk_true] at q
      refine ⟨as, O, (rep.same s1).dom, (rep.same s1).tabs, (bvs_length b2).trans (of_decide_eq_true ec), args_still es, b2, ?_⟩
      cases em : m as with
      | ok z => rw [em] at q; exact fun v H' a b c => q v H' (s1.trans a) b (c.back s1)
      | exc k p => rw [em] at q; exact fun v d H' a => q v d H' (s1.trans a)
      | bad => rw [em] at q; exact q.elim
    | false => rw [ec, chk_false] at q; exact q.elim
  | exc k p => exact (args_ne ss k p es).elim
  | bad => rw [es] at q; exact q.elim
variable {k n : Nat} {fa : Addr} {fd : FuncData} {ps ks : List Str} {x : Str} {p : Pos} {m : List S → R S}
theorem de_call (F : FnOk X.prog X.w X.K X.mg X.base (L2.CX X.prog X.w) k fa fd ps (spD X.K C n m)) (hr : Room k X.A) (hg : Gl X x) (hm : X.mg x = some (.ref fa)) (hk : PySem.W.keepIn X.K (.ref fa) = true) (hb : Binds X.K fd ps []) (tk : Takes X W)
    (ha : DA X C W (e :: es) fs) (hdb : (x == ("__debug__" : Str)) = false := by decide) (he : starEach (e :: es) X.env = (false, eval e X.env) :: starEach es X.env := by rfl) (hpl : (backTo pos (starEach es X.env)).any (·.1) = false := by rfl) :
    DE X C W (.Call (.Name x p) (e :: es) [] pos) (kCall n m fs) := by
  refine PE.imp (pe_callSD F hr hg hm hk hb .nil (fun σ => passAt tk σ) ha hdb he hpl) fun σ H Q w => ?_
  have q := callD_core w
  unfold tCallSD
  simpa using q
theorem de_call0 (F : FnOk X.prog X.w X.K X.mg X.base (L2.CX X.prog X.w) k fa fd ps (spD X.K C n m)) (hr : Room k X.A) (hg : Gl X x) (hm : X.mg x = some (.ref fa)) (hk : PySem.W.keepIn X.K (.ref fa) = true) (hb : Binds X.K fd ps [])
    (hx : Passes (L2.CX X.prog X.w) X E0) (hdb : (x == ("__debug__" : Str)) = false := by decide) (hn0 : ∀ k p, m [] ≠ .exc k p) :
    DE X C W (.Call (.Name x p) [] [] pos) (fun _ => chk (decide (0 = n)) (m [])) := by
  refine PE.imp (pe_call0 F hr hg hm hk hb .nil hx hdb) fun σ H Q ⟨δ, O, rep, w⟩ => ?_
  cases ec : decide (0 = n) with
  | true =>
    rw [ec, chk_true] at w
    refine ⟨[], O, rep.dom, rep.tabs, of_decide_eq_true ec, (fun s h => by cases h), .nil, ?_⟩
    cases em : m [] with
    | ok z => rw [em] at w; exact w
    | exc k p => exact (hn0 k p em).elim
    | bad => rw [em] at w; exact w.elim
  | false => rw [ec, chk_false] at w; exact w.elim

/-! f(a=.., b=..): all arguments by keywords; g puts them in order -/
theorem PK.imp {kws : List Keyword} {t t' : TA} (h : PK X kws t) (k : ∀ σ H Q, t' σ H Q → t σ H Q) : PK X kws t' := ⟨fun pos pins s σ H Q I w => h.run pos pins s σ H Q I (k σ H Q w)⟩
abbrev DK (X : Cx) (C : Cfg) (W : WX) (kws : List Keyword) (f : Env → R (List S)) : Prop := PK X kws (tDA X.K C W f)
theorem dk_nil : DK X C W [] aNil := PK.imp pk_nil fun σ H Q ⟨δ, O, rep, w⟩ => w [] H (Sm.refl H) .nil
theorem dk_cons {kws : List Keyword} {nm : Option Str} {kpos : Pos} (ha : DE X C W e f) (hr : DK X C W kws fs) : DK X C W (⟨nm, e, kpos⟩ :: kws) (aCons f fs) := by
  refine PK.imp (pk_cons ha hr) fun σ H Q ⟨δ, O, rep, w⟩ => ?_
  refine seq1 (PQ := PostA X.K C W σ H O Q) rep w (fun k p q => q) (fun q => q) fun s e q v H1 s1 bv fr => ?_
  refine ⟨δ, O, rep.same s1, ?_⟩
  cases ef : fs δ with
  | ok ss => rw [ef] at q; exact fun vs H2 s2 bvs => q (v :: vs) H2 (s1.trans s2) (.cons (bv_same s2 bv) bvs)
  | exc k p => rw [ef] at q; exact fun v d H' z => q v d H' (s1.trans z)
  | bad => rw [ef] at q; exact q.elim
/-- a list put in another order: place j of the new one is place is[j] of the old one -/
def perm {α : Type} (is : List Nat) (xs : List α) : List α := is.filterMap fun i => xs[i]?
theorem vals_perm {xs : List V} {us : List Value} (r : Vals xs us) : ∀ is : List Nat, Vals (perm is xs) (perm is us)
  | [] => .nil
  | i :: is => by
    unfold perm
    rw [List.filterMap_cons, List.filterMap_cons]
    cases e : xs[i]? with
    | none => rw [Vals.none_of r e]; exact vals_perm r is
    | some x =>
      obtain ⟨u, e2, q⟩ := Vals.get r e
      rw [e2]
      exact .cons q (vals_perm r is)
theorem bvs_get {K : PySem.W.Frag} {H : Hp} {O : List Addr} : ∀ {vs : List V} {ss : List S} {i : Nat} {s : S}, BVs K C H O vs ss → ss[i]? = some s → ∃ v, vs[i]? = some v ∧ BV K C H O v s
  | _, _, _, _, .nil, e => by simp at e
  | _, _, 0, _, .cons h _, e => by simp at e; subst e; exact ⟨_, rfl, h⟩
  | _, _, i + 1, x, .cons _ r, e => by
    obtain ⟨v, e1, q⟩ := bvs_get (i := i) (s := x) r (by simpa using e)
    exact ⟨v, by simpa using e1, q⟩
theorem bvs_perm {K : PySem.W.Frag} {H : Hp} {O : List Addr} {vs : List V} {ss : List S} (r : BVs K C H O vs ss) : ∀ is : List Nat, BVs K C H O (perm is vs) (perm is ss)
  | [] => .nil
  | i :: is => by
    unfold perm
    rw [List.filterMap_cons, List.filterMap_cons]
    cases e : ss[i]? with
    | none =>
      have : vs[i]? = none := by
        rw [List.getElem?_eq_none_iff] at e ⊢
        rw [bvs_length r]; exact e
      rw [this]; exact bvs_perm r is
    | some x =>
      obtain ⟨u, e2, q⟩ := bvs_get r e
      rw [e2]
      exact .cons q (bvs_perm r is)
def kPerm (is : List Nat) (fs : Env → R (List S)) : Env → R (List S) := fun δ => do let ss ← fs δ; .ok (perm is ss)
theorem run_K {pins : List (Addr × Obj)} {σ : L2.St} {H : Hp} {s : Shared} {Q : VK} {us : List Value} {vs : List V} {sp : Sp} {E : XK} {is : List Nat} (F : FnOk X.prog X.w X.K X.mg X.base (L2.CX X.prog X.w) k fa fd ps sp) (hr : Room k X.A)
    (hb : ∀ (s : Shared) (ws : List Value), ws.length = ks.length → BindsTo s fd ⟨[], ks.zip ws⟩ (ps.zip (perm is ws))) (hx : PassesAt (L2.CX X.prog X.w) X σ E) (hl : vs.length = ks.length)
    (I : Inv X pins σ H s) (r : Vals vs us) (h : sp (perm is vs) H Q E) : wpAny (model X.prog X.w) X.A (call (.ref fa) [] (ks.zip us)) (EP X pins σ Q) X.xe s := by
  refine wpAny_call (codeAny_mono (F.run X.A X.stack s H ⟨[], ks.zip us⟩ (perm is us) (perm is vs) Q E hr I.env0 (hb s us (r.length.symm.trans hl)) (vals_perm r is) h) fun r s' hq => ?_)
  cases r with
  | error e => exact hx pins H s e s' I hq
  | ok fl =>
    cases fl with
    | ret u => exact I.after hq
    | next => exact False.elim hq
    | brk => exact False.elim hq
    | cont => exact False.elim hq
def kCallK (n nk : Nat) (m : List S → R S) (is : List Nat) (fs : Env → R (List S)) : Env → R S := fun δ => do let ss ← fs δ; chk (decide (ss.length = nk)) (do let as ← argsS (perm is ss); chk (decide (as.length = n)) (m as))
theorem de_callK {kws : List Keyword} {is : List Nat} (F : FnOk X.prog X.w X.K X.mg X.base (L2.CX X.prog X.w) k fa fd ps (spD X.K C n m)) (hr : Room k X.A) (hg : Gl X x) (hm : X.mg x = some (.ref fa)) (hk : PySem.W.keepIn X.K (.ref fa) = true)
    (hb : ∀ (s : Shared) (ws : List Value), ws.length = ks.length → BindsTo s fd ⟨[], ks.zip ws⟩ (ps.zip (perm is ws))) (tk : Takes X W)
    (hkw : DK X C W kws fs) (hdb : (x == ("__debug__" : Str)) = false := by decide) (hall : (backToKw pos (keywordEach kws X.env)).all (·.1.isSome) = true := by rfl) (hks : (backToKw pos (keywordEach kws X.env)).filterMap (·.1) = ks := by rfl)
    (hpl : ((backTo pos (starEach [] X.env)).any (·.1) || (backToKw pos (keywordEach kws X.env)).any (·.1.isNone)) = false := by rfl) :
    DE X C W (.Call (.Name x p) [] kws pos) (kCallK n ks.length m is fs) := by
  refine ⟨fun pins s σ H Q I w => ?_⟩
  refine wpAny_Call_Name_kw (ld_glob I hg hm ?_ hdb)
  have q : tDA X.K C W fs σ H fun vs H1 => vs.length = ks.length ∧ spD X.K C n m (perm is vs) H1 Q (WE W σ) := by
    obtain ⟨δ, O, rep, w⟩ := w
    refine seqA (PQ := Post X.K C W σ H O Q) rep w (fun k p q => q) (fun q => q) fun ss e q vs H1 s1 bvs => ?_
    cases e1 : decide (ss.length = ks.length) with
    | false => rw [e1, chk_false] at q; exact q.elim
    | true =>
      rw [e1, chk_true] at q
      refine ⟨(bvs_length bvs).trans (of_decide_eq_true e1), ?_⟩
      have bp := bvs_perm bvs is
      cases es : argsS (perm is ss) with
      | ok as =>
        rw [es] at q
        simp only [R.ok_bind] at q
        have b2 := bvs_args bp es
        cases ec : decide (as.length = n) with
        | true =>
          rw [ec, chk_true] at q
          refine ⟨as, O, (rep.same s1).dom, (rep.same s1).tabs, (bvs_length b2).trans (of_decide_eq_true ec), args_still es, b2, ?_⟩
          cases em : m as with
          | ok z => rw [em] at q; exact fun v H' a b c => q v H' (s1.trans a) b (c.back s1)
          | exc k p => rw [em] at q; exact fun v d H' a => q v d H' (s1.trans a)
          | bad => rw [em] at q; exact q.elim
        | false => rw [ec, chk_false] at q; exact q.elim
      | exc k p => exact (args_ne _ k p es).elim
      | bad => rw [es] at q; exact q.elim
  refine PySem.W.callWith_KW0 (h₀ := X.base) I.ok.mod.kin hk hall (thn (hkw.run pos pins s σ H _ I q) fun ws s2 ⟨zs, H2, I2, rz, q2⟩ => ⟨I2.kIn, ?_⟩) hpl
  rw [hks]
  exact run_K F hr hb (passAt tk σ) q2.1 I2 rz q2.2
end
end DL

set_option Elab.async false
set_option linter.all false
set_option maxRecDepth 100000
set_option maxHeartbeats 1000000
/-! DL4: statements, defs. -/
namespace DL
open PySem PySem.Spec L2

/-- the slots within a def: B what stood at its entry (without what it may change), O₀ the places of others, pn the parameters that it changes -/
structure Rp (K : PySem.W.Frag) (C : Cfg) (B : Hp) (O₀ : List Addr) (pn : List (Nat × Addr)) (H : Hp) (O : List Addr) (δ : Env) (σ : St) : Prop where
  len : δ.length = σ.length
  slot : ∀ (i : Nat) s, δ[i]? = some (some s) → (s.still = true ∨ s.own = true) ∧ ∃ v, σ[i]? = some (some v) ∧ BV K C H O v s
  uniq : ∀ (i j : Nat) a s t, δ[i]? = some (some s) → δ[j]? = some (some t) → s.own = true → t.own = true → σ[i]? = some (some (.ref a)) → σ[j]? = some (some (.ref a)) → i = j
  ownB : ∀ (i : Nat) a s, δ[i]? = some (some s) → s.own = true → σ[i]? = some (some (.ref a)) → Nn B a ∧ ((i, a) ∈ pn ∨ a ∉ O₀)
  dom : Dom H O
  base : Sm C B H
  sub : ∀ a ∈ O₀, a ∈ O
  new : ∀ a ∈ O, a ∈ O₀ ∨ Nn B a
  pin : ∀ p ∈ pn, σ[p.1]? = some (some (.ref p.2))
  tabs : LamX.Tabs C.T H
/-- a list, a dict -/
def LD : HO → Prop
  | .lst _ => True
  | .dK _ => True
  | .ins _ _ _ => True
  | _ => False
theorem tabs_upd {T : List (Addr × Str)} {H : Hp} {a : Addr} {o u : HO} (t : LamX.Tabs T H) (h : H a = some o) (n : LD o) : LamX.Tabs T (upd H a u) := fun p hp => by
  obtain ⟨ps, h1, h2, h3⟩ := t p hp
  refine ⟨ps, ?_, h2, fun pos cv hc => ?_⟩
  · rw [upd_ne]
    · exact h1
    · intro z; rw [z, h] at h1; cases h1; exact n
  · obtain ⟨c, e1, e2⟩ := h3 pos cv hc
    refine ⟨c, e1, ?_⟩
    rw [upd_ne]
    · exact e2
    · intro z; rw [z, h] at e2; cases e2; exact n
theorem sm_upd {C : Cfg} {B H : Hp} {a : Addr} {o u : HO} (e : Sm C B H) (hb : Nn B a) (h : H a = some o) (n : LD o) : Sm C B (upd H a u) :=
  ⟨fun b w q m => by rw [upd_ne (hb.ne q m)]; exact e.kp b w q m, fun t => tabs_upd (e.ts t) h n⟩
section
variable {K : PySem.W.Frag} {C : Cfg} {B H H' : Hp} {O₀ O O' : List Addr} {pn : List (Nat × Addr)} {δ : Env} {σ : St}
theorem still_not_own {s : S} (h : s.still = true) : s.own = false := by
  cases s with
  | d => rfl
  | obj => rfl
  | l m ds => cases h
  | k m ds => cases h
theorem Rp.rep (r : Rp K C B O₀ pn H O δ σ) : Rep K C H O δ σ := ⟨r.len, r.slot, r.uniq, r.dom, r.tabs⟩
theorem Rep.rp (r : Rep K C H O δ σ) : Rp K C (fun _ => none) [] [] H O δ σ where
  len := r.len
  slot := r.slot
  uniq := r.uniq
  ownB := fun _ _ _ _ _ _ => ⟨.of rfl, Or.inr (by simp)⟩
  dom := r.dom
  base := ⟨fun _ _ e => (by cases e), fun _ => r.tabs⟩
  sub := fun _ h => by cases h
  new := fun _ _ => Or.inr (.of rfl)
  pin := fun _ h => by cases h
  tabs := r.tabs
theorem Rp.same (r : Rp K C B O₀ pn H O δ σ) (e : Sm C H H') : Rp K C B O₀ pn H' O δ σ :=
  ⟨r.len, fun i s h => let ⟨q, v, a, b⟩ := r.slot i s h; ⟨q, v, a, bv_same e b⟩, r.uniq, r.ownB, r.dom.same e, r.base.trans e, r.sub, r.new, r.pin, e.ts r.tabs⟩
/-- a slot gets a value that stands still -/
theorem Rp.set (r : Rp K C B O₀ pn H O δ σ) {i : Nat} {s : S} {v : V} (hs : s.still = true) (bv : BV K C H O v s) (hi : ∀ p ∈ pn, p.1 ≠ i) : Rp K C B O₀ pn H O (δ.set i (some s)) (σ.set i (some v)) := by
  have nl := r.len
  refine ⟨by simp [nl], fun j t h => ?_, fun j l a t u h1 h2 o1 o2 e1 e2 => ?_, fun j a t h o e => ?_, r.dom, r.base, r.sub, r.new, fun p hp => ?_, r.tabs⟩
  · by_cases hj : i = j
    · subst hj
      have hlt : i < δ.length := by
        by_cases z : i < δ.length
        · exact z
        · rw [List.getElem?_eq_none (by simp; omega)] at h; cases h
      rw [List.getElem?_set_self hlt] at h
      cases h
      exact ⟨.inl hs, v, List.getElem?_set_self (by omega), bv⟩
    · rw [List.getElem?_set_ne hj] at h
      rw [List.getElem?_set_ne hj]
      exact r.slot j t h
  · have n1 : i ≠ j := fun z => by
      subst z
      have hlt : i < δ.length := by
        by_cases z : i < δ.length
        · exact z
        · rw [List.getElem?_eq_none (by simp; omega)] at h1; cases h1
      rw [List.getElem?_set_self hlt] at h1
      cases h1
      rw [still_not_own hs] at o1; cases o1
    have n2 : i ≠ l := fun z => by
      subst z
      have hlt : i < δ.length := by
        by_cases z : i < δ.length
        · exact z
        · rw [List.getElem?_eq_none (by simp; omega)] at h2; cases h2
      rw [List.getElem?_set_self hlt] at h2
      cases h2
      rw [still_not_own hs] at o2; cases o2
    rw [List.getElem?_set_ne n1] at h1 e1
    rw [List.getElem?_set_ne n2] at h2 e2
    exact r.uniq j l a t u h1 h2 o1 o2 e1 e2
  · have n1 : i ≠ j := fun z => by
      subst z
      have hlt : i < δ.length := by
        by_cases z : i < δ.length
        · exact z
        · rw [List.getElem?_eq_none (by simp; omega)] at h; cases h
      rw [List.getElem?_set_self hlt] at h
      cases h
      rw [still_not_own hs] at o; cases o
    rw [List.getElem?_set_ne n1] at h e
    exact r.ownB j a t h o e
  · rw [List.getElem?_set_ne (Ne.symm (hi p hp))]
    exact r.pin p hp
theorem own_ld {v : V} {s : S} (h : BV K C H O v s) (o : s.own = true) : ∃ a u, v = .ref a ∧ a ∈ O ∧ H a = some u ∧ LD u := by
  cases h with
  | d => cases o
  | fl => cases o
  | ol h1 h2 _ => exact ⟨_, _, rfl, h1, h2, trivial⟩
  | fk => cases o
  | ok h1 h2 _ => exact ⟨_, _, rfl, h1, h2, trivial⟩
  | obj => cases o
theorem own_ref {v : V} {s : S} (h : BV K C H O v s) (o : s.own = true) : ∃ a, v = .ref a ∧ a ∈ O ∧ ∃ u, H a = some u := by
  cases h with
  | d => cases o
  | fl => cases o
  | ol h1 h2 _ => exact ⟨_, rfl, h1, _, h2⟩
  | fk => cases o
  | ok h1 h2 _ => exact ⟨_, rfl, h1, _, h2⟩
  | obj => cases o
/-- one more place of one's own -/
theorem bv_more {a : Addr} {v : V} {s : S} (h : BV K C H O v s) (e : Sm C H H') (ha : Nn H a) (hs : s.still = true ∨ s.own = true) : BV K C H' (a :: O) v s := by
  have sm : Same (Hm H O) (Hm H' (a :: O)) := fun b u q => by
    obtain ⟨m, q'⟩ := hm_some q
    exact hm_mk (by simp [ha.ne q' (hm_nt q), m]) (e.kp _ _ q' (hm_nt q)) (hm_nt q)
  cases h with
  | d h => exact .d (dp_same sm h)
  | fl => rcases hs with hs | hs <;> cases hs
  | ol h1 h2 h3 => exact .ol (List.mem_cons_of_mem _ h1) (e.at h2) (dpa_same sm h3)
  | fk => rcases hs with hs | hs <;> cases hs
  | ok h1 h2 h3 => exact .ok (List.mem_cons_of_mem _ h1) (e.at h2) (kv_same sm h3)
  | obj h1 h2 => exact .obj (sm _ _ h1) (fs_same sm h2)
theorem set_lt {α : Type} {l : List α} {i : Nat} {x y : α} (h : (l.set i x)[i]? = some y) : i < l.length := by
  by_cases z : i < l.length
  · exact z
  · rw [List.getElem?_eq_none (by simp; omega)] at h; cases h
/-- a slot gets a new list, a new dict as its own -/
theorem Rp.setOwn (r : Rp K C B O₀ pn H O δ σ) {i : Nat} {s : S} {a : Addr} (e : Sm C H H') (ho : s.own = true) (ha : Nn H a) (hm : ∃ u, H' a = some u ∧ Mut (some u)) (bv : BV K C H' (a :: O) (.ref a) s) (hi : ∀ p ∈ pn, p.1 ≠ i) :
    Rp K C B O₀ pn H' (a :: O) (δ.set i (some s)) (σ.set i (some (.ref a))) := by
  have nl := r.len
  have hb : Nn B a := r.base.free ha
  have nO : a ∉ O := fun m => by obtain ⟨o, p, q⟩ := r.dom a m; exact ha o p (mut_nt q)
  have other : ∀ (j : Nat) t, δ[j]? = some (some t) → t.own = true → σ[j]? = some (some (.ref a)) → False := fun j t h o e' => by
    obtain ⟨_, v, e2, b⟩ := r.slot j t h
    rw [e'] at e2
    cases e2
    obtain ⟨a', u, h1, h2, h3, ld⟩ := own_ld b o
    cases h1
    exact ha u h3 fun ps z => by subst z; exact ld
  refine ⟨by simp [nl], fun j t h => ?_, fun j l b t u h1 h2 o1 o2 e1 e2 => ?_, fun j b t h o e' => ?_, fun b hb => ?_, r.base.trans e, fun b hb => List.mem_cons_of_mem _ (r.sub b hb), fun b hb' => ?_, fun p hp => ?_, e.ts r.tabs⟩
  · by_cases hj : i = j
    · subst hj
      have hlt := set_lt h
      rw [List.getElem?_set_self hlt] at h
      cases h
      exact ⟨.inr ho, _, List.getElem?_set_self (by omega), bv⟩
    · rw [List.getElem?_set_ne hj] at h
      rw [List.getElem?_set_ne hj]
      obtain ⟨q, v, e2, b⟩ := r.slot j t h
      exact ⟨q, v, e2, bv_more b e ha q⟩
  · by_cases hj : i = j
    · by_cases hl : i = l
      · rw [← hj, ← hl]
      · subst hj
        rw [List.getElem?_set_self (by have := set_lt e1; exact this)] at e1
        cases e1
        rw [List.getElem?_set_ne hl] at h2 e2
        exact (other l u h2 o2 e2).elim
    · by_cases hl : i = l
      · subst hl
        rw [List.getElem?_set_self (by have := set_lt e2; exact this)] at e2
        cases e2
        rw [List.getElem?_set_ne hj] at h1 e1
        exact (other j t h1 o1 e1).elim
      · rw [List.getElem?_set_ne hj] at h1 e1
        rw [List.getElem?_set_ne hl] at h2 e2
        exact r.uniq j l b t u h1 h2 o1 o2 e1 e2
  · by_cases hj : i = j
    · subst hj
      rw [List.getElem?_set_self (by have := set_lt e'; exact this)] at e'
      cases e'
      exact ⟨hb, .inr fun z => nO (r.sub _ z)⟩
    · rw [List.getElem?_set_ne hj] at h e'
      exact r.ownB j b t h o e'
  · rcases List.mem_cons.mp hb with rfl | hb
    · exact hm
    · exact r.dom.same e b hb
  · rcases List.mem_cons.mp hb' with rfl | hb'
    · exact .inr hb
    · exact r.new b hb'
  · rw [List.getElem?_set_ne (Ne.symm (hi p hp))]
    exact r.pin p hp
/-- what one owns is changed -/
theorem Rp.upd (r : Rp K C B O₀ pn H O δ σ) {i : Nat} {s t : S} {a : Addr} {u : HO} (h : δ[i]? = some (some s)) (ho : s.own = true) (e : σ[i]? = some (some (.ref a))) (hu : Mut (some u)) (ht : t.own = true) (bv : BV K C (upd H a u) O (.ref a) t) :
    Rp K C B O₀ pn (upd H a u) O (δ.set i (some t)) σ := by
  have nl := r.len
  obtain ⟨_, v, e2, b⟩ := r.slot i s h
  rw [e] at e2
  cases e2
  obtain ⟨a', w, h1, aO, aw, ld⟩ := own_ld b ho
  cases h1
  have hb := (r.ownB i a s h ho e).1
  have hlt : i < δ.length := (List.getElem?_eq_some_iff.mp h).1
  refine ⟨by simp [nl], fun j x hx => ?_, fun j l b x y h1 h2 o1 o2 e1 e2 => ?_, fun j b x hx o e' => ?_, fun b hb => ?_, sm_upd r.base hb aw ld, r.sub, r.new, r.pin, tabs_upd r.tabs aw ld⟩
  · by_cases hj : i = j
    · subst hj
      rw [List.getElem?_set_self hlt] at hx
      cases hx
      exact ⟨.inr ht, _, e, bv⟩
    · rw [List.getElem?_set_ne hj] at hx
      obtain ⟨q, v, e2, b2⟩ := r.slot j x hx
      refine ⟨q, v, e2, ?_⟩
      cases b2 with
      | d h => exact .d (by rw [hm_upd aO]; exact h)
      | fl => rcases q with q | q <;> cases q
      | fk => rcases q with q | q <;> cases q
      | obj g1 g2 => exact .obj (by rw [hm_upd aO]; exact g1) (by rw [hm_upd aO]; exact g2)
      | ol g1 g2 g3 =>
        refine .ol g1 ?_ (by rw [hm_upd aO]; exact g3)
        rw [upd_ne]
        · exact g2
        · intro z
          subst z
          exact hj (r.uniq i j _ s _ h hx ho rfl e e2)
      | ok g1 g2 g3 =>
        refine .ok g1 ?_ (by rw [hm_upd aO]; exact g3)
        rw [upd_ne]
        · exact g2
        · intro z
          subst z
          exact hj (r.uniq i j _ s _ h hx ho rfl e e2)
  · have g1 : ∃ x', δ[j]? = some (some x') ∧ x'.own = true := by
      by_cases hj : i = j
      · subst hj; exact ⟨s, h, ho⟩
      · rw [List.getElem?_set_ne hj] at h1; exact ⟨x, h1, o1⟩
    have g2 : ∃ x', δ[l]? = some (some x') ∧ x'.own = true := by
      by_cases hj : i = l
      · subst hj; exact ⟨s, h, ho⟩
      · rw [List.getElem?_set_ne hj] at h2; exact ⟨y, h2, o2⟩
    obtain ⟨x', g1, o1'⟩ := g1
    obtain ⟨y', g2, o2'⟩ := g2
    exact r.uniq j l b x' y' g1 g2 o1' o2' e1 e2
  · by_cases hj : i = j
    · subst hj; exact r.ownB i b s h ho e'
    · rw [List.getElem?_set_ne hj] at hx; exact r.ownB j b x hx o e'
  · by_cases z : b = a
    · subst z; exact ⟨u, upd_same, hu⟩
    · obtain ⟨o, p, q⟩ := r.dom b hb; exact ⟨o, by rw [upd_ne z]; exact p, q⟩
/-- a slot is emptied -/
theorem Rp.gone (r : Rp K C B O₀ pn H O δ σ) {i : Nat} {v : Option V} (hi : ∀ p ∈ pn, p.1 ≠ i) : Rp K C B O₀ pn H O (δ.set i none) (σ.set i v) := by
  have nl := r.len
  have ne : ∀ (j : Nat) t, (δ.set i none)[j]? = some (some t) → i ≠ j := fun j t h z => by
    subst z
    rw [List.getElem?_set_self (set_lt h)] at h
    cases h
  refine ⟨by simp [nl], fun j t h => ?_, fun j l b x y h1 h2 o1 o2 e1 e2 => ?_, fun j b x hx o e' => ?_, r.dom, r.base, r.sub, r.new, fun p hp => ?_, r.tabs⟩
  · have n := ne j t h
    rw [List.getElem?_set_ne n] at h ⊢
    exact r.slot j t h
  · have n := ne j x h1
    have n' := ne l y h2
    rw [List.getElem?_set_ne n] at h1 e1
    rw [List.getElem?_set_ne n'] at h2 e2
    exact r.uniq j l b x y h1 h2 o1 o2 e1 e2
  · have n := ne j x hx
    rw [List.getElem?_set_ne n] at hx e'
    exact r.ownB j b x hx o e'
  · rw [List.getElem?_set_ne (Ne.symm (hi p hp))]
    exact r.pin p hp
/-- a slot of δ is forgotten -/
theorem Rp.forget (r : Rp K C B O₀ pn H O δ σ) (i : Nat) : Rp K C B O₀ pn H O (δ.set i none) σ := by
  have nl := r.len
  have ne : ∀ (j : Nat) t, (δ.set i none)[j]? = some (some t) → i ≠ j := fun j t h z => by
    subst z
    rw [List.getElem?_set_self (set_lt h)] at h
    cases h
  refine ⟨by simp [nl], fun j t h => ?_, fun j l b x y h1 h2 o1 o2 e1 e2 => ?_, fun j b x hx o e' => ?_, r.dom, r.base, r.sub, r.new, r.pin, r.tabs⟩
  · have n := ne j t h
    rw [List.getElem?_set_ne n] at h
    exact r.slot j t h
  · have n := ne j x h1
    have n' := ne l y h2
    rw [List.getElem?_set_ne n] at h1
    rw [List.getElem?_set_ne n'] at h2
    exact r.uniq j l b x y h1 h2 o1 o2 e1 e2
  · have n := ne j x hx
    rw [List.getElem?_set_ne n] at hx
    exact r.ownB j b x hx o e'
/-- a place is no more one's own -/
theorem Rp.drop (r : Rp K C B O₀ pn H O δ σ) {a : Addr} (h : ∀ (j : Nat) s, δ[j]? = some (some s) → s.own = true → σ[j]? ≠ some (some (.ref a))) (ha : a ∉ O₀) : Rp K C B O₀ pn H (O.filter fun b => decide (b ≠ a)) δ σ := by
  have mem : ∀ b, b ∈ O.filter (fun b => decide (b ≠ a)) ↔ b ∈ O ∧ b ≠ a := fun b => by simp
  have sm : Same (Hm H O) (Hm H (O.filter fun b => decide (b ≠ a))) := hm_sub fun b z => ((mem b).mp z).1
  refine ⟨r.len, fun j t e => ?_, r.uniq, r.ownB, fun b hb => r.dom b ((mem b).mp hb).1, r.base, fun b hb => (mem b).mpr ⟨r.sub b hb, fun z => ha (z ▸ hb)⟩, fun b hb => r.new b ((mem b).mp hb).1, r.pin, r.tabs⟩
  obtain ⟨q, v, e2, b2⟩ := r.slot j t e
  refine ⟨q, v, e2, ?_⟩
  cases b2 with
  | d h => exact .d (dp_same sm h)
  | fl => rcases q with q | q <;> cases q
  | fk => rcases q with q | q <;> cases q
  | obj g1 g2 => exact .obj (sm _ _ g1) (fs_same sm g2)
  | ol g1 g2 g3 => exact .ol ((mem _).mpr ⟨g1, fun z => h j _ e rfl (by rw [← z]; exact e2)⟩) g2 (dpa_same sm g3)
  | ok g1 g2 g3 => exact .ok ((mem _).mpr ⟨g1, fun z => h j _ e rfl (by rw [← z]; exact e2)⟩) g2 (kv_same sm g3)
end

/-! ### outcomes of statements -/
inductive SR where
  | next (δ : Env)
  | ret (s : S) (δ : Env)
  | brk (δ : Env)
  | cnt (δ : Env)
  | exc (k : Nat) (p : PyData) (δ : Env)
  | bad
/-- what stands still at (H, O) does so at (H', O') -/
abbrev Stay (H : Hp) (O : List Addr) (H' : Hp) (O' : List Addr) : Prop := Same (Hm H O) (Hm H' O')
def PostS (K : PySem.W.Frag) (C : Cfg) (W : WX) (B : Hp) (O₀ : List Addr) (pn : List (Nat × Addr)) (D : Ends) (H : Hp) (O : List Addr) : SR → Prop
  | .next δ => ∀ σ' H' O', Stay H O H' O' → Rp K C B O₀ pn H' O' δ σ' → D.nx σ' H'
  | .brk δ => ∀ σ' H' O', Stay H O H' O' → Rp K C B O₀ pn H' O' δ σ' → D.bk σ' H'
  | .cnt δ => ∀ σ' H' O', Stay H O H' O' → Rp K C B O₀ pn H' O' δ σ' → D.ct σ' H'
  | .ret s δ => ∀ v σ' H' O', Stay H O H' O' → Rp K C B O₀ pn H' O' δ σ' → BV K C H' O' v s → Fresh B v s → D.rt v H'
  | .exc k p δ => ∀ v d σ' H' O', Stay H O H' O' → Rp K C B O₀ pn H' O' δ σ' → H' d = some (.xd [(C.fld k, v)]) → Dp K (Hm H' O') v p → W (.ref (C.exc k)) (some d) σ' H'
  | .bad => False
def tS (K : PySem.W.Frag) (C : Cfg) (W : WX) (io : List Nat) (f : Env → SR) : TS := fun D σ H => ∃ B O₀ pn δ O, pn.map (·.1) = io ∧ Rp K C B O₀ pn H O δ σ ∧ PostS K C W B O₀ pn D H O (f δ)
abbrev DS (X : Cx) (C : Cfg) (W : WX) (io : List Nat) (st : Stmt) (f : Env → SR) : Prop := PS X st (tS X.K C W io f)
abbrev DSs (X : Cx) (C : Cfg) (W : WX) (io : List Nat) (st : List Stmt) (f : Env → SR) : Prop := PSs X st (tS X.K C W io f)
section
variable {K : PySem.W.Frag} {C : Cfg} {W : WX} {B H H' : Hp} {O₀ O O' : List Addr} {pn : List (Nat × Addr)} {D : Ends} {δ : Env} {σ : St}
theorem Stay.refl (H : Hp) (O : List Addr) : Stay H O H O := Same.refl _
theorem Stay.of (e : Sm C H H') : Stay H O H' O := hm_same e
theorem postS_mono (e : Stay H O H' O') : ∀ {r : SR}, PostS K C W B O₀ pn D H O r → PostS K C W B O₀ pn D H' O' r
  | .next δ, h => fun σ' H2 O2 a => h σ' H2 O2 (Same.trans e a)
  | .brk δ, h => fun σ' H2 O2 a => h σ' H2 O2 (Same.trans e a)
  | .cnt δ, h => fun σ' H2 O2 a => h σ' H2 O2 (Same.trans e a)
  | .ret s δ, h => fun v σ' H2 O2 a => h v σ' H2 O2 (Same.trans e a)
  | .exc k p δ, h => fun v d σ' H2 O2 a => h v d σ' H2 O2 (Same.trans e a)
  | .bad, h => h
/-- an expression, then what depends on it -/
def sE (f : Env → R S) (g : S → Env → SR) : Env → SR := fun δ => match f δ with
  | .ok s => g s δ
  | .exc k p => .exc k p δ
  | .bad => .bad
def sT (f : Env → R Bool) (g : Bool → Env → SR) : Env → SR := fun δ => match f δ with
  | .ok s => g s δ
  | .exc k p => .exc k p δ
  | .bad => .bad
def sA (f : Env → R (List S)) (g : List S → Env → SR) : Env → SR := fun δ => match f δ with
  | .ok s => g s δ
  | .exc k p => .exc k p δ
  | .bad => .bad
theorem runE {f : Env → R S} {g : S → Env → SR} {Q : VK} (rp : Rp K C B O₀ pn H O δ σ) (h : PostS K C W B O₀ pn D H O (sE f g δ))
    (ho : ∀ s, f δ = .ok s → PostS K C W B O₀ pn D H O (g s δ) → ∀ v H1, Sm C H H1 → BV K C H1 O v s → Fresh H v s → Q v H1) : tD K C W f σ H Q := by
  refine ⟨δ, O, rp.rep, ?_⟩
  unfold sE at h
  cases e : f δ with
  | ok s => rw [e] at h; exact ho s e h
  | exc k p => rw [e] at h; exact fun v d H' a => h v d σ H' O (hm_same a) (rp.same a)
  | bad => rw [e] at h; exact h.elim
theorem runT {f : Env → R Bool} {g : Bool → Env → SR} {Q : Bool → Hp → Prop} (rp : Rp K C B O₀ pn H O δ σ) (h : PostS K C W B O₀ pn D H O (sT f g δ))
    (ho : ∀ s, f δ = .ok s → PostS K C W B O₀ pn D H O (g s δ) → ∀ H1, Sm C H H1 → Q s H1) : tDT K C W f σ H Q := by
  refine ⟨δ, O, rp.rep, ?_⟩
  unfold sT at h
  cases e : f δ with
  | ok s => rw [e] at h; exact ho s e h
  | exc k p => rw [e] at h; exact fun v d H' a => h v d σ H' O (hm_same a) (rp.same a)
  | bad => rw [e] at h; exact h.elim
theorem runA {f : Env → R (List S)} {g : List S → Env → SR} {Q : List V → Hp → Prop} (rp : Rp K C B O₀ pn H O δ σ) (h : PostS K C W B O₀ pn D H O (sA f g δ))
    (ho : ∀ s, f δ = .ok s → PostS K C W B O₀ pn D H O (g s δ) → ∀ v H1, Sm C H H1 → BVs K C H1 O v s → Q v H1) : tDA K C W f σ H Q := by
  refine ⟨δ, O, rp.rep, ?_⟩
  unfold sA at h
  cases e : f δ with
  | ok s => rw [e] at h; exact ho s e h
  | exc k p => rw [e] at h; exact fun v d H' a => h v d σ H' O (hm_same a) (rp.same a)
  | bad => rw [e] at h; exact h.elim
end

/-! ### the rules -/
section
variable {X : Cx} {C : Cfg} {W : WX} {io : List Nat} {st : Stmt} {rest : List Stmt} {e : Expr} {f : Env → R S} {u w : Env → SR} {t : Env → R Bool} {pos : Pos}
def sNext : Env → SR := .next
def sSeq (u w : Env → SR) : Env → SR := fun δ => match u δ with
  | .next δ' => w δ'
  | r => r
theorem seq_core {D : Ends} {σ : St} {H : Hp} (h : tS X.K C W io (sSeq u w) D σ H) : tSeq (tS X.K C W io u) (tS X.K C W io w) D σ H := by
  obtain ⟨B, O₀, pn, δ, O, hio, rp, h⟩ := h
  refine ⟨B, O₀, pn, δ, O, hio, rp, ?_⟩
  unfold sSeq at h
  cases eu : u δ with
  | next δ' => rw [eu] at h; exact fun σ' H' O' a r => ⟨B, O₀, pn, δ', O', hio, r, postS_mono a h⟩
  | ret s δ' => rw [eu] at h; exact h
  | brk δ' => rw [eu] at h; exact h
  | cnt δ' => rw [eu] at h; exact h
  | exc k p δ' => rw [eu] at h; exact h
  | bad => rw [eu] at h; exact h
theorem dss_nil : DSs X C W io [] sNext := PSs.imp pss_nil fun D σ H ⟨B, O₀, pn, δ, O, hio, rp, h⟩ => h σ H O (Stay.refl H O) rp
theorem dss_cons (h1 : DS X C W io st u) (h2 : DSs X C W io rest w) : DSs X C W io (st :: rest) (sSeq u w) := PSs.imp (pss_cons h1 h2) fun D σ H h => seq_core h
theorem dss_one (h1 : DS X C W io st u) : DSs X C W io [st] u := pss_one h1
theorem ds_pass : DS X C W io (.Pass pos) sNext := PS.imp ps_pass fun D σ H ⟨B, O₀, pn, δ, O, hio, rp, h⟩ => h σ H O (Stay.refl H O) rp
theorem ds_doc {x j p p'} : DS X C W io (.Expr (.Constant (.str x) j p) p') sNext := PS.imp ps_doc fun D σ H ⟨B, O₀, pn, δ, O, hio, rp, h⟩ => h σ H O (Stay.refl H O) rp
def sBrk : Env → SR := .brk
def sCnt : Env → SR := .cnt
theorem ds_break : DS X C W io (.Break pos) sBrk := PS.imp ps_break fun D σ H ⟨B, O₀, pn, δ, O, hio, rp, h⟩ => h σ H O (Stay.refl H O) rp
theorem ds_continue : DS X C W io (.Continue pos) sCnt := PS.imp ps_continue fun D σ H ⟨B, O₀, pn, δ, O, hio, rp, h⟩ => h σ H O (Stay.refl H O) rp
/-- e alone -/
def sDrop (f : Env → R S) : Env → SR := sE f fun _ δ => .next δ
theorem ds_expr (he : DE X C W e f) (hs : swapsWith e none pos.line X.env = pure false := by rfl) : DS X C W io (.Expr e pos) (sDrop f) := by
  refine PS.imp (ps_expr he hs) fun D σ H ⟨B, O₀, pn, δ, O, hio, rp, h⟩ => ?_
  exact runE rp h fun s es q v H1 s1 bv fr => q σ H1 O (Stay.of s1) (rp.same s1)
/-- return e -/
def sRet (f : Env → R S) : Env → SR := sE f fun s δ => .ret s δ
theorem ds_ret (he : DE X C W e f) : DS X C W io (.Return (some e) pos) (sRet f) := by
  refine PS.imp (ps_ret he) fun D σ H ⟨B, O₀, pn, δ, O, hio, rp, h⟩ => ?_
  exact runE rp h fun s es q v H1 s1 bv fr => q v σ H1 O (Stay.of s1) (rp.same s1) bv (fr.back rp.base)
theorem ds_retN : DS X C W io (.Return none pos) (fun δ => .ret (.d .none) δ) := PS.imp ps_retN fun D σ H ⟨B, O₀, pn, δ, O, hio, rp, h⟩ => h .non σ H O (Stay.refl H O) rp (.d .non) trivial
/-- return of a list, a dict of one's own: it is let go -/
def S.loose : S → R S
  | .l .ow ds => .ok (.l .fr ds)
  | .k .ow ds => .ok (.k .fr ds)
  | _ => .bad
def sRetO (i : Nat) : Env → SR := fun δ => match δ[i]? with
  | some (some s) => (match s.loose with | .ok z => .ret z (δ.set i none) | _ => .bad)
  | _ => .bad
theorem ds_retO (i : Nat) {x : Str} {p : Pos} (hio : io.contains i = false := by rfl) (hN : X.N[i]? = some x := by rfl) (hv : Vis X.env.scope x := by first | exact Or.inl rfl | exact Or.inr (Or.inl rfl) | exact Or.inr (Or.inr rfl)) (hd : (x == ("__debug__" : Str)) = false := by decide)
    (hcd : (x == ("__classdict__" : Str)) = false := by decide) : DS X C W io (.Return (some (.Name x p)) pos) (sRetO i) := by
  refine PS.imp (ps_ret (pe_var hN hv hd hcd)) fun D σ H ⟨B, O₀, pn, δ, O, hpn, rp, h⟩ => ?_
  unfold sRetO at h
  cases ed : δ[i]? with
  | none => rw [ed] at h; exact h.elim
  | some o => cases o with
    | none => rw [ed] at h; exact h.elim
    | some s =>
      rw [ed] at h
      simp only at h
      obtain ⟨_, v, ev, bv⟩ := rp.slot i s ed
      refine ⟨v, ev, ?_⟩
      have hns : ∀ q ∈ pn, q.1 ≠ i := fun q hq z => by
        have : i ∈ io := by rw [← hpn, ← z]; exact List.mem_map_of_mem hq
        rw [List.contains_iff_mem.mpr this] at hio; cases hio
      have go : ∀ (a : Addr) (z : S), v = .ref a → s.own = true → s.loose = .ok z → (∀ O', a ∉ O' → (∀ b, b ∈ a :: O' ↔ b ∈ a :: O) → BV X.K C H O' v z) → Fresh B v z → D.rt v H := by
        intro a z ea ho ez hz fz
        subst ea
        rw [ez] at h
        have hB := rp.ownB i a s ed ho ev
        have naO : a ∉ O₀ := by
          rcases hB.2 with q | q
          · exact (hns _ q rfl).elim
          · exact q
        have r1 := rp.forget i
        have r2 := r1.drop (a := a) (fun j t e1 o1 e2 => by
          by_cases hj : i = j
          · subst hj
            rw [List.getElem?_set_self (set_lt e1)] at e1
            cases e1
          · rw [List.getElem?_set_ne hj] at e1
            exact hj (rp.uniq i j a s t ed e1 ho o1 ev e2)) naO
        refine h (.ref a) σ H _ ?_ r2 (hz _ (by simp) fun b => ?_) fz
        · exact hm_sub fun b z => by simp at z; exact z.1
        · simp only [List.mem_cons, List.mem_filter, decide_eq_true_eq]
          constructor
          · rintro (q | ⟨q, _⟩)
            · exact .inl q
            · exact .inr q
          · rintro (q | q)
            · exact .inl q
            · by_cases c : b = a
              · exact .inl c
              · exact .inr ⟨q, c⟩
      cases bv with
      | d => exact h.elim
      | fl => exact h.elim
      | fk => exact h.elim
      | obj => exact h.elim
      | ol h1 h2 h3 => exact go _ _ rfl rfl rfl (fun O' n hO => .fl n h2 (dpa_same (hm_sub fun b z => by rcases List.mem_cons.mp ((hO b).mp z) with q | q; exact q ▸ h1; exact q) h3)) ⟨_, rfl, (rp.ownB i _ _ ed rfl ev).1⟩
      | ok h1 h2 h3 => exact go _ _ rfl rfl rfl (fun O' n hO => .fk n h2 (kv_same (hm_sub fun b z => by rcases List.mem_cons.mp ((hO b).mp z) with q | q; exact q ▸ h1; exact q) h3)) ⟨_, rfl, (rp.ownB i _ _ ed rfl ev).1⟩
/-- if -/
def sIf (t : Env → R Bool) (u w : Env → SR) : Env → SR := sT t fun c δ => if c then u δ else w δ
theorem ds_if {c : Expr} {b1 b2 : List Stmt} (hc : DT X C W c t) (ha : DSs X C W io b1 u) (hb : DSs X C W io b2 w) : DS X C W io (.If c b1 b2 pos) (sIf t u w) := by
  refine PS.imp (ps_if hc ha hb) fun D σ H ⟨B, O₀, pn, δ, O, hio, rp, h⟩ => ?_
  refine runT rp h fun k es q H1 s1 => ?_
  cases k with
  | true => rw [if_pos rfl]; exact ⟨B, O₀, pn, δ, O, hio, rp.same s1, postS_mono (Stay.of s1) q⟩
  | false => rw [if_neg Bool.false_ne_true]; exact ⟨B, O₀, pn, δ, O, hio, rp.same s1, postS_mono (Stay.of s1) q⟩
theorem io_ne {io : List Nat} {pn : List (Nat × Addr)} {i : Nat} (hpn : pn.map (·.1) = io) (hio : io.contains i = false) : ∀ q ∈ pn, q.1 ≠ i := fun q hq z => by
  have : i ∈ io := by rw [← hpn, ← z]; exact List.mem_map_of_mem hq
  rw [List.contains_iff_mem.mpr this] at hio; cases hio
/-- x = e, kept as data -/
def sAsg (i : Nat) (f : Env → R S) : Env → SR := sE f fun s δ => match s.arg with
  | .ok z => .next (δ.set i (some z))
  | _ => .bad
theorem asg_core {i : Nat} {D : Ends} {σ : St} {H : Hp} (hi : io.contains i = false) (h : tS X.K C W io (sAsg i f) D σ H) : tAsg (tD X.K C W f) (gName i) D σ H := by
  obtain ⟨B, O₀, pn, δ, O, hpn, rp, h⟩ := h
  refine runE rp h fun s es q v H1 s1 bv fr => ?_
  cases ea : s.arg with
  | ok z => rw [ea] at q; exact q _ H1 O (Stay.of s1) ((rp.same s1).set (arg_still ea) (bv_arg bv ea) (io_ne hpn hi))
  | exc k p => exact (arg_ne s k p ea).elim
  | bad => rw [ea] at q; exact q.elim
theorem ds_asg (i : Nat) {x : Str} {pos' : Pos} (he : DE X C W e f) (hN : X.N.Nodup) (hio : io.contains i = false := by rfl) (hi : X.N[i]? = some x := by rfl) (hx : Loc X.env.scope x := by first | exact Or.inl rfl | exact Or.inr rfl)
    (hs : swapsWith e (some (.Name x pos')) pos.line X.env = pure false := by rfl) (hf : X.fn x = true ∨ X.env.scope.names.lookup x = some .local := by first | exact .inl rfl | exact .inr rfl) : DS X C W io (.Assign [.Name x pos'] e pos) (sAsg i f) :=
  PS.imp (ps_set hN hi hx he hs hf) fun D σ H h => asg_core hio h
/-- x = e, e a new list or dict, kept as one's own -/
def S.keep : S → R S
  | .l .fr ds => .ok (.l .ow ds)
  | .k .fr ds => .ok (.k .ow ds)
  | _ => .bad
def sAsgO (i : Nat) (f : Env → R S) : Env → SR := sE f fun s δ => match s.keep with
  | .ok z => .next (δ.set i (some z))
  | _ => .bad
theorem bv_keep {K : PySem.W.Frag} {H : Hp} {O : List Addr} {v : V} {s z : S} (h : BV K C H O v s) (e : s.keep = .ok z) : z.own = true ∧ ∃ a, v = .ref a ∧ (∃ u, H a = some u ∧ Mut (some u)) ∧ BV K C H (a :: O) v z := by
  cases h with
  | d => cases e
  | obj => cases e
  | ol => cases e
  | ok => cases e
  | fl h1 h2 h3 => cases e; exact ⟨rfl, _, rfl, ⟨_, h2, trivial⟩, .ol List.mem_cons_self h2 h3⟩
  | fk h1 h2 h3 => cases e; exact ⟨rfl, _, rfl, ⟨_, h2, trivial⟩, .ok List.mem_cons_self h2 h3⟩
theorem keep_ne (s : S) : ∀ k p, s.keep ≠ .exc k p := by intro k p; unfold S.keep; split <;> (intro h; cases h)
theorem fresh_keep {H : Hp} {a : Addr} {s z : S} (e : s.keep = .ok z) (f : Fresh H (.ref a) s) : Nn H a := by
  unfold S.keep at e
  split at e
  · obtain ⟨b, q, r⟩ := f; cases q; exact r
  · obtain ⟨b, q, r⟩ := f; cases q; exact r
  · cases e
theorem asgO_core {i : Nat} {D : Ends} {σ : St} {H : Hp} (hi : io.contains i = false) (h : tS X.K C W io (sAsgO i f) D σ H) : tAsg (tD X.K C W f) (gName i) D σ H := by
  obtain ⟨B, O₀, pn, δ, O, hpn, rp, h⟩ := h
  refine runE rp h fun s es q v H1 s1 bv fr => ?_
  cases ea : s.keep with
  | ok z =>
    rw [ea] at q
    obtain ⟨ho, a, rfl, hm, b2⟩ := bv_keep bv ea
    have ha := fresh_keep ea fr
    refine q _ H1 (a :: O) (fun b u x => ?_) (rp.setOwn s1 ho ha hm b2 (io_ne hpn hi))
    obtain ⟨m, x'⟩ := hm_some x
    exact hm_mk (by simp [ha.ne x' (hm_nt x), m]) (s1.kp _ _ x' (hm_nt x)) (hm_nt x)
  | exc k p => exact (keep_ne s k p ea).elim
  | bad => rw [ea] at q; exact q.elim
theorem ds_asgO (i : Nat) {x : Str} {pos' : Pos} (he : DE X C W e f) (hN : X.N.Nodup) (hio : io.contains i = false := by rfl) (hi : X.N[i]? = some x := by rfl) (hx : Loc X.env.scope x := by first | exact Or.inl rfl | exact Or.inr rfl)
    (hs : swapsWith e (some (.Name x pos')) pos.line X.env = pure false := by rfl) (hf : X.fn x = true ∨ X.env.scope.names.lookup x = some .local := by first | exact .inl rfl | exact .inr rfl) : DS X C W io (.Assign [.Name x pos'] e pos) (sAsgO i f) :=
  PS.imp (ps_set hN hi hx he hs hf) fun D σ H h => asgO_core hio h
/-- x op= e of values that stand still -/
def sAug (i : Nat) (g : S → S → R S) (f : Env → R S) : Env → SR := fun δ => match kV i δ with
  | .ok x => sE (fun δ => do let y ← f δ; g x y) (fun s δ => match s.arg with
    | .ok z => .next (δ.set i (some z))
    | _ => .bad) δ
  | _ => .bad
theorem ds_aug (i : Nat) {x : Str} {op : Operator} {g : S → S → R S} {pos' : Pos} (ho : D2 X C (inplaceOp op) g) (he : DE X C W e f) (hN : X.N.Nodup) (hio : io.contains i = false := by rfl) (hi : X.N[i]? = some x := by rfl) (hx : Loc X.env.scope x := by first | exact Or.inl rfl | exact Or.inr rfl)
    (hf : X.fn x = true ∨ X.env.scope.names.lookup x = some .local := by first | exact .inl rfl | exact .inr rfl) : DS X C W io (.AugAssign (.Name x pos') op e pos) (sAug i g f) := by
  refine PS.imp (ps_aug hN hi hx he (show PIp X op (rD2 X.K C g) from ho.op) hf) fun D σ H ⟨B, O₀, pn, δ, O, hpn, rp, h⟩ => ?_
  unfold sAug at h
  rcases kV_cases i δ with ⟨s, ek⟩ | ek
  · rw [ek] at h
    obtain ⟨ed, _⟩ := kV_ok ek
    obtain ⟨_, v, ev, bv⟩ := rp.slot i s ed
    refine ⟨v, ev, δ, O, rp.rep, ?_⟩
    simp only [sE] at h
    cases ef : f δ with
    | ok y =>
      rw [ef] at h
      simp only [R.ok_bind] at h
      intro w H1 s1 bw fw
      cases eg : g s y with
      | ok z =>
        rw [eg] at h
        simp only at h
        refine ⟨O, s, y, z, (rp.same s1).dom, (rp.same s1).tabs, bv_same s1 bv, bw, eg, fun v2 H2 s2 b2 f2 => ?_⟩
        cases ea : z.arg with
        | ok z' => rw [ea] at h; exact h _ H2 O (Stay.of (s1.trans s2)) ((rp.same (s1.trans s2)).set (arg_still ea) (bv_arg b2 ea) (io_ne hpn hio))
        | exc k p => exact (arg_ne _ k p ea).elim
        | bad => rw [ea] at h; exact h.elim
      | exc k p => exact (ho.nx _ _ _ _ eg).elim
      | bad => rw [eg] at h; exact h.elim
    | exc k p => rw [ef] at h; simp only [R.exc_bind] at h; exact fun v d H' a => h v d σ H' O (hm_same a) (rp.same a)
    | bad => rw [ef] at h; exact h.elim
  · rw [ek] at h; exact h.elim
/-- x.append(e), x one's own -/
def sApp (i : Nat) (f : Env → R S) : Env → SR := fun δ => match δ[i]? with
  | some (some (.l .ow ds)) => sE f (fun s δ => match s.pd with
    | .ok x => (match decide (ds.length ≤ 1000000) with | true => .next (δ.set i (some (.l .ow (ds ++ [x])))) | false => .bad)
    | _ => .bad) δ
  | _ => .bad
theorem ds_app (i : Nat) {x : Str} {p apos cpos : Pos} (he : DE X C W e f) (hN : X.N[i]? = some x := by rfl) (hv : Vis X.env.scope x := by first | exact Or.inl rfl | exact Or.inr (Or.inl rfl) | exact Or.inr (Or.inr rfl))
    (hd : (x == ("__debug__" : Str)) = false := by decide) (hcd : (x == ("__classdict__" : Str)) = false := by decide)
    (hbase : attributeBase (.Name x p) "append" X.env (eval (.Name x p) X.env) = eval (.Name x p) X.env := by rfl)
    (hfew : ((backTo cpos (starEach [e] X.env)).all (fun x => !x.1) && (backToKw cpos (keywordEach [] X.env)).all (fun x => x.1.isSome)
      && decide (([e] : List Expr).length + ([] : List Keyword).length + (if ([] : List Keyword).isEmpty then 0 else 1) < 30)) = true := by rfl)
    (hline : (apos.endLine == cpos.line) = true := by rfl) (hs : starEach (e :: []) X.env = (false, eval e X.env) :: starEach [] X.env := by rfl) (hplain : (backTo cpos (starEach [] X.env)).any (·.1) = false := by rfl)
    (hsw : swapsWith (.Call (.Attribute (.Name x p) "append" apos) [e] [] cpos) none pos.line X.env = pure false := by rfl) :
    DS X C W io (.Expr (.Call (.Attribute (.Name x p) "append" apos) [e] [] cpos) pos) (sApp i f) := by
  refine PS.imp (ps_expr (pe_bm PySem.F.plainAttrs_list PySem.F.slot_list_append PySem.F.type_list_append mt_append (pe_var hN hv hd hcd) (pa_cons he pa_nil hs) hbase hfew hline hs hplain) hsw) fun D σ H ⟨B, O₀, pn, δ, O, hpn, rp, h⟩ => ?_
  unfold sApp at h
  split at h
  · rename_i ds ed
    obtain ⟨_, v, ev, bv⟩ := rp.slot i _ ed
    cases bv with
    | ol h1 h2 h3 =>
      rename_i a xs
      refine ⟨_, ev, .inl ⟨rfl, _, SqL.of h2⟩, ?_⟩
      refine runE rp h fun s es q v H1 s1 bv fr => ?_
      cases ep : s.pd with
      | ok y =>
        rw [ep] at q
        simp only at q
        cases ec : decide (ds.length ≤ 1000000) with
        | true =>
          rw [ec] at q
          simp only at q
          have hl := of_decide_eq_true ec
          have r1 := rp.same s1
          have l := dpa_length h3
          refine ⟨a, xs, v, rfl, rfl, s1.at h2, small_lineS (by omega), ?_⟩
          have bn : BV X.K C (upd H1 a (.lst (xs ++ [v]))) O (.ref a) (.l .ow (ds ++ [y])) := .ol h1 upd_same (by rw [hm_upd h1]; exact dpa_app (dpa_same (hm_same s1) h3) (.cons (bv_pd bv ep) .nil))
          exact q _ _ O (by rw [Stay, hm_upd h1]; exact hm_same s1) (r1.upd ed rfl ev trivial rfl bn)
        | false => rw [ec] at q; exact q.elim
      | exc k p => exact (pd_ne _ k p ep).elim
      | bad => rw [ep] at q; exact q.elim
  · exact h.elim

/-! ### defs -/
/-- as it is handed back -/
def S.out : S → R S
  | .l .ow _ => .bad
  | .k .ow _ => .bad
  | s => .ok s
def fin : SR → R S
  | .next _ => .ok (.d .none)
  | .ret s _ => s.out
  | .exc k p _ => .exc k p
  | _ => .bad
abbrev WF (E : XK) : WX := fun cls d _ H => E cls d H
/-- the slots at the entry -/
def entry (n : Nat) (as : List S) : Env := as.map some ++ List.replicate (n - as.length) none
theorem def_core {K : PySem.W.Frag} {C : Cfg} {N : List Str} {n : Nat} {body : Env → SR} {vs : List V} {H : Hp} {Q : VK} {E : XK} (h : spD K C n (fun as => fin (body (entry N.length as))) vs H Q E) (hn : n ≤ N.length) :
    tS K C (WF E) [] body { nx := fun _ H' => Q .non H', rt := Q } (L2.start N vs) H := by
  obtain ⟨ss, O, hd, htb, hl, hst, bvs, post⟩ := h
  have post : PostF K C E H O Q (fin (body (entry N.length ss))) := post
  have ls := bvs_length bvs
  have el : L2.start N vs = vs.map some ++ List.replicate (N.length - vs.length) none := rfl
  have get : ∀ (i : Nat) s, (entry N.length ss)[i]? = some (some s) → s.still = true ∧ ∃ v, (L2.start N vs)[i]? = some (some v) ∧ BV K C H O v s := by
    intro i s h
    unfold entry at h
    by_cases hi : i < ss.length
    · rw [List.getElem?_append_left (by simpa using hi), List.getElem?_map] at h
      cases e : ss[i]? with
      | none => rw [e] at h; cases h
      | some s' =>
        rw [e] at h
        cases h
        obtain ⟨v, ev, bv⟩ := bvs_get bvs e
        refine ⟨hst _ (List.mem_of_getElem? e), v, ?_, bv⟩
        rw [el, List.getElem?_append_left (by simp; omega), List.getElem?_map, ev]
        rfl
    · rw [List.getElem?_append_right (by simpa using hi)] at h
      rw [List.getElem?_replicate] at h
      split at h <;> cases h
  have rp : Rp K C H O [] H O (entry N.length ss) (L2.start N vs) := by
    refine ⟨?_, fun i s h => ⟨.inl (get i s h).1, (get i s h).2⟩, fun i j a s t h1 h2 o1 o2 e1 e2 => ?_, fun i a s h o e => ?_, hd, Sm.refl H, fun a h => h, fun a h => .inl h, fun p hp => (by cases hp), htb⟩
    · unfold entry
      rw [el]
      simp [ls]
    · rw [still_not_own (get i s h1).1] at o1; cases o1
    · rw [still_not_own (get i s h).1] at o; cases o
  refine ⟨H, O, [], _, O, rfl, rp, ?_⟩
  cases eb : body (entry N.length ss) with
  | next δ => rw [eb] at post; exact fun σ' H' O' a r => post .non H' r.base (.d .non) trivial
  | ret s δ =>
    rw [eb] at post
    intro v σ' H' O' a r bv fr
    have bv2 : ∀ z, s.out = .ok z → BV K C H' O v z := by
      intro z ez
      have sm : Same (Hm H' O') (Hm H' O) := hm_sub r.sub
      cases bv with
      | d h => cases ez; exact .d (dp_same sm h)
      | fl h1 h2 h3 => cases ez; exact .fl (fun z => h1 (r.sub _ z)) h2 (dpa_same (hm_sub fun b z => by rcases List.mem_cons.mp z with q | q; exact q ▸ List.mem_cons_self; exact List.mem_cons_of_mem _ (r.sub _ q)) h3)
      | ol => cases ez
      | fk h1 h2 h3 => cases ez; exact .fk (fun z => h1 (r.sub _ z)) h2 (kv_same (hm_sub fun b z => by rcases List.mem_cons.mp z with q | q; exact q ▸ List.mem_cons_self; exact List.mem_cons_of_mem _ (r.sub _ q)) h3)
      | ok => cases ez
      | obj h1 h2 => cases ez; exact .obj (sm _ _ h1) (fs_same sm h2)
    have hz : s.out = .ok s ∨ s.out = .bad := by unfold S.out; split <;> simp
    have post : PostF K C E H O Q s.out := post
    rcases hz with hz | hz
    · rw [hz] at post
      exact post v H' r.base (bv2 _ hz) fr
    · rw [hz] at post
      exact post.elim
  | brk δ => rw [eb] at post; exact post.elim
  | cnt δ => rw [eb] at post; exact post.elim
  | exc k p δ => rw [eb] at post; exact fun v d σ' H' O' a r hd' dp => post v d H' r.base hd' (dp_same (hm_sub r.sub) dp)
  | bad => rw [eb] at post; exact post.elim
theorem def_ok {P : Program} {w : World} {K : PySem.W.Frag} {C : Cfg} {mg : Str → Option Value} {base : Heap} {x qual : Str} {st : Stmt} {fa : Addr} {fd : FuncData} {N ps : List Str} {k : Nat} {body : Env → SR} (F : Fun K x qual st fa fd) (Sc : FnScope N ps (defScope st))
    (hbody : ∀ (cdv : Value) (A : Around) (outer : List PySem.Env) (s : Shared) (H : Hp) (E : XK), Room k (A.deeper (PyProof.Rows.envOfC qual (defScope st) s.heap.objs.size fa cdv)) →
      DSs (cxOf (L2.CX P w) P w K mg base N qual (defScope st) fa cdv A outer s H E) C (WF E) [] (defBody st) body) :
    FnOk P w K mg base (L2.CX P w) (k + 1) fa fd ps (spD K C ps.length fun as => fin (body (entry N.length as))) := by
  have hn : ps.length ≤ N.length := by rw [← Sc.pre]; simp; omega
  refine F.okX Sc (fun vs H Q E h => ?_) (fun cdv A outer s H vs Q E hr h => ⟨_, hbody cdv A outer s H E hr, def_core h hn⟩)
  obtain ⟨ss, O, _, _, hl, _⟩ := h
  exact hl
end
end DL

set_option Elab.async false
set_option linter.all false
set_option maxRecDepth 100000
set_option maxHeartbeats 1000000
/-! DL5: what is walked: lists, tuples, texts, ranges, enumerate, zip; for, comprehensions. -/
namespace DL
open PySem PySem.Spec L2

/-! ### a list or a tuple -/
def SqX (k : Bool) (K : PySem.W.Frag) (H : Hp) (a : Addr) (xs : List V) : Prop := match k with
  | true => SqT K H a xs
  | false => SqL K H a xs
def IterX (k : Bool) (h : Heap) (it a : Addr) (i : Nat) : Prop := match k with
  | true => h.IsTupleIter it a i
  | false => h.IsListIter it a i
def IsX (k : Bool) (h : Heap) (a : Addr) (items : Array Value) : Prop := match k with
  | true => h.IsTuple a items
  | false => h.IsList a items
theorem sqX_same {k : Bool} {K : PySem.W.Frag} {H H' : Hp} {a : Addr} {xs : List V} (e : Same H H') (h : SqX k K H a xs) : SqX k K H' a xs := by
  cases k with
  | true => exact sqT_same e h
  | false => exact Same.seq e h
section
variable {X : Cx} {pins : List (Addr × Obj)} {σ : St} {H : Hp} {s : Shared} {a : Addr} {xs ys : List V} {k : Bool}
/-- the same, tables apart -/
theorem sqX_sm {C : Cfg} {k : Bool} {K : PySem.W.Frag} {H H' : Hp} {a : Addr} {xs : List V} (e : Sm C H H') (h : SqX k K H a xs) : SqX k K H' a xs := by
  have q : SqX k K (Hm H []) a xs := by
    cases k with
    | true =>
      rcases h with (h | ⟨o, h⟩) | h
      · exact .inl (.inl (hm_mk (by simp) h))
      · exact .inl (.inr ⟨o, hm_mk (by simp) h⟩)
      · exact .inr h
    | false =>
      rcases h with (h | ⟨o, h⟩) | h
      · exact .inl (.inl (hm_mk (by simp) h))
      · exact .inl (.inr ⟨o, hm_mk (by simp) h⟩)
      · exact .inr h
  exact sqX_same hm_le (sqX_same (hm_same e) q)
theorem invX (I : Inv X pins σ H s) (h : SqX k X.K H a xs) : ∃ its : List Value, Vals xs its ∧ IsX k s.heap a its.toArray ∧ xs.length ≤ sizeLine ∧ a < s.heap.objs.size := by
  cases k with
  | true => obtain ⟨its, r, p, z⟩ := I.tuple h; exact ⟨its, r, p, z, p.lt⟩
  | false => obtain ⟨its, r, p, z⟩ := I.list h; exact ⟨its, r, p.isList, z, p.lt⟩
theorem invX_inj (I : Inv X pins σ H s) (h : SqX k X.K H a xs) (h' : SqX k X.K H a ys) : xs = ys := by
  cases k with
  | true => exact I.tuple_inj h h'
  | false => exact I.list_inj h h'
end
theorem iterX_at {k : Bool} {h h' : Heap} {it a : Addr} {i : Nat} (x : IterX k h it a i) (q : ∀ o, h.get? it = some o → h'.get? it = some o) : IterX k h' it a i := by
  cases k with
  | true => exact Heap.IsTupleIter.at x q
  | false => exact Heap.IsListIter.at x q
theorem iterX_obj {k : Bool} {h : Heap} {it a : Addr} {i : Nat} (x : IterX k h it a i) : ∃ o, h.get? it = some o ∧ ∀ v, o.data ≠ .cell v := by
  cases k with
  | true => obtain ⟨o, e, _, d⟩ := x; exact ⟨o, e, fun v z => by rw [d] at z; cases z⟩
  | false => obtain ⟨o, e, _, d⟩ := x; exact ⟨o, e, fun v z => by rw [d] at z; cases z⟩
theorem drawX {prog : Program} {w : World} {A : Around} (hh : A.handled = none) (k : Bool) (it l : Addr) (hne : l ≠ it) (items : Array Value) :
    Draws prog w A it [it, l] items.size (fun i v => items[i]? = some v) (fun i h => IterX k h it l i ∧ IsX k h l items) := by
  cases k with
  | true => exact Draws.tuple hh it l hne items
  | false => exact Draws.list hh it l hne items
def begX (k : Bool) (l : Addr) : Obj := match k with
  | true => { cls := .type "tuple_iterator", data := .fields #[.ref l, .int 0 0] }
  | false => { cls := .type "list_iterator", data := .fields #[.ref l, .int 0 0] }
theorem begX_is (k : Bool) (l : Addr) (items : Array Value) : Begins (.ref l) (begX k l) fun h => IsX k h l items := by
  cases k with
  | true => exact begins_tuple l items
  | false => exact begins_list l items
theorem begX_iter {k : Bool} {h : Heap} {it l : Addr} (e : h.get? it = some (begX k l)) : IterX k h it l 0 := by
  cases k with
  | true => exact ⟨_, e, rfl, rfl⟩
  | false => exact ⟨_, e, rfl, rfl⟩

/-! ### enumerate -/
def IteX (k : Bool) (K : PySem.W.Frag) (a : Addr) : It :=
  ⟨fun i H => ∃ (xs : List V) (x : V), SqX k K H a xs ∧ xs[i]? = some x, fun i H v H' => ∃ T x, v = .ref T ∧ H T = none ∧ H' = upd H T (.tup [.int (i : Nat), x]) ∧ ∀ xs, SqX k K H a xs → xs[i]? = some x, fun i H => ∃ xs : List V, SqX k K H a xs ∧ xs.length = i⟩
theorem turn_enumX {P : Program} {w : World} {K : PySem.W.Frag} {elts : List Expr} {kk : Nat} {tpos : Pos} (k : Bool) (a e it : Addr) :
    Turn P w K (.Tuple elts kk tpos) (IteX k K a) [e, it] e (fun i h => (∃ old, IsEnum h e it ((i : Nat) : Int) old) ∧ IterX k h it a i ∧ e ≠ it ∧ a ≠ it ∧ a ≠ e) where
  mem := by simp
  obj := fun i h st b hb => by
    obtain ⟨⟨old, he⟩, hi, _⟩ := st
    have e' : b = e ∨ b = it := by simpa using hb
    rcases e' with z | z
    · rw [z]; exact ⟨_, he, fun v q => nomatch q⟩
    · rw [z]; exact iterX_obj hi
  keep := fun i h h' st q => let ⟨⟨old, he⟩, hi, hne⟩ := st; ⟨⟨old, q e (by simp) _ he⟩, iterX_at hi fun o z => q it (by simp) o z, hne⟩
  item := by
    intro X hP hw hK hc i pins s σ H E I hf st hg
    subst hP hw hK
    obtain ⟨⟨old, he⟩, hit, hne, hai, hae⟩ := st
    obtain ⟨xs, x, hq, hx⟩ := hg
    obtain ⟨its, rv, p, hz, hlt⟩ := invX I hq
    obtain ⟨u, hu, ru⟩ := rv.get hx
    have hel : e < s.heap.objs.size := Heap.lt_size he
    have hil : it < s.heap.objs.size := by obtain ⟨_, q, _⟩ := iterX_obj hit; exact Heap.lt_size q
    have hh : X.A.in1.handled = none := I.ok.hd hc
    have hi : i < its.toArray.size := by
      have := (List.getElem?_eq_some_iff.mp hu).1
      simpa using this
    refine wpAny_pyNext_enum_itemD (drawX hh k it a hai its.toArray) he ⟨hit, p⟩ hi hne (by simp [hne, Ne.symm hae]) fun x' h' tk hx' ho hst hT hsz hk => ?_
    have ex : x' = u := by rw [show its.toArray[i]? = some u by simpa using hu] at hx'; exact (Option.some.inj hx').symm
    subst ex
    refine ⟨_, rfl, wpAny_letOwnedTupleGo_enum (s := { s with heap := h', toks := tk + 1 }) ho fun h'' he' sb => ?_⟩
    have hT2 : h''.get? s.heap.objs.size = some { cls := .type "tuple", data := .seq #[.int i tk, x'] } := (sb.2 _ (Nat.ne_of_gt hel)).trans hT
    have new : ObjOk X.prog X.w (upd H s.heap.objs.size (.tup [.int (i : Nat), x])) h'' s.heap.objs.size (.tup [.int (i : Nat), x]) :=
      ⟨by show 2 ≤ sizeLine; decide, [.int i tk, x'], .cons ⟨_, rfl⟩ (.cons ru .nil), ⟨_, hT2, rfl, _, rfl⟩⟩
    have I1 : Inv X pins σ (upd H s.heap.objs.size (.tup [.int (i : Nat), x])) { s with heap := h'', toks := tk + 1 } :=
      I.turnedNew (ch := [e, it]) (fun b ob hb q => (sb.2 b (fun z => hb (by simp [z]))).trans (hk b ob (fun z => hb (by simp [z])) (fun z => hb (by simp [z])) q)) hf (Nat.le_refl _) new
    refine ⟨.ref s.heap.objs.size, _, I1, rfl, ⟨_, x, rfl, I.hok.fresh (Nat.le_refl _), rfl, fun ys hy => by rw [invX_inj I hy hq]; exact hx⟩, ⟨⟨x', ?_⟩, iterX_at hst.1 fun o q => (sb.2 it (Ne.symm hne)).trans q, hne, hai, hae⟩, fun b hb => ?_⟩
    · have e1 : ((i + 1 : Nat) : Int) = (i : Int) + 1 := by omega
      rw [e1]; exact he'
    · have hb' : b < s.heap.objs.size := by
        have e' : b = e ∨ b = it := by simpa using hb
        rcases e' with z | z
        · rw [z]; exact hel
        · rw [z]; exact hil
      rw [upd_ne (Nat.ne_of_lt hb')]
      exact (hf b hb).1
  done := by
    intro X hP hw hK hc i pins s σ H E I hf st hg
    subst hP hw hK
    obtain ⟨⟨old, he⟩, hit, hne, hai, hae⟩ := st
    obtain ⟨xs, hq, hx⟩ := hg
    obtain ⟨its, rv, p, hz, hlt⟩ := invX I hq
    obtain ⟨f0, f1, f2, f3, f4, f5⟩ := hf it (by simp)
    have hl := rv.length
    have hh : X.A.in1.handled = none := I.ok.hd hc
    have ei : its.toArray.size = i := by simp; omega
    exact wpAny_pyNext_enum_endD (drawX hh k it a hai its.toArray) he (by rw [ei]; exact ⟨hit, p⟩) fun h' eb => ⟨rfl, I.turned (t' := s.toks) (fun b o hb q => eb b o hb q) f0 f1 f3 f4 f5⟩
  self := fun A i s Q E st h => let ⟨⟨_, he⟩, _⟩ := st; wpAny_pyIter_enum he h
def iEnumX (k : Bool) (K : PySem.W.Frag) (ta : TA) : TI := fun σ H R => ta σ H fun vs H1 => ∃ a xs, vs = [.ref a] ∧ SqX k K H1 a xs ∧ R (IteX k K a) H1

set_option maxHeartbeats 2000000 in
theorem meets_enumerate_newB1 {v : Value} {o : Obj} {H : Heap → Prop} (B : Begins v o H) :
    Meets (Builtin.«enumerate.__new__» ⟨[.type "enumerate", v], []⟩) (fun _ R s => H s.heap ∧
      R (.ok (.ret (.ref (s.heap.push o).objs.size))) { s with heap := (s.heap.push o).push { cls := .type "enumerate", data := .fields #[.none, .bool false, .ref s.heap.objs.size, rawInt 0, .none, .none] } }) :=
  .of_wp fun prog w A R s h => by
    obtain ⟨hp, g, d, tk, os⟩ := s; obtain ⟨h1, h⟩ := h
    have hsub := sub_enumerate
    have q1 : ∀ {A' : Around} {E : Value → Shared → Prop} {Q : Value → Shared → Prop}, Q (.ref hp.objs.size) ⟨hp.push o, g, d, tk, os⟩ → wpAny (model prog w) A' (pyIter v) Q E ⟨hp, g, d, tk, os⟩ :=
      fun q => B.iter prog w _ _ ⟨hp, g, d, tk, os⟩ _ h1 q
    wp_walk using q1
    refine wpAny_stack_any fun st => wpAny_pure ?_
    split
    · rename_i c _ _ _ _ _
      cases (c == Value.type "enumerate")
      · wp_walk using q1
        exact ⟨_, rfl, h⟩
      · wp_walk using q1
        exact ⟨_, rfl, h⟩
    · wp_walk using q1
      exact ⟨_, rfl, h⟩
theorem call_enumX {prog : Program} {w : World} {A : Around} {E : Value → Shared → Prop} {s : Shared} {k : Bool} {l : Addr} {items : Array Value} {Q : Value → Shared → Prop} (hL : IsX k s.heap l items)
    (h : ∀ h', IsEnum h' (s.heap.objs.size + 1) s.heap.objs.size 0 .none → IterX k h' s.heap.objs.size l 0 → h'.objs.size = s.heap.objs.size + 2 →
      (∀ b o, s.heap.get? b = some o → h'.get? b = some o) → Q (.ref (s.heap.objs.size + 1)) { s with heap := h' }) :
    wpAny (model prog w) A (call (.type "enumerate") [.ref l]) Q E s := by
  refine callType_new F.called_enumerate (by decide) (F.typeCall_enumerate_1 _) (F.newCall_enumerate_1 _) (fun obj => F.args_object_init_2 obj _) F.entry_enumerate_new
    (meets_enumerate_newB1 (begX_is k l items)) ⟨hL, ?_⟩
  have hz : (s.heap.push (begX k l)).objs.size = s.heap.objs.size + 1 := Heap.size_push ..
  show _ ∧ _
  rw [hz]
  have he : IsEnum ((s.heap.push (begX k l)).push { cls := .type "enumerate", data := .fields #[.none, .bool false, .ref s.heap.objs.size, rawInt 0, .none, .none] }) (s.heap.objs.size + 1) s.heap.objs.size 0 .none := by
    have := Heap.get?_push_size (s.heap.push (begX k l)) (o := { cls := .type "enumerate", data := .fields #[.none, .bool false, .ref s.heap.objs.size, rawInt 0, .none, .none] }) rfl
    rw [hz] at this; exact this
  exact ⟨⟨_, he, rfl⟩, h _ he (begX_iter (Heap.get?_push_of_some _ (Heap.get?_push_size _ (begX_is k l items).free))) (by rw [Heap.size_push, hz]) fun b o x => Heap.get?_push_of_some _ (Heap.get?_push_of_some _ x)⟩
theorem pi_enumX {X : Cx} (k : Bool) {e : Expr} {ta : TA} {p pos tpos : Pos} {elts : List Expr} {kk : Nat} (hg : Gl X "enumerate") (hm : X.mg "enumerate" = none) (ha : PA X [e] ta) (hs : starEach [e] X.env = [(false, eval e X.env)] := by rfl) :
    PI X (.Tuple elts kk tpos) (.Call (.Name "enumerate" p) [e] [] pos) (iEnumX k X.K ta) := by
  refine ⟨fun pins s σ H R I h => ?_⟩
  refine PyProof.Rows.Call_ (ld_blt I hg hm PyProof.Rows.boot_enumerate (PyProof.Rows.callWith_type1 (thn (ha.run pos pins s σ H _ I h) fun us s1 ⟨vs, H1, I1, r1, q1⟩ => ?_) hs rfl))
  obtain ⟨a, xs, ex, hq, q⟩ := q1
  subst ex
  cases r1 with
  | cons r rr =>
    cases rr
    cases r
    obtain ⟨its, rv, p', hz, hlt⟩ := invX I1 hq
    refine call_enumX p' fun h' he hit hsz hk => wpAny_pyIter_enum he ?_
    have I2 : Inv X pins σ H1 { s1 with heap := h' } := I1.kept (t' := s1.toks) hk
    have n1 : a ≠ s1.heap.objs.size := Nat.ne_of_lt hlt
    have n2 : a ≠ s1.heap.objs.size + 1 := Nat.ne_of_lt (Nat.lt_succ_of_lt hlt)
    refine ⟨s1.heap.objs.size + 1, [s1.heap.objs.size + 1, s1.heap.objs.size], _, _, H1, rfl, I2, turn_enumX k a (s1.heap.objs.size + 1) s1.heap.objs.size, ⟨⟨.none, he⟩, hit, Nat.succ_ne_self _, n1, n2⟩, fun b hb => ?_, q⟩
    have e' : b = s1.heap.objs.size + 1 ∨ b = s1.heap.objs.size := by simpa using hb
    have hle : s1.heap.objs.size ≤ b := by
      rcases e' with z | z
      · rw [z]; exact Nat.le_add_right _ _
      · rw [z]; exact Nat.le_refl _
    exact I1.fpOk hle (I1.hok.fresh hle)

/-! ### zip -/
def ItzX (k l : Bool) (K : PySem.W.Frag) (a b : Addr) : It :=
  ⟨fun i H => ∃ (xs ys : List V) (x y : V), SqX k K H a xs ∧ SqX l K H b ys ∧ xs[i]? = some x ∧ ys[i]? = some y,
    fun i H v H' => ∃ T x y, v = .ref T ∧ H T = none ∧ H' = upd H T (.tup [x, y]) ∧ (∀ xs, SqX k K H a xs → xs[i]? = some x) ∧ ∀ ys, SqX l K H b ys → ys[i]? = some y,
    fun i H => ∃ xs ys : List V, SqX k K H a xs ∧ SqX l K H b ys ∧ i ≤ xs.length ∧ i ≤ ys.length ∧ (i = xs.length ∨ i = ys.length)⟩
theorem turn_zipX {P : Program} {w : World} {K : PySem.W.Frag} {elts : List Expr} {kk : Nat} {tpos : Pos} (k l : Bool) {a b z TI TO i1 i2 : Addr} (D : ZipSep2 z TI TO i1 i2 [i1, a] [i2, b]) (n1 : a ≠ i1) (n2 : b ≠ i2) :
    Turn P w K (.Tuple elts kk tpos) (ItzX k l K a b) [z, TI, TO, i1, i2] z (fun i h => IsZip h z TI TO .none ∧ IsTupOf2 h TI (.ref i1) (.ref i2) ∧ (∃ x y, IsTupOf2 h TO x y) ∧ IterX k h i1 a i ∧ IterX l h i2 b i) where
  mem := by simp
  obj := fun i h st c hc => by
    obtain ⟨hz, hTI, ⟨x, y, hTO⟩, q1, q2⟩ := st
    have e' : c = z ∨ c = TI ∨ c = TO ∨ c = i1 ∨ c = i2 := by simpa using hc
    rcases e' with q | q | q | q | q
    · rw [q]; exact ⟨_, hz, fun v q => nomatch q⟩
    · rw [q]; exact ⟨_, hTI, fun v q => nomatch q⟩
    · rw [q]; exact ⟨_, hTO, fun v q => nomatch q⟩
    · rw [q]; exact iterX_obj q1
    · rw [q]; exact iterX_obj q2
  keep := fun i h h' st k => by
    obtain ⟨hz, hTI, ⟨x, y, hTO⟩, h1, h2⟩ := st
    exact ⟨k z (by simp) _ hz, k TI (by simp) _ hTI, ⟨x, y, k TO (by simp) _ hTO⟩, iterX_at h1 fun o q => k i1 (by simp) o q, iterX_at h2 fun o q => k i2 (by simp) o q⟩
  item := by
    intro X hP hw hK hc i pins s σ H E I hf st hg
    subst hP hw hK
    obtain ⟨hz, hTI, ⟨x0, y0, hTO⟩, h1, h2⟩ := st
    obtain ⟨xs, ys, x, y, hqx, hqy, hx, hy⟩ := hg
    obtain ⟨its, rv, p, _⟩ := invX I hqx
    obtain ⟨its2, rv2, p2, _⟩ := invX I hqy
    obtain ⟨u, hu, ru⟩ := rv.get hx
    obtain ⟨u2, hu2, ru2⟩ := rv2.get hy
    have hzl : z < s.heap.objs.size := Heap.lt_size hz
    have hh : X.A.in1.handled = none := I.ok.hd hc
    have hi1 : i < its.toArray.size := by have := (List.getElem?_eq_some_iff.mp hu).1; simpa using this
    have hi2 : i < its2.toArray.size := by have := (List.getElem?_eq_some_iff.mp hu2).1; simpa using this
    refine wpAny_pyNext_zipD2_item D (drawX hh k i1 a n1 its.toArray) (drawX hh l i2 b n2 its2.toArray) hz hTI hTO ⟨h1, p⟩ ⟨h2, p2⟩ hi1 hi2 fun x1 x2 h' tk e1 e2 z' TO' s1' s2' hT hsz hk => ?_
    have ex1 : x1 = u := by rw [show its.toArray[i]? = some u by simpa using hu] at e1; exact (Option.some.inj e1).symm
    have ex2 : x2 = u2 := by rw [show its2.toArray[i]? = some u2 by simpa using hu2] at e2; exact (Option.some.inj e2).symm
    subst ex1 ex2
    refine ⟨_, rfl, wpAny_letOwnedTupleGo_zip (s := { s with heap := h', toks := tk }) z' fun h'' z'' sb => ?_⟩
    have hT2 : h''.get? s.heap.objs.size = some { cls := .type "tuple", data := .seq #[x1, x2] } := (sb.2 _ (Nat.ne_of_gt hzl)).trans hT
    have new : ObjOk X.prog X.w (upd H s.heap.objs.size (.tup [x, y])) h'' s.heap.objs.size (.tup [x, y]) :=
      ⟨by show 2 ≤ sizeLine; decide, [x1, x2], .cons ru (.cons ru2 .nil), ⟨_, hT2, rfl, _, rfl⟩⟩
    have I1 : Inv X pins σ (upd H s.heap.objs.size (.tup [x, y])) { s with heap := h'', toks := tk } :=
      I.turnedNew (t' := tk) (ch := [z, TI, TO, i1, i2]) (fun c o hb q => (sb.2 c (fun q' => hb (by simp [q']))).trans (hk c o (fun q' => hb (by simp [q'])) (fun q' => hb (by simp [q'])) (fun q' => hb (by simp [q'])) (fun q' => hb (by simp [q'])) q)) hf (Nat.le_refl _) new
    refine ⟨.ref s.heap.objs.size, _, I1, rfl, ⟨_, x, y, rfl, I.hok.fresh (Nat.le_refl _), rfl, fun l hl => by rw [invX_inj I hl hqx]; exact hx, fun l hl => by rw [invX_inj I hl hqy]; exact hy⟩, ⟨z'', ?_, ⟨x1, x2, ?_⟩, ?_, ?_⟩, fun c hcm => ?_⟩
    · exact (sb.2 _ D.TIz).trans (hk _ _ D.TIz D.TITO D.TIi1 D.TIi2 hTI)
    · exact (sb.2 _ D.TOz).trans TO'
    · exact iterX_at s1'.1 fun o q => (sb.2 _ (Ne.symm D.zi1)).trans q
    · exact iterX_at s2'.1 fun o q => (sb.2 _ (Ne.symm D.zi2)).trans q
    · have hlt : c < s.heap.objs.size := by
        have e' : c = z ∨ c = TI ∨ c = TO ∨ c = i1 ∨ c = i2 := by simpa using hcm
        rcases e' with q | q | q | q | q
        · rw [q]; exact hzl
        · rw [q]; exact Heap.lt_size hTI
        · rw [q]; exact Heap.lt_size hTO
        · rw [q]; obtain ⟨_, e1, _⟩ := iterX_obj h1; exact Heap.lt_size e1
        · rw [q]; obtain ⟨_, e2, _⟩ := iterX_obj h2; exact Heap.lt_size e2
      rw [upd_ne (Nat.ne_of_lt hlt)]
      exact (hf c hcm).1
  done := by
    intro X hP hw hK hc i pins s σ H E I hf st hg
    subst hP hw hK
    obtain ⟨hz, hTI, ⟨x0, y0, hTO⟩, h1, h2⟩ := st
    obtain ⟨xs, ys, hqx, hqy, le1, le2, hend⟩ := hg
    obtain ⟨its, rv, p, _⟩ := invX I hqx
    obtain ⟨its2, rv2, p2, _⟩ := invX I hqy
    have l1 := rv.length
    have l2 := rv2.length
    have hh : X.A.in1.handled = none := I.ok.hd hc
    exact wpAny_pyNext_zipD2_end D (drawX hh k i1 a n1 its.toArray) (drawX hh l i2 b n2 its2.toArray) hz hTI hTO ⟨h1, p⟩ ⟨h2, p2⟩ (by simp; omega) (by simp; omega) (by simp; omega) fun h' tk hk => ⟨rfl, I.turnedL (t' := tk) (ch := [z, TI, TO, i1, i2]) (fun c o hb q =>
      hk c o (fun q' => hb (by simp [q'])) (fun q' => hb (by simp [q'])) (fun q' => hb (by simp [q'])) (fun q' => hb (by simp [q'])) q) hf⟩
  self := fun A i s Q E st h => wpAny_pyIter_zip st.1 h
def iZipX (k l : Bool) (K : PySem.W.Frag) (ta : TA) : TI := fun σ H R => ta σ H fun vs H1 => ∃ a b xs ys, vs = [.ref a, .ref b] ∧ SqX k K H1 a xs ∧ SqX l K H1 b ys ∧ R (ItzX k l K a b) H1
theorem zip_sep (n a b : Nat) (ha : a < n) (hb : b < n) : ZipSep2 (n + 4 : Nat) (n + 2 : Nat) (n + 3 : Nat) (n : Nat) (n + 1 : Nat) [n, a] [n + 1, b] := by
  have m : ∀ (c x y : Nat), c ≠ x → c ≠ y → c ∉ [x, y] := fun c x y h1 h2 h => by
    rcases List.mem_cons.mp h with e | h
    · exact h1 e
    · exact h2 (List.mem_singleton.mp h)
  have f1 : ∀ (i j : Nat), i ≠ j → (n + i : Nat) ≠ n + j := fun i j h => by omega
  have f0 : ∀ i : Nat, 0 < i → (n + i : Nat) ≠ n := fun i h => by omega
  have fa : ∀ i : Nat, (n + i : Nat) ≠ a := fun i => by omega
  have fb : ∀ i : Nat, (n + i : Nat) ≠ b := fun i => by omega
  have nb : n ≠ b := by omega
  have na : n ≠ a := by omega
  have n1 : n ≠ n + 1 := by omega
  exact ⟨f1 _ _ (by decide), f1 _ _ (by decide), f1 _ _ (by decide), f0 _ (by decide), List.mem_cons_self, m _ _ _ (f0 _ (by decide)) (fa _), m _ _ _ (f0 _ (by decide)) (fa _), f1 _ _ (by decide), List.mem_cons_self,
    m _ _ _ (f1 _ _ (by decide)) (fb _), m _ _ _ (f1 _ _ (by decide)) (fb _), m _ _ _ n1 nb, m _ _ _ (f0 _ (by decide)) (fa _)⟩
theorem pi_zipX {X : Cx} (k l : Bool) {e e2 : Expr} {ta : TA} {p pos tpos : Pos} {elts : List Expr} {kk : Nat} (hg : Gl X "zip") (hm : X.mg "zip" = none) (ha : PA X [e, e2] ta)
    (hs : starEach [e, e2] X.env = (false, eval e X.env) :: starEach [e2] X.env := by rfl) (hpl : (backTo pos (starEach [e2] X.env)).any (·.1) = false := by rfl) :
    PI X (.Tuple elts kk tpos) (.Call (.Name "zip" p) [e, e2] [] pos) (iZipX k l X.K ta) := by
  refine ⟨fun pins s σ H R I h => ?_⟩
  refine PyProof.Rows.Call_ (ld_blt I hg hm PyProof.Rows.boot_zip (PyProof.Rows.callWith_type1 (thn (ha.run pos pins s σ H _ I h) fun us s1 ⟨vs, H1, I1, r1, q1⟩ => ?_) hs hpl))
  obtain ⟨a, b, xs, ys, ex, hqx, hqy, q⟩ := q1
  subst ex
  cases r1 with
  | cons r rr =>
    cases rr with
    | cons r' rr =>
      cases rr
      cases r
      cases r'
      obtain ⟨its, rv, p1, _, la⟩ := invX I1 hqx
      obtain ⟨its2, rv2, p2, _, lb⟩ := invX I1 hqy
      refine zip_begins2 (begX_is k a its.toArray) (begX_is l b its2.toArray) p1 p2 fun h' hz hTI hTO h1 h2 hsz hk => wpAny_pyIter_zip hz ?_
      have I2 : Inv X pins σ H1 { s1 with heap := h' } := I1.kept (t' := s1.toks) hk
      refine ⟨s1.heap.objs.size + 4, [s1.heap.objs.size + 4, s1.heap.objs.size + 2, s1.heap.objs.size + 3, s1.heap.objs.size, s1.heap.objs.size + 1], _, _, H1, rfl, I2, turn_zipX k l (zip_sep s1.heap.objs.size a b la lb) (Nat.ne_of_lt la) (Nat.ne_of_lt (Nat.lt_succ_of_lt lb)), ⟨hz, hTI, ⟨_, _, hTO⟩, begX_iter h1, begX_iter h2⟩, fun c hcm => ?_, q⟩
      have e' : c = s1.heap.objs.size + 4 ∨ c = s1.heap.objs.size + 2 ∨ c = s1.heap.objs.size + 3 ∨ c = s1.heap.objs.size ∨ c = s1.heap.objs.size + 1 := by simpa using hcm
      have hle : s1.heap.objs.size ≤ c := by
        rcases e' with z | z | z | z | z
        · rw [z]; exact Nat.le_add_right _ _
        · rw [z]; exact Nat.le_add_right _ _
        · rw [z]; exact Nat.le_add_right _ _
        · rw [z]; exact Nat.le_refl _
        · rw [z]; exact Nat.le_add_right _ _
      exact I1.fpOk hle (I1.hok.fresh hle)
end DL

set_option Elab.async false
set_option linter.all false
set_option maxRecDepth 100000
set_option maxHeartbeats 1000000
/-! DL6: sources, targets, for, while, list comprehensions as data. -/
namespace DL
open PySem PySem.Spec L2

/-- how the state may go on: b: what stands still stays; else all that stood stays -/
def TT (C : Cfg) (b : Bool) (H1 : Hp) (O : List Addr) (H2 : Hp) (O2 : List Addr) : Prop := Stay H1 O H2 O2 ∧ (b = false → Sm C H1 H2)
/-- a walk over ds -/
def Wk (K : PySem.W.Frag) (C : Cfg) (J : It) (T : Hp → List Addr → Prop) (ds : List PyData) : Prop := ∀ i H2 O2, T H2 O2 → Dom H2 O2 →
  (∀ d, ds[i]? = some d → J.go i H2 ∧ ∀ x H3, J.yld i H2 x H3 → Sm C H2 H3 ∧ Dp K (Hm H3 O2) x d) ∧ (i = ds.length → J.stop i H2)
def tI (K : PySem.W.Frag) (C : Cfg) (W : WX) (b : Bool) (fi : Env → R (List PyData)) : TI := fun σ H Q => ∃ δ O, Rep K C H O δ σ ∧ match fi δ with
  | .ok ds => ∀ J H1, Sm C H H1 → Wk K C J (TT C b H1 O) ds → Q J H1
  | .exc k p => ∀ v d H', Sm C H H' → H' d = some (.xd [(C.fld k, v)]) → Dp K (Hm H' O) v p → W (.ref (C.exc k)) (some d) σ H'
  | .bad => False
abbrev DI (X : Cx) (C : Cfg) (W : WX) (b : Bool) (tg iter : Expr) (fi : Env → R (List PyData)) : Prop := PI X tg iter (tI X.K C W b fi)
theorem PI.imp {X : Cx} {tg e : Expr} {t t' : TI} (h : PI X tg e t) (k : ∀ σ H Q, t' σ H Q → t σ H Q) : PI X tg e t' := ⟨fun pins s σ H Q I w => h.run pins s σ H Q I (k σ H Q w)⟩
theorem PI.or {X : Cx} {tg e : Expr} {t t' : TI} (h : PI X tg e t) (h' : PI X tg e t') : PI X tg e (fun σ H Q => t σ H Q ∨ t' σ H Q) := ⟨fun pins s σ H Q I w => by
  rcases w with w | w
  · exact h.run pins s σ H Q I w
  · exact h'.run pins s σ H Q I w⟩

/-- the items that are walked; b: of what stands still alone -/
def S.itsI (b : Bool) : S → R (List PyData)
  | .d (.list ds) => .ok ds
  | .d (.tuple ds) => .ok ds
  | .l .fr ds => .ok ds
  | .l .ow ds => match b with
    | true => .bad
    | false => .ok ds
  | .d (.str z) => .ok (z.cps.toList.map fun c => .str ⟨#[c]⟩)
  | _ => .bad
@[simp] theorem itsI_list (b ds) : S.itsI b (.d (.list ds)) = .ok ds := (rfl)
@[simp] theorem itsI_tuple (b ds) : S.itsI b (.d (.tuple ds)) = .ok ds := (rfl)
@[simp] theorem itsI_fr (b ds) : S.itsI b (.l .fr ds) = .ok ds := (rfl)
@[simp] theorem itsI_ow (ds) : S.itsI false (.l .ow ds) = .ok ds := (rfl)
@[simp] theorem itsI_str (b z) : S.itsI b (.d (.str z)) = .ok (z.cps.toList.map fun c => .str ⟨#[c]⟩) := (rfl)
theorem itsI_ne (b : Bool) (s : S) : ∀ k p, S.itsI b s ≠ .exc k p := by
  intro k p; unfold S.itsI
  split <;> first | exact ok_ne _ k p | exact bad_ne k p | (split <;> first | exact ok_ne _ k p | exact bad_ne k p)
/-- a list or a tuple at a place, as the walk sees it -/
structure Src (K : PySem.W.Frag) (C : Cfg) (b k : Bool) (H : Hp) (O : List Addr) (a : Addr) (ds : List PyData) : Prop where
  ex : ∃ xs, SqX k K H a xs ∧ DpAll K (Hm H O) xs ds
  go : ∀ H1, Sm C H H1 → ∀ H2 O2, TT C b H1 O H2 O2 → ∃ xs, SqX k K H2 a xs ∧ DpAll K (Hm H2 O2) xs ds
def S.kd : S → Bool
  | .d (.tuple _) => true
  | _ => false
theorem src_of {K : PySem.W.Frag} {C : Cfg} {b : Bool} {H : Hp} {O : List Addr} {v : V} {s : S} {ds : List PyData} (h : BV K C H O v s) (e : S.itsI b s = .ok ds) (ns : ∀ z, s ≠ .d (.str z)) : ∃ a, v = .ref a ∧ Src K C b s.kd H O a ds := by
  cases h with
  | d h =>
    cases h with
    | lst h r =>
      cases e
      exact ⟨_, rfl, ⟨_, hm_le.seq h, r⟩, fun H1 s1 H2 O2 t => ⟨_, hm_le.seq (Same.seq t.1 (Same.seq (hm_same s1) h)), dpa_same t.1 (dpa_same (hm_same s1) r)⟩⟩
    | tup h r =>
      cases e
      exact ⟨_, rfl, ⟨_, sqT_same hm_le h, r⟩, fun H1 s1 H2 O2 t => ⟨_, sqT_same hm_le (sqT_same t.1 (sqT_same (hm_same s1) h)), dpa_same t.1 (dpa_same (hm_same s1) r)⟩⟩
    | str z => exact (ns z rfl).elim
    | _ => cases e
  | fl h1 h2 h3 =>
    cases e
    refine ⟨_, rfl, ⟨_, SqL.of h2, dpa_same hm_cons h3⟩, fun H1 s1 H2 O2 t => ⟨_, ?_, dpa_same t.1 (dpa_same (hm_same s1) (dpa_same hm_cons h3))⟩⟩
    exact SqL.of (hm_le _ _ (t.1 _ _ (hm_mk h1 (s1.at h2))))
  | ol h1 h2 h3 =>
    cases b with
    | true => cases e
    | false =>
      cases e
      exact ⟨_, rfl, ⟨_, SqL.of h2, h3⟩, fun H1 s1 H2 O2 t => ⟨_, SqL.of ((t.2 rfl).at (s1.at h2)), dpa_same t.1 (dpa_same (hm_same s1) h3)⟩⟩
  | fk => cases e
  | ok => cases e
  | obj => cases e
section
variable {X : Cx} {C : Cfg} {W : WX} {b : Bool} {e tg : Expr} {f g : Env → R S} {fs : Env → R (List S)} {pos p : Pos}
theorem runI {K : PySem.W.Frag} {σ : St} {H : Hp} {O : List Addr} {δ : Env} {h : S → R (List PyData)} {Q : It → Hp → Prop} {Q' : VK} (rep : Rep K C H O δ σ) (nx : ∀ s k p, h s ≠ .exc k p)
    (w : match (f δ >>= h) with
      | .ok ds => ∀ J H1, Sm C H H1 → Wk K C J (TT C b H1 O) ds → Q J H1
      | .exc k p => ∀ v d H', Sm C H H' → H' d = some (.xd [(C.fld k, v)]) → Dp K (Hm H' O) v p → W (.ref (C.exc k)) (some d) σ H'
      | .bad => False)
    (ho : ∀ s ds, f δ = .ok s → h s = .ok ds → ∀ v H1, Sm C H H1 → BV K C H1 O v s → (∀ J H2, Sm C H1 H2 → Wk K C J (TT C b H2 O) ds → Q J H2) → Q' v H1) : tD K C W f σ H Q' := by
  refine ⟨δ, O, rep, ?_⟩
  cases ef : f δ with
  | ok s =>
    rw [ef] at w
    simp only [R.ok_bind] at w
    cases eh : h s with
    | ok ds => rw [eh] at w; exact fun v H1 s1 bv fr => ho s ds ef eh v H1 s1 bv fun J H2 s2 wk => w J H2 (s1.trans s2) wk
    | exc k p => exact (nx s k p eh).elim
    | bad => rw [eh] at w; exact w.elim
  | exc k p => rw [ef] at w; exact w
  | bad => rw [ef] at w; exact w.elim
/-- a value walked -/
def iVal (b : Bool) (f : Env → R S) : Env → R (List PyData) := fun δ => do let s ← f δ; S.itsI b s
theorem wk_src {K : PySem.W.Frag} {C : Cfg} {b : Bool} {k : Bool} {H : Hp} {O : List Addr} {a : Addr} {ds : List PyData} (s : Src K C b k H O a ds) {H1 : Hp} (s1 : Sm C H H1) : Wk K C (if k then Itt K a else Itl K a) (TT C b H1 O) ds := by
  intro i H2 O2 t hd
  obtain ⟨xs, hq, r⟩ := s.go H1 s1 H2 O2 t
  have l := dpa_length r
  cases k with
  | true =>
    refine ⟨fun d e => ?_, fun e => ⟨xs, hq, by omega⟩⟩
    obtain ⟨v, ev, q⟩ := dpa_get r e
    exact ⟨⟨xs, v, hq, ev⟩, fun x H3 ⟨e3, hx⟩ => by subst e3; refine ⟨Sm.refl _, ?_⟩; have := hx xs hq; rw [ev] at this; cases this; exact q⟩
  | false =>
    refine ⟨fun d e => ?_, fun e => ⟨xs, hq, by omega⟩⟩
    obtain ⟨v, ev, q⟩ := dpa_get r e
    exact ⟨⟨xs, v, hq, ev⟩, fun x H3 ⟨e3, hx⟩ => by subst e3; refine ⟨Sm.refl _, ?_⟩; have := hx xs hq; rw [ev] at this; cases this; exact q⟩
theorem wk_str {K : PySem.W.Frag} {C : Cfg} {z : Str} {T : Hp → List Addr → Prop} : Wk K C (Its z) T (z.cps.toList.map fun c => .str ⟨#[c]⟩) := by
  intro i H2 O2 t hd
  refine ⟨fun d e => ?_, fun e => by show z.cps.size ≤ i; simp at e; omega⟩
  rw [List.getElem?_map] at e
  cases ec : z.cps.toList[i]? with
  | none => rw [ec] at e; cases e
  | some c =>
    rw [ec] at e
    cases e
    have hlt : i < z.cps.size := by have := (List.getElem?_eq_some_iff.mp ec).1; simpa using this
    refine ⟨hlt, fun x H3 ⟨e3, c', hc, hx⟩ => ?_⟩
    subst e3 hx
    have : c = c' := by
      have h1 : z.cps[i]? = some c := by simpa using ec
      rw [h1] at hc; exact Option.some.inj hc
    subst this
    exact ⟨Sm.refl _, .str _⟩
theorem di_val (ha : DE X C W e f) : DI X C W b tg e (iVal b f) := by
  refine PI.imp (PI.or (PI.or (pi_list ha) (pi_tup ha)) (pi_str ha)) fun σ H Q ⟨δ, O, rep, w⟩ => ?_
  by_cases hz : ∃ z, f δ = .ok (.d (.str z))
  · obtain ⟨z, ez⟩ := hz
    refine .inr (runI (h := S.itsI b) rep (itsI_ne b) w fun s ds e1 e2 v H1 s1 bv q => ?_)
    rw [ez] at e1
    cases e1
    cases e2
    exact ⟨z, bv_str bv, q _ H1 (Sm.refl _) wk_str⟩
  · by_cases hk : ∃ ds, f δ = .ok (.d (.tuple ds))
    · obtain ⟨ds0, ez⟩ := hk
      refine .inl (.inr (runI (h := S.itsI b) rep (itsI_ne b) w fun s ds e1 e2 v H1 s1 bv q => ?_))
      rw [ez] at e1
      cases e1
      cases e2
      obtain ⟨a, rfl, sr⟩ := src_of (b := b) bv rfl (fun z h => by cases h)
      obtain ⟨xs, hq, r⟩ := sr.ex
      exact ⟨a, rfl, ⟨xs, hq⟩, q _ H1 (Sm.refl _) (wk_src sr (Sm.refl _))⟩
    · refine .inl (.inl (runI (h := S.itsI b) rep (itsI_ne b) w fun s ds e1 e2 v H1 s1 bv q => ?_))
      obtain ⟨a, rfl, sr⟩ := src_of (b := b) bv e2 (fun z h => hz ⟨z, by rw [e1, h]⟩)
      have ek : s.kd = false := by
        unfold S.kd
        split
        · rename_i x
          exact (hk ⟨x, e1⟩).elim
        · rfl
      rw [ek] at sr
      obtain ⟨xs, hq, r⟩ := sr.ex
      exact ⟨a, rfl, ⟨xs, hq⟩, q _ H1 (Sm.refl _) (wk_src sr (Sm.refl _))⟩

/-! enumerate -/
def S.itsJ (b : Bool) (s : S) : R (List PyData) := match s with
  | .d (.str _) => .bad
  | s => S.itsI b s
@[simp] theorem itsJ_list (b ds) : S.itsJ b (.d (.list ds)) = .ok ds := (rfl)
@[simp] theorem itsJ_tuple (b ds) : S.itsJ b (.d (.tuple ds)) = .ok ds := (rfl)
@[simp] theorem itsJ_fr (b ds) : S.itsJ b (.l .fr ds) = .ok ds := (rfl)
@[simp] theorem itsJ_ow (ds) : S.itsJ false (.l .ow ds) = .ok ds := (rfl)
theorem itsJ_inv {b : Bool} {s : S} {ds : List PyData} (e : S.itsJ b s = .ok ds) : S.itsI b s = .ok ds ∧ ∀ z, s ≠ .d (.str z) := by
  unfold S.itsJ at e
  split at e
  · cases e
  · rename_i h; exact ⟨e, fun z q => h z q⟩
theorem itsJ_ne (b : Bool) (s : S) : ∀ k p, S.itsJ b s ≠ .exc k p := by
  unfold S.itsJ
  split
  · exact bad_ne
  · exact itsI_ne b s
def enumP (ds : List PyData) : List PyData := ds.zipIdx.map fun p => .tuple [.int p.2, p.1]
theorem enumP_length (ds : List PyData) : (enumP ds).length = ds.length := by simp [enumP]
theorem enumP_get {ds : List PyData} {i : Nat} {d : PyData} (h : (enumP ds)[i]? = some d) : ∃ x, ds[i]? = some x ∧ d = .tuple [.int i, x] := by
  unfold enumP at h
  rw [List.getElem?_map, List.getElem?_zipIdx] at h
  cases e : ds[i]? with
  | none => rw [e] at h; cases h
  | some x => rw [e] at h; cases h; exact ⟨x, rfl, by simp⟩
theorem dp_pair {K : PySem.W.Frag} {C : Cfg} {H2 : Hp} {O2 : List Addr} {T : Addr} {v1 v2 : V} {d1 d2 : PyData} (hd : Dom H2 O2) (hT : H2 T = none) (h1 : Dp K (Hm H2 O2) v1 d1) (h2 : Dp K (Hm H2 O2) v2 d2) :
    Dp K (Hm (upd H2 T (.tup [v1, v2])) O2) (.ref T) (.tuple [d1, d2]) :=
  .tup (.inl (.inl (hm_mk (not_mem_dom hd hT) upd_same))) (.cons (dp_same (hm_same (C := C) (same_new hT)) h1) (.cons (dp_same (hm_same (C := C) (same_new hT)) h2) .nil))
theorem wk_enum {K : PySem.W.Frag} {C : Cfg} {b : Bool} {k : Bool} {H : Hp} {O : List Addr} {a : Addr} {ds : List PyData} (s : Src K C b k H O a ds) {H1 : Hp} (s1 : Sm C H H1) : Wk K C (IteX k K a) (TT C b H1 O) (enumP ds) := by
  intro i H2 O2 t hd
  obtain ⟨xs, hq, r⟩ := s.go H1 s1 H2 O2 t
  have l := dpa_length r
  refine ⟨fun d e => ?_, fun e => ⟨xs, hq, by rw [enumP_length] at e; omega⟩⟩
  obtain ⟨x, ex, rfl⟩ := enumP_get e
  obtain ⟨v, ev, q⟩ := dpa_get r ex
  refine ⟨⟨xs, v, hq, ev⟩, fun y H3 ⟨T, x', ey, hT, e3, hx⟩ => ?_⟩
  subst ey e3
  have := hx xs hq
  rw [ev] at this
  cases this
  exact ⟨same_new hT, dp_pair (C := C) hd hT (.int _) q⟩
def iEnumF (b : Bool) (f : Env → R S) : Env → R (List PyData) := fun δ => do let s ← f δ; let ds ← S.itsJ b s; .ok (enumP ds)
variable {elts : List Expr} {kk : Nat} {tpos : Pos}
theorem di_enum (hg : Gl X "enumerate") (hm : X.mg "enumerate" = none) (ha : DE X C W e f) (hs : starEach [e] X.env = [(false, eval e X.env)] := by rfl) (hs1 : starEach [e] X.env = (false, eval e X.env) :: starEach [] X.env := by rfl) : DI X C W b (.Tuple elts kk tpos) (.Call (.Name "enumerate" p) [e] [] pos) (iEnumF b f) := by
  refine PI.imp (PI.or (pi_enumX false hg hm (pa_cons ha pa_nil hs1) hs) (pi_enumX true hg hm (pa_cons ha pa_nil hs1) hs)) fun σ H Q ⟨δ, O, rep, w⟩ => ?_
  have nx : ∀ s k p, (do let ds ← S.itsJ b s; R.ok (enumP ds)) ≠ .exc k p := fun s => bind_ne (itsJ_ne b s) fun _ => ok_ne _
  have go : ∀ k : Bool, (∀ s, f δ = .ok s → s.kd = k) → iEnumX k X.K (tCons (tD X.K C W f) tNil) σ H Q := by
    intro k hk
    refine runI (h := fun s => do let ds ← S.itsJ b s; R.ok (enumP ds)) rep nx w fun s ds e1 e2 v H1 s1 bv q => ?_
    obtain ⟨ds0, e3, e4⟩ := bind_ok e2
    cases e4
    obtain ⟨e5, ns⟩ := itsJ_inv e3
    obtain ⟨a, rfl, sr⟩ := src_of (b := b) bv e5 ns
    rw [hk s e1] at sr
    obtain ⟨xs, hq, r⟩ := sr.ex
    exact ⟨a, xs, rfl, hq, q _ H1 (Sm.refl _) (wk_enum sr (Sm.refl _))⟩
  cases ef : f δ with
  | ok s =>
    cases ek : s.kd with
    | true => exact .inr (go true fun s' e => by rw [ef] at e; cases e; exact ek)
    | false => exact .inl (go false fun s' e => by rw [ef] at e; cases e; exact ek)
  | exc k p => exact .inl (go false fun s' e => by rw [ef] at e; cases e)
  | bad => exact .inl (go false fun s' e => by rw [ef] at e; cases e)

/-! zip -/
def zipP (as bs : List PyData) : List PyData := List.zipWith (fun x y => .tuple [x, y]) as bs
theorem src_same {K : PySem.W.Frag} {C : Cfg} {b : Bool} {k : Bool} {H H' : Hp} {O : List Addr} {a : Addr} {ds : List PyData} (e : Sm C H H') (s : Src K C b k H O a ds) : Src K C b k H' O a ds :=
  ⟨let ⟨xs, q, r⟩ := s.ex; ⟨xs, sqX_sm e q, dpa_same (hm_same e) r⟩, fun H1 s1 => s.go H1 (e.trans s1)⟩
theorem wk_zip {K : PySem.W.Frag} {C : Cfg} {b : Bool} {k l : Bool} {H : Hp} {O : List Addr} {a c : Addr} {ds es : List PyData} (s : Src K C b k H O a ds) (u : Src K C b l H O c es) {H1 : Hp} (s1 : Sm C H H1) : Wk K C (ItzX k l K a c) (TT C b H1 O) (zipP ds es) := by
  intro i H2 O2 t hd
  obtain ⟨xs, hq, r⟩ := s.go H1 s1 H2 O2 t
  obtain ⟨ys, hq', r'⟩ := u.go H1 s1 H2 O2 t
  have ll := dpa_length r
  have ll' := dpa_length r'
  have lz : (zipP ds es).length = min ds.length es.length := by simp [zipP]
  refine ⟨fun d e => ?_, fun e => ⟨xs, ys, hq, hq', by omega, by omega, by omega⟩⟩
  unfold zipP at e
  rw [List.getElem?_zipWith] at e
  cases e1 : ds[i]? with
  | none => rw [e1] at e; cases e
  | some x =>
    cases e2 : es[i]? with
    | none => rw [e1, e2] at e; cases e
    | some y =>
      rw [e1, e2] at e
      cases e
      obtain ⟨v, ev, q⟩ := dpa_get r e1
      obtain ⟨v', ev', q'⟩ := dpa_get r' e2
      refine ⟨⟨xs, ys, v, v', hq, hq', ev, ev'⟩, fun z H3 ⟨T, x', y', ez, hT, e3, hx, hy⟩ => ?_⟩
      subst ez e3
      have h1 := hx xs hq
      have h2 := hy ys hq'
      rw [ev] at h1
      rw [ev'] at h2
      cases h1
      cases h2
      exact ⟨same_new hT, dp_pair (C := C) hd hT q q'⟩
def iZipF (b : Bool) (f g : Env → R S) : Env → R (List PyData) := fun δ => do let s ← f δ; let t ← g δ; let ds ← S.itsJ b s; let es ← S.itsJ b t; .ok (zipP ds es)
theorem di_zip {e2 : Expr} (hg : Gl X "zip") (hm : X.mg "zip" = none) (ha : DE X C W e f) (ha2 : DE X C W e2 g) (hs : starEach [e, e2] X.env = (false, eval e X.env) :: starEach [e2] X.env := by rfl) (hpl : (backTo pos (starEach [e2] X.env)).any (·.1) = false := by rfl) (hs2 : starEach [e2] X.env = (false, eval e2 X.env) :: starEach [] X.env := by rfl) :
    DI X C W b (.Tuple elts kk tpos) (.Call (.Name "zip" p) [e, e2] [] pos) (iZipF b f g) := by
  refine PI.imp (PI.or (PI.or (pi_zipX false false hg hm (pa_cons ha (pa_cons ha2 pa_nil hs2) hs) hs hpl) (pi_zipX false true hg hm (pa_cons ha (pa_cons ha2 pa_nil hs2) hs) hs hpl))
    (PI.or (pi_zipX true false hg hm (pa_cons ha (pa_cons ha2 pa_nil hs2) hs) hs hpl) (pi_zipX true true hg hm (pa_cons ha (pa_cons ha2 pa_nil hs2) hs) hs hpl))) fun σ H Q ⟨δ, O, rep, w⟩ => ?_
  have go : ∀ k l : Bool, (∀ s, f δ = .ok s → s.kd = k) → (∀ s, g δ = .ok s → s.kd = l) → iZipX k l X.K (tCons (tD X.K C W f) (tCons (tD X.K C W g) tNil)) σ H Q := by
    intro k l hk hl
    refine ⟨δ, O, rep, ?_⟩
    unfold iZipF at w
    cases ef : f δ with
    | exc k p => rw [ef] at w; exact w
    | bad => rw [ef] at w; exact w.elim
    | ok s =>
      rw [ef] at w
      simp only [R.ok_bind] at w
      intro v H1 s1 bv fr
      refine ⟨δ, O, rep.same s1, ?_⟩
      cases eg : g δ with
      | exc k p => rw [eg] at w; exact fun v d H' z => w v d H' (s1.trans z)
      | bad => rw [eg] at w; exact w.elim
      | ok t =>
        rw [eg] at w
        simp only [R.ok_bind] at w
        intro v2 H2 s2 bv2 fr2
        cases e3 : S.itsJ b s with
        | exc k p => exact (itsJ_ne _ _ _ _ e3).elim
        | bad => rw [e3] at w; exact w.elim
        | ok ds =>
          rw [e3] at w
          cases e4 : S.itsJ b t with
          | exc k p => exact (itsJ_ne _ _ _ _ e4).elim
          | bad => rw [e4] at w; exact w.elim
          | ok es =>
            rw [e4] at w
            simp only [R.ok_bind] at w
            obtain ⟨e5, ns⟩ := itsJ_inv e3
            obtain ⟨e6, ns'⟩ := itsJ_inv e4
            obtain ⟨a, rfl, sr⟩ := src_of (b := b) (bv_same s2 bv) e5 ns
            obtain ⟨c, rfl, sr'⟩ := src_of (b := b) bv2 e6 ns'
            rw [hk s ef] at sr
            rw [hl t eg] at sr'
            obtain ⟨xs, hq, r⟩ := sr.ex
            obtain ⟨ys, hq', r'⟩ := sr'.ex
            exact ⟨a, c, xs, ys, rfl, hq, hq', w _ H2 (s1.trans s2) (wk_zip sr sr' (Sm.refl _))⟩
  have pick : ∀ h : R S, ∃ k : Bool, ∀ s, h = .ok s → s.kd = k := fun h => by
    cases h with
    | ok s => exact ⟨s.kd, fun s' e => by cases e; rfl⟩
    | exc k p => exact ⟨true, fun s' e => by cases e⟩
    | bad => exact ⟨true, fun s' e => by cases e⟩
  obtain ⟨k, hk⟩ := pick (f δ)
  obtain ⟨l, hl⟩ := pick (g δ)
  have q := go k l hk hl
  cases k <;> cases l
  · exact .inl (.inl q)
  · exact .inl (.inr q)
  · exact .inr (.inl q)
  · exact .inr (.inr q)

/-! ranges -/
def rangeP (lo c : Int) (n : Nat) : List PyData := (List.range n).map fun i => .int (lo + (i : Nat) * c)
theorem wk_range {K : PySem.W.Frag} {C : Cfg} {lo : Int} {n : Nat} {T : Hp → List Addr → Prop} : Wk K C (Itr lo n) T (rangeP lo 1 n) := by
  intro i H2 O2 t hd
  refine ⟨fun d e => ?_, fun e => by show n ≤ i; simp [rangeP] at e; omega⟩
  unfold rangeP at e
  rw [List.getElem?_map] at e
  by_cases hi : i < n
  · rw [List.getElem?_range hi] at e
    cases e
    refine ⟨hi, fun x H3 ⟨e3, hx⟩ => ?_⟩
    subst e3 hx
    refine ⟨Sm.refl _, ?_⟩
    show Dp K (Hm H3 O2) (V.int (lo + (i : Int))) (PyData.int (lo + (i : Int) * 1))
    rw [show lo + (i : Int) * 1 = lo + i by omega]
    exact .int _
  · rw [List.getElem?_eq_none (by simp; omega)] at e; cases e
theorem wk_rangeC {K : PySem.W.Frag} {C : Cfg} {lo c : Int} {n : Nat} {T : Hp → List Addr → Prop} : Wk K C (Itc lo c n) T (rangeP lo c n) := by
  intro i H2 O2 t hd
  refine ⟨fun d e => ?_, fun e => by show n ≤ i; simp [rangeP] at e; omega⟩
  unfold rangeP at e
  rw [List.getElem?_map] at e
  by_cases hi : i < n
  · rw [List.getElem?_range hi] at e
    cases e
    refine ⟨hi, fun x H3 ⟨e3, hx⟩ => ?_⟩
    subst e3 hx
    exact ⟨Sm.refl _, .int _⟩
  · rw [List.getElem?_eq_none (by simp; omega)] at e; cases e
def cSm (i : Int) : Bool := decide (-(2 ^ 62) ≤ i) && decide (i < 2 ^ 62)
def rg1S : List S → R (List PyData)
  | [x] => do let j ← x.i; chk (cSm j) (.ok (rangeP 0 1 j.toNat))
  | _ => .bad
def rg2S : List S → R (List PyData)
  | [x, y] => do let i ← x.i; let j ← y.i; chk (cSm i && cSm j) (.ok (rangeP i 1 (j - i).toNat))
  | _ => .bad
/-- range(i, j, -1) -/
def rg3S : List S → R (List PyData)
  | [x, y, z] => do let i ← x.i; let j ← y.i; let c ← z.i; chk (decide (c = -1) && cSm i && cSm j) (.ok (rangeP i (-1) (i - j).toNat))
  | _ => .bad
def iRg (h : List S → R (List PyData)) (fs : Env → R (List S)) : Env → R (List PyData) := fun δ => do let ss ← fs δ; h ss
theorem runIA {K : PySem.W.Frag} {σ : St} {H : Hp} {O : List Addr} {δ : Env} {h : List S → R (List PyData)} {Q : It → Hp → Prop} {Q' : List V → Hp → Prop} (rep : Rep K C H O δ σ) (nx : ∀ s k p, h s ≠ .exc k p)
    (w : match (fs δ >>= h) with
      | .ok ds => ∀ J H1, Sm C H H1 → Wk K C J (TT C b H1 O) ds → Q J H1
      | .exc k p => ∀ v d H', Sm C H H' → H' d = some (.xd [(C.fld k, v)]) → Dp K (Hm H' O) v p → W (.ref (C.exc k)) (some d) σ H'
      | .bad => False)
    (ho : ∀ s ds, fs δ = .ok s → h s = .ok ds → ∀ v H1, Sm C H H1 → BVs K C H1 O v s → (∀ J H2, Sm C H1 H2 → Wk K C J (TT C b H2 O) ds → Q J H2) → Q' v H1) : tDA K C W fs σ H Q' := by
  refine ⟨δ, O, rep, ?_⟩
  cases ef : fs δ with
  | ok s =>
    rw [ef] at w
    simp only [R.ok_bind] at w
    cases eh : h s with
    | ok ds => rw [eh] at w; exact fun v H1 s1 bv => ho s ds ef eh v H1 s1 bv fun J H2 s2 wk => w J H2 (s1.trans s2) wk
    | exc k p => exact (nx s k p eh).elim
    | bad => rw [eh] at w; exact w.elim
  | exc k p => rw [ef] at w; exact w
  | bad => rw [ef] at w; exact w.elim
theorem rg1_ne (s : List S) : ∀ k p, rg1S s ≠ .exc k p := by
  unfold rg1S
  split
  · exact bind_ne (i_ne _) fun _ => chk_ne (ok_ne _)
  · exact bad_ne
theorem rg2_ne (s : List S) : ∀ k p, rg2S s ≠ .exc k p := by
  unfold rg2S
  split
  · exact bind_ne (i_ne _) fun _ => bind_ne (i_ne _) fun _ => chk_ne (ok_ne _)
  · exact bad_ne
theorem rg3_ne (s : List S) : ∀ k p, rg3S s ≠ .exc k p := by
  unfold rg3S
  split
  · exact bind_ne (i_ne _) fun _ => bind_ne (i_ne _) fun _ => bind_ne (i_ne _) fun _ => chk_ne (ok_ne _)
  · exact bad_ne
theorem bvs1 {K : PySem.W.Frag} {H : Hp} {O : List Addr} {vs : List V} {s : S} (h : BVs K C H O vs [s]) : ∃ v, vs = [v] ∧ BV K C H O v s := by
  cases h with | cons h r => cases r; exact ⟨_, rfl, h⟩
theorem bvs2 {K : PySem.W.Frag} {H : Hp} {O : List Addr} {vs : List V} {s t : S} (h : BVs K C H O vs [s, t]) : ∃ v w, vs = [v, w] ∧ BV K C H O v s ∧ BV K C H O w t := by
  cases h with | cons h r => cases r with | cons h' r => cases r; exact ⟨_, _, rfl, h, h'⟩
theorem bvs3 {K : PySem.W.Frag} {H : Hp} {O : List Addr} {vs : List V} {s t u : S} (h : BVs K C H O vs [s, t, u]) : ∃ v w x, vs = [v, w, x] ∧ BV K C H O v s ∧ BV K C H O w t ∧ BV K C H O x u := by
  cases h with | cons h r => cases r with | cons h' r => cases r with | cons h'' r => cases r; exact ⟨_, _, _, rfl, h, h', h''⟩
theorem di_range1 (hg : Gl X "range") (hm : X.mg "range" = none) (ha : DA X C W [e] fs) (hs : starEach [e] X.env = [(false, eval e X.env)] := by rfl) : DI X C W b tg (.Call (.Name "range" p) [e] [] pos) (iRg rg1S fs) := by
  refine PI.imp (pi_range1 hg hm ha hs) fun σ H Q ⟨δ, O, rep, w⟩ => ?_
  refine runIA (h := rg1S) rep rg1_ne w fun s ds e1 e2 v H1 s1 bv q => ?_
  unfold rg1S at e2
  split at e2
  · rename_i x
    obtain ⟨j, e3, e4⟩ := bind_ok e2
    obtain ⟨c, e5⟩ := chk_ok e4
    cases e5
    obtain ⟨v', rfl, b'⟩ := bvs1 bv
    rw [S.i_eq e3] at b'
    simp only [cSm, Bool.and_eq_true, decide_eq_true_eq] at c
    exact ⟨j, by rw [bv_int b'], c.1, c.2, q _ H1 (Sm.refl _) wk_range⟩
  · cases e2
theorem di_range2 {e2 : Expr} (hg : Gl X "range") (hm : X.mg "range" = none) (ha : DA X C W [e, e2] fs) (hs : starEach [e, e2] X.env = [(false, eval e X.env), (false, eval e2 X.env)] := by rfl) (hs2 : starEach [e2] X.env = [(false, eval e2 X.env)] := by rfl) :
    DI X C W b tg (.Call (.Name "range" p) [e, e2] [] pos) (iRg rg2S fs) := by
  refine PI.imp (pi_range2 hg hm ha hs hs2) fun σ H Q ⟨δ, O, rep, w⟩ => ?_
  refine runIA (h := rg2S) rep rg2_ne w fun s ds e1 e2 v H1 s1 bv q => ?_
  unfold rg2S at e2
  split at e2
  · rename_i x y
    obtain ⟨i, e3, e4⟩ := bind_ok e2
    obtain ⟨j, e3', e4⟩ := bind_ok e4
    obtain ⟨c, e5⟩ := chk_ok e4
    cases e5
    obtain ⟨v', w', rfl, b', b''⟩ := bvs2 bv
    rw [S.i_eq e3] at b'
    rw [S.i_eq e3'] at b''
    simp only [cSm, Bool.and_eq_true, decide_eq_true_eq] at c
    exact ⟨i, j, by rw [bv_int b', bv_int b''], ⟨c.1.1, c.1.2, c.2.1, c.2.2⟩, q _ H1 (Sm.refl _) wk_range⟩
  · cases e2
theorem rgc_down {i j : Int} (h1 : -(2 ^ 62) ≤ i) (h2 : i < 2 ^ 62) (h3 : -(2 ^ 62) ≤ j) (h4 : j < 2 ^ 62) : RgC i j (-1) (i - j).toNat :=
  ⟨by decide, by decide, PySem.W.small_down h1 h2 h3 h4, PySem.W.rangeSize_downNat i j⟩
theorem di_range3 {e2 e3 : Expr} (hg : Gl X "range") (hm : X.mg "range" = none) (ha : DA X C W [e, e2, e3] fs) (hs : starEach [e, e2, e3] X.env = (false, eval e X.env) :: starEach [e2, e3] X.env := by rfl) (hpl : (backTo pos (starEach [e2, e3] X.env)).any (·.1) = false := by rfl) :
    DI X C W b tg (.Call (.Name "range" p) [e, e2, e3] [] pos) (iRg rg3S fs) := by
  refine PI.imp (pi_range3 hg hm ha hs hpl) fun σ H Q ⟨δ, O, rep, w⟩ => ?_
  refine runIA (h := rg3S) rep rg3_ne w fun s ds e1 e2 v H1 s1 bv q => ?_
  unfold rg3S at e2
  split at e2
  · rename_i x y z
    obtain ⟨i, g1, e4⟩ := bind_ok e2
    obtain ⟨j, g2, e4⟩ := bind_ok e4
    obtain ⟨c, g3, e4⟩ := bind_ok e4
    obtain ⟨ck, e5⟩ := chk_ok e4
    cases e5
    obtain ⟨v', w', u', rfl, b1, b2, b3⟩ := bvs3 bv
    rw [S.i_eq g1] at b1
    rw [S.i_eq g2] at b2
    rw [S.i_eq g3] at b3
    simp only [cSm, Bool.and_eq_true, decide_eq_true_eq] at ck
    obtain ⟨⟨hc, c1⟩, c2⟩ := ck
    subst hc
    exact ⟨i, j, -1, _, by rw [bv_int b1, bv_int b2, bv_int b3], rgc_down c1.1 c1.2 c2.1 c2.2, q _ H1 (Sm.refl _) wk_rangeC⟩
  · cases e2
end

/-! ### targets -/
/-- what a target makes of the slots -/
def gN (i : Nat) : PyData → Env → R Env := fun d δ => .ok (δ.set i (some (.d d)))
def gAll : List (PyData → Env → R Env) → List PyData → Env → R Env
  | [], [], δ => .ok δ
  | g :: gs, d :: ds, δ => do let δ' ← g d δ; gAll gs ds δ'
  | _, _, _ => .bad
def gT (gs : List (PyData → Env → R Env)) : PyData → Env → R Env := fun d δ => match d with
  | .tuple ds => gAll gs ds δ
  | _ => .bad
/-- vs: the slots that it may set -/
def tG (K : PySem.W.Frag) (C : Cfg) (io : List Nat) (vs : List Nat) (g : PyData → Env → R Env) : TG := fun v σ H Q => ∃ B O₀ pn δ O d, pn.map (·.1) = io ∧ Rp K C B O₀ pn H O δ σ ∧ Dp K (Hm H O) v d ∧ match g d δ with
  | .ok δ' => ∀ σ', Rp K C B O₀ pn H O δ' σ' → (∀ ws : List Nat, (∀ i ∈ vs, i ∈ ws) → wipe σ' ws = wipe σ ws) → Q σ' H
  | _ => False
def tGs (K : PySem.W.Frag) (C : Cfg) (io : List Nat) (vs : List Nat) (gs : List (PyData → Env → R Env)) : TGs := fun us σ H Q => ∃ B O₀ pn δ O ds, pn.map (·.1) = io ∧ Rp K C B O₀ pn H O δ σ ∧ DpAll K (Hm H O) us ds ∧ match gAll gs ds δ with
  | .ok δ' => ∀ σ', Rp K C B O₀ pn H O δ' σ' → (∀ ws : List Nat, (∀ i ∈ vs, i ∈ ws) → wipe σ' ws = wipe σ ws) → Q σ' H
  | _ => False
abbrev DG (X : Cx) (C : Cfg) (io vs : List Nat) (e : Expr) (g : PyData → Env → R Env) : Prop := PG X e (tG X.K C io vs g)
abbrev DGs (X : Cx) (C : Cfg) (io vs : List Nat) (es : List Expr) (gs : List (PyData → Env → R Env)) : Prop := PGs X es (tGs X.K C io vs gs)
theorem PG.imp {X : Cx} {e : Expr} {t t' : TG} (h : PG X e t) (k : ∀ v σ H Q, t' v σ H Q → t v σ H Q) : PG X e t' := ⟨fun pins s σ H v u Q I r w => h.run pins s σ H v u Q I r (k v σ H Q w)⟩
theorem PGs.imp {X : Cx} {e : List Expr} {t t' : TGs} (h : PGs X e t) (k : ∀ v σ H Q, t' v σ H Q → t v σ H Q) : PGs X e t' := ⟨fun pins s σ H v u Q I r w => h.run pins s σ H v u Q I r (k v σ H Q w)⟩
theorem wipe_set {σ : St} {i : Nat} {v : Option V} : ∀ {ws : List Nat}, i ∈ ws → wipe (σ.set i v) ws = wipe σ ws
  | [], h => by cases h
  | w :: ws, h => by
    show (wipe (σ.set i v) ws).set w none = (wipe σ ws).set w none
    by_cases hi : i ∈ ws
    · rw [wipe_set hi]
    · rcases List.mem_cons.mp h with rfl | h
      · have go : ∀ {σ : St} (us : List Nat), i ∉ us → wipe (σ.set i v) us = (wipe σ us).set i v := by
          intro σ us
          induction us with
          | nil => intro _; rfl
          | cons u us ih =>
            intro hu
            show (wipe (σ.set i v) us).set u none = ((wipe σ us).set u none).set i v
            rw [ih (fun z => hu (List.mem_cons_of_mem _ z)), List.set_comm]
            intro z
            exact hu (by rw [z]; exact List.mem_cons_self)
        rw [go ws hi, List.set_set]
      · exact (hi h).elim
section
variable {X : Cx} {C : Cfg} {io vs us : List Nat} {e : Expr} {es : List Expr} {g : PyData → Env → R Env} {gs : List (PyData → Env → R Env)} {pos : Pos}
theorem dg_name (i : Nat) {x : Str} (hN : X.N.Nodup) (hio : io.contains i = false := by rfl) (hi : X.N[i]? = some x := by rfl) (hx : Loc X.env.scope x := by first | exact Or.inl rfl | exact Or.inr rfl) (hf : X.fn x = true ∨ X.env.scope.names.lookup x = some .local := by first | exact .inl rfl | exact .inr rfl) :
    DG X C io [i] (.Name x pos) (gN i) := by
  refine PG.imp (pg_name hN hi hx hf) fun v σ H Q ⟨B, O₀, pn, δ, O, d, hpn, rp, dp, w⟩ => ?_
  exact w _ (rp.set (s := .d d) rfl (.d dp) (io_ne hpn hio)) fun ws h => wipe_set (h i List.mem_cons_self)
theorem dgs_nil : DGs X C io [] [] [] := by
  refine PGs.imp pgs_nil fun v σ H Q ⟨B, O₀, pn, δ, O, ds, hpn, rp, dp, w⟩ => ?_
  cases dp with
  | nil => exact ⟨rfl, w σ rp fun _ _ => rfl⟩
  | cons => exact w.elim
theorem dgs_cons (h1 : DG X C io vs e g) (h2 : DGs X C io us es gs) (hs : (assignEach (e :: es) X.env).map (·.2) = assign e X.env :: (assignEach es X.env).map (·.2) := by rfl) : DGs X C io (vs ++ us) (e :: es) (g :: gs) := by
  refine PGs.imp (pgs_cons h1 h2 hs) fun v σ H Q ⟨B, O₀, pn, δ, O, ds, hpn, rp, dp, w⟩ => ?_
  cases dp with
  | nil => exact w.elim
  | @cons v vs' d ds h0 r =>
    refine ⟨v, vs', rfl, B, O₀, pn, δ, O, d, hpn, rp, h0, ?_⟩
    simp only [gAll] at w
    cases eg : g d δ with
    | ok δ1 =>
      rw [eg] at w
      simp only [R.ok_bind] at w
      intro σ1 rp1 hw
      refine ⟨B, O₀, pn, δ1, O, ds, hpn, rp1, r, ?_⟩
      cases ea : gAll gs ds δ1 with
      | ok δ2 => rw [ea] at w; exact fun σ2 rp2 hw2 => w σ2 rp2 fun ws h => (hw2 ws fun i hi => h i (List.mem_append_right _ hi)).trans (hw ws fun i hi => h i (List.mem_append_left _ hi))
      | exc k p => rw [ea] at w; exact w
      | bad => rw [ea] at w; exact w
    | exc k p => rw [eg] at w; exact w
    | bad => rw [eg] at w; exact w
theorem dg_tup {k : Nat} (hc : X.calm = true) (h : DGs X C io vs es gs) (hn : (assignEach es X.env).length = gs.length := by rfl) (hst : (assignEach es X.env).findIdx? (·.1) = none := by rfl) : DG X C io vs (.Tuple es k pos) (gT gs) := by
  refine PG.imp (pg_tup hc h hn hst) fun v σ H Q ⟨B, O₀, pn, δ, O, d, hpn, rp, dp, w⟩ => ?_
  cases d with
  | tuple ds =>
    cases dp with
    | tup hq r =>
      have len : ∀ (gs : List (PyData → Env → R Env)) (ds : List PyData) (δ : Env), ds.length ≠ gs.length → gAll gs ds δ = .bad ∨ ∃ k p, gAll gs ds δ = .exc k p := by
        intro gs
        induction gs with
        | nil => intro ds δ h; cases ds with
          | nil => exact (h rfl).elim
          | cons => exact .inl rfl
        | cons g gs ih => intro ds δ h; cases ds with
          | nil => exact .inl rfl
          | cons d ds =>
            show (g d δ >>= fun δ' => gAll gs ds δ') = .bad ∨ ∃ k p, (g d δ >>= fun δ' => gAll gs ds δ') = .exc k p
            cases g d δ with
            | ok δ' => exact ih ds δ' (by simpa using h)
            | exc k p => exact .inr ⟨k, p, rfl⟩
            | bad => exact .inl rfl
      have hl : ds.length = gs.length := by
        by_cases z : ds.length = gs.length
        · exact z
        · have w : match gAll gs ds δ with | .ok δ' => _ | _ => False := w
          rcases len gs ds δ z with q | ⟨k, p, q⟩
          · rw [q] at w; exact w.elim
          · rw [q] at w; exact w.elim
      exact ⟨_, _, rfl, sqT_same hm_le hq, by rw [dpa_length r]; exact hl, B, O₀, pn, δ, O, ds, hpn, rp, r, w⟩
  | _ => exact w.elim
end
end DL

set_option Elab.async false
set_option linter.all false
set_option maxRecDepth 100000
set_option maxHeartbeats 1000000
/-! DL7: for, while, list comprehensions. -/
namespace DL
open PySem PySem.Spec L2

/-! ### for -/
def sLoop (g : PyData → Env → R Env) (u : Env → SR) : List PyData → Env → SR
  | [], δ => .next δ
  | d :: ds, δ => match g d δ with
    | .ok δ1 => (match u δ1 with
      | .next δ2 => sLoop g u ds δ2
      | .cnt δ2 => sLoop g u ds δ2
      | .brk δ2 => .next δ2
      | r => r)
    | _ => .bad
def sFor (fi : Env → R (List PyData)) (g : PyData → Env → R Env) (u : Env → SR) : Env → SR := fun δ => match fi δ with
  | .ok ds => sLoop g u ds δ
  | .exc k p => .exc k p δ
  | .bad => .bad
section
variable {X : Cx} {C : Cfg} {W : WX} {io vs : List Nat} {tg iter : Expr} {body : List Stmt} {fi : Env → R (List PyData)} {g : PyData → Env → R Env} {u : Env → SR} {pos : Pos}
theorem ds_for (hp : PassesOwn (model X.prog X.w) X.A X.env X.xe) (hc : X.calm = true) (hi : DI X C W true tg iter fi) (hg : DG X C io vs tg g) (hb : DSs X C W io body u) (hs : ∀ x, foldedSetIterable iter X.env x = pure x := by intro _; rfl) :
    DS X C W io (.For tg iter body [] pos) (sFor fi g u) := by
  refine PS.imp (ps_for hp hc hi hg hb hs) fun D σ H ⟨B, O₀, pn, δ, O, hpn, rp, h⟩ => ?_
  refine ⟨δ, O, rp.rep, ?_⟩
  unfold sFor at h
  cases ef : fi δ with
  | exc k p => rw [ef] at h; exact fun v d H' a => h v d σ H' O (hm_same a) (rp.same a)
  | bad => rw [ef] at h; exact h.elim
  | ok ds =>
    rw [ef] at h
    intro J H1 s1 wk
    refine ⟨fun i m σ' H' => m = ds.length - i ∧ i ≤ ds.length ∧ ∃ δ' O', Stay H1 O H' O' ∧ Rp X.K C B O₀ pn H' O' δ' σ' ∧ PostS X.K C W B O₀ pn D H' O' (sLoop g u (ds.drop i) δ'), ⟨ds.length, by simp, Nat.zero_le _, δ, O, Stay.refl _ _, rp.same s1, postS_mono (Stay.of s1) h⟩, ?_⟩
    rintro i m σ' H' ⟨rfl, hi, δ', O', st, rp', h'⟩
    obtain ⟨w1, w2⟩ := wk i H' O' ⟨st, fun z => nomatch z⟩ rp'.dom
    by_cases hlt : i < ds.length
    · obtain ⟨go, yl⟩ := w1 ds[i] (List.getElem?_eq_getElem hlt)
      refine .inr ⟨go, fun σ2 H2 => ∃ δ2 O2, Stay H1 O H2 O2 ∧ Rp X.K C B O₀ pn H2 O2 δ2 σ2 ∧ PostS X.K C W B O₀ pn D H2 O2 (sLoop g u (ds.drop (i + 1)) δ2), fun σ2 H2 ⟨δ2, O2, a, b, c⟩ => ⟨_, by omega, rfl, hlt, δ2, O2, a, b, c⟩, fun x H3 y => ?_⟩
      obtain ⟨s3, dp⟩ := yl x H3 y
      refine ⟨B, O₀, pn, δ', O', _, hpn, rp'.same s3, dp, ?_⟩
      have h2 : PostS X.K C W B O₀ pn D H3 O' (sLoop g u (ds.drop i) δ') := postS_mono (Stay.of s3) h'
      rw [List.drop_eq_getElem_cons hlt] at h2
      simp only [sLoop] at h2
      have st3 : Stay H1 O H3 O' := st.trans (Stay.of s3)
      cases eg : g ds[i] δ' with
      | exc k p => rw [eg] at h2; exact h2.elim
      | bad => rw [eg] at h2; exact h2.elim
      | ok δ1 =>
        rw [eg] at h2
        simp only at h2
        intro σ2 rp2 _
        refine ⟨B, O₀, pn, δ1, O', hpn, rp2, ?_⟩
        cases eu : u δ1 with
        | next δ2 => rw [eu] at h2; exact fun σ4 H4 O4 a r => ⟨δ2, O4, st3.trans a, r, postS_mono a h2⟩
        | cnt δ2 => rw [eu] at h2; exact fun σ4 H4 O4 a r => ⟨δ2, O4, st3.trans a, r, postS_mono a h2⟩
        | brk δ2 => rw [eu] at h2; exact h2
        | ret s δ2 => rw [eu] at h2; exact h2
        | exc k p δ2 => rw [eu] at h2; exact h2
        | bad => rw [eu] at h2; exact h2
    · have e : i = ds.length := by omega
      refine .inl ⟨w2 e, ?_⟩
      subst e
      rw [List.drop_length] at h'
      exact h' σ' H' O' (Stay.refl _ _) rp'

/-! ### while, so many turns at most -/
def sWhileN (t : Env → R Bool) (u : Env → SR) : Nat → Env → SR
  | 0, _ => .bad
  | n + 1, δ => match t δ with
    | .ok true => (match u δ with
      | .next δ2 => sWhileN t u n δ2
      | .cnt δ2 => sWhileN t u n δ2
      | .brk δ2 => .next δ2
      | r => r)
    | .ok false => .next δ
    | .exc k p => .exc k p δ
    | .bad => .bad
def sWhile (n : Env → Nat) (t : Env → R Bool) (u : Env → SR) : Env → SR := fun δ => sWhileN t u (n δ) δ
theorem ds_while {t : Env → R Bool} {c : Expr} (n : Env → Nat) (hp : PassesOwn (model X.prog X.w) X.A X.env X.xe) (hc : DT X C W c t) (hb : DSs X C W io body u) : DS X C W io (.While c body [] pos) (sWhile n t u) := by
  refine PS.imp (ps_while hp hc hb) fun D σ H ⟨B, O₀, pn, δ, O, hpn, rp, h⟩ => ?_
  refine ⟨fun m σ' H' => ∃ δ' O', Rp X.K C B O₀ pn H' O' δ' σ' ∧ PostS X.K C W B O₀ pn D H' O' (sWhileN t u m δ'), ⟨n δ, δ, O, rp, h⟩, ?_⟩
  rintro m σ' H' ⟨δ', O', rp', h'⟩
  refine ⟨δ', O', rp'.rep, ?_⟩
  cases m with
  | zero => exact h'.elim
  | succ m =>
    simp only [sWhileN] at h'
    cases et : t δ' with
    | exc k p => rw [et] at h'; exact fun v d H2 a => h' v d σ' H2 O' (hm_same a) (rp'.same a)
    | bad => rw [et] at h'; exact h'.elim
    | ok b =>
      rw [et] at h'
      intro H2 s2
      cases b with
      | false => rw [if_neg Bool.false_ne_true]; exact h' σ' H2 O' (Stay.of s2) (rp'.same s2)
      | true =>
        rw [if_pos rfl]
        simp only at h'
        refine ⟨fun σ4 H4 => ∃ δ4 O4, Rp X.K C B O₀ pn H4 O4 δ4 σ4 ∧ PostS X.K C W B O₀ pn D H4 O4 (sWhileN t u m δ4), fun σ4 H4 q => ⟨m, Nat.lt_succ_self m, q⟩, B, O₀, pn, δ', O', hpn, rp'.same s2, ?_⟩
        have h2 := postS_mono (K := X.K) (C := C) (W := W) (B := B) (O₀ := O₀) (pn := pn) (D := D) (Stay.of (O := O') s2) h'
        cases eu : u δ' with
        | next δ2 => rw [eu] at h2; exact fun σ4 H4 O4 a r => ⟨δ2, O4, r, postS_mono a h2⟩
        | cnt δ2 => rw [eu] at h2; exact fun σ4 H4 O4 a r => ⟨δ2, O4, r, postS_mono a h2⟩
        | brk δ2 => rw [eu] at h2; exact h2
        | ret s δ2 => rw [eu] at h2; exact h2
        | exc k p δ2 => rw [eu] at h2; exact h2
        | bad => rw [eu] at h2; exact h2

/-! ### [elt for tg in iter if ..] -/
/-- no own exception may leave -/
def noX {α : Type} : R α → R α
  | .exc _ _ => .bad
  | r => r
@[simp] theorem noX_ok {α : Type} (a : α) : noX (R.ok a) = .ok a := (rfl)
theorem noX_ne {α : Type} (r : R α) : ∀ k p, noX r ≠ .exc k p := by
  intro k p h
  cases r with
  | ok a => cases h
  | exc k p => cases h
  | bad => cases h
theorem noX_inv {α : Type} {r : R α} {a : α} (h : noX r = .ok a) : r = .ok a := by
  cases r with
  | ok b => exact h
  | exc k p => cases h
  | bad => cases h
def compL (g : PyData → Env → R Env) (t : Env → R Bool) (f : Env → R S) (δ : Env) : List PyData → R (List PyData)
  | [] => .ok []
  | d :: ds => do
    let δ1 ← g d δ
    let c ← t δ1
    if c then do
      let s ← f δ1
      let x ← s.pd
      let r ← compL g t f δ ds
      .ok (x :: r)
    else compL g t f δ ds
def wipeD (δ : Env) : List Nat → Env
  | [] => δ
  | v :: vs => (wipeD δ vs).set v none
def kComp (fi : Env → R (List PyData)) (g : PyData → Env → R Env) (t : Env → R Bool) (f : Env → R S) (vs : List Nat) : Env → R S := fun δ => do
  let ds ← fi δ
  let xs ← noX (compL g t f (wipeD δ vs) ds)
  chk (decide (ds.length ≤ 1000000)) (.ok (.l .fr xs))
theorem Rp.wiped {K : PySem.W.Frag} {B H : Hp} {O₀ O : List Addr} {δ : Env} {σ : St} (r : Rp K C B O₀ [] H O δ σ) : ∀ ws : List Nat, Rp K C B O₀ [] H O (wipeD δ ws) (wipe σ ws)
  | [] => r
  | w :: ws => (r.wiped ws).gone (v := none) (fun _ h => by cases h)
/-- one place more of one's own, no slot's -/
theorem Rp.more {K : PySem.W.Frag} {H H' : Hp} {O : List Addr} {δ : Env} {σ : St} {a : Addr} (r : Rep K C H O δ σ) (e : Sm C H H') (ha : Nn H a) (hm : ∃ u, H' a = some u ∧ Mut (some u)) : Rp K C (fun _ => none) [] [] H' (a :: O) δ σ where
  len := r.len
  slot := fun i s h => let ⟨q, v, e1, b⟩ := r.slot i s h; ⟨q, v, e1, bv_more b e ha q⟩
  uniq := r.uniq
  ownB := fun _ _ _ _ _ _ => ⟨.of rfl, Or.inr (by simp)⟩
  dom := fun b hb => by
    rcases List.mem_cons.mp hb with rfl | hb
    · exact hm
    · exact r.dom.same e b hb
  base := ⟨fun _ _ e => (by cases e), fun _ => e.ts r.tabs⟩
  sub := fun _ h => by cases h
  new := fun _ _ => Or.inr (.of rfl)
  pin := fun _ h => by cases h
  tabs := e.ts r.tabs
theorem set_none_wipe {σ : St} {v : Nat} : ∀ {ws : List Nat}, v ∈ ws → (wipe σ ws).set v none = wipe σ ws
  | [], h => by cases h
  | w :: ws, h => by
    show ((wipe σ ws).set w none).set v none = (wipe σ ws).set w none
    rcases List.mem_cons.mp h with rfl | h
    · rw [List.set_set]
    · by_cases e : w = v
      · subst e; rw [List.set_set]
      · rw [List.set_comm _ _ e, set_none_wipe h]
theorem wipe_sub {σ : St} {vs : List Nat} : ∀ (ws : List Nat), (∀ w ∈ ws, w ∈ vs) → wipe (wipe σ vs) ws = wipe σ vs
  | [], _ => rfl
  | w :: ws, h => by
    show (wipe (wipe σ vs) ws).set w none = wipe σ vs
    rw [wipe_sub ws fun x hx => h x (List.mem_cons_of_mem _ hx)]
    exact set_none_wipe (h w List.mem_cons_self)
theorem wipe_twice (σ : St) (vs : List Nat) : wipe (wipe σ vs) vs = wipe σ vs := wipe_sub vs fun _ h => h
abbrev W0 : WX := fun _ _ _ _ => False
theorem lc_coreD {K : PySem.W.Frag} {t : Env → R Bool} {f : Env → R S} {vs us : List Nat} {σ : St} {H : Hp} {Q : VK} (hus : ∀ i ∈ us, i ∈ vs) (h : tD K C W (kComp fi g t f vs) σ H Q) :
    tLc (tI K C W false fi) (tG K C [] us g) (tDT K C W0 t) (tD K C W0 f) vs σ H Q := by
  obtain ⟨δ, O, rep, h⟩ := h
  refine ⟨δ, O, rep, ?_⟩
  unfold kComp at h
  cases ef : fi δ with
  | exc k p => rw [ef] at h; exact h
  | bad => rw [ef] at h; exact h.elim
  | ok ds =>
    rw [ef] at h
    simp only [R.ok_bind] at h
    cases ex : noX (compL g t f (wipeD δ vs) ds) with
    | exc k p => exact (noX_ne _ k p ex).elim
    | bad => rw [ex] at h; exact h.elim
    | ok xs =>
      rw [ex] at h
      simp only [R.ok_bind] at h
      cases ec : decide (ds.length ≤ 1000000) with
      | false => rw [ec] at h; exact h.elim
      | true =>
        rw [ec, chk_true] at h
        have hlen := of_decide_eq_true ec
        have ex' := noX_inv ex
        intro J H1 s1 wk D hD
        have rep1 := rep.same s1
        refine ⟨fun i m H' => m = ds.length - i ∧ i ≤ ds.length ∧ ∃ acc ys rs, H' D = some (.lst acc) ∧ Sm C H1 H' ∧ DpAll K (Hm H' (D :: O)) acc ys ∧ ys.length ≤ i ∧ compL g t f (wipeD δ vs) (ds.drop i) = .ok rs ∧ xs = ys ++ rs,
          ⟨ds.length, by simp, Nat.zero_le _, [], [], xs, upd_same, same_new hD, .nil, Nat.le_refl _, by simpa using ex', by simp⟩, ?_⟩
        rintro i m H' ⟨rfl, hi, acc, ys, rs, hDa, sm, da, hy, ec', exs⟩
        have rp : Rp K C (fun _ => none) [] [] H' (D :: O) δ σ := Rp.more rep1 sm (.of hD) ⟨_, hDa, trivial⟩
        have rw0 := rp.wiped vs
        have st : Stay H1 O H' (D :: O) := fun b o q => by
          obtain ⟨m, q'⟩ := hm_some q
          exact hm_mk (by simp [ne_of_none q' hD, m]) (sm.kp _ _ q' (hm_nt q)) (hm_nt q)
        obtain ⟨w1, w2⟩ := wk i H' (D :: O) ⟨st, fun _ => sm⟩ rp.dom
        by_cases hlt : i < ds.length
        · obtain ⟨go, yl⟩ := w1 ds[i] (List.getElem?_eq_getElem hlt)
          rw [List.drop_eq_getElem_cons hlt] at ec'
          simp only [compL] at ec'
          obtain ⟨δ1, eg, ec'⟩ := bind_ok ec'
          obtain ⟨c, et, ec'⟩ := bind_ok ec'
          refine .inr ⟨go, fun H2 => ∃ acc ys rs, H2 D = some (.lst acc) ∧ Sm C H1 H2 ∧ DpAll K (Hm H2 (D :: O)) acc ys ∧ ys.length ≤ i + 1 ∧ compL g t f (wipeD δ vs) (ds.drop (i + 1)) = .ok rs ∧ xs = ys ++ rs,
            fun H2 q => ⟨_, by omega, rfl, hlt, q⟩, fun x H3 y => ?_⟩
          obtain ⟨s3, dp⟩ := yl x H3 y
          refine ⟨fun _ => none, [], [], wipeD δ vs, D :: O, ds[i], rfl, rw0.same s3, dp, ?_⟩
          rw [eg]
          intro σ2 rp2 hw
          refine ⟨?_, δ1, D :: O, rp2.rep, ?_⟩
          · have := hw vs hus
            rw [this]
            -- wiped twice
            exact wipe_twice σ vs
          · rw [et]
            intro H4 s4
            cases c with
            | false =>
              rw [if_neg Bool.false_ne_true]
              rw [if_neg Bool.false_ne_true] at ec'
              exact ⟨acc, ys, rs, s4.at (s3.at hDa), sm.trans (s3.trans s4), dpa_same (hm_same (s3.trans s4)) da, by omega, ec', exs⟩
            | true =>
              rw [if_pos rfl]
              rw [if_pos rfl] at ec'
              obtain ⟨s, es, ec'⟩ := bind_ok ec'
              obtain ⟨z, ez, ec'⟩ := bind_ok ec'
              obtain ⟨rs', er, ec'⟩ := bind_ok ec'
              refine ⟨δ1, D :: O, rp2.rep.same s4, ?_⟩
              rw [es]
              intro v H5 s5 bv fr
              have s35 := s3.trans (s4.trans s5)
              have la := dpa_length da
              refine ⟨acc, s35.at hDa, small_lineS (by omega), acc ++ [v], ys ++ [z], rs', upd_same, ?_, ?_, by simp; omega, er, by cases ec'; simp [exs]⟩
              · exact sm_upd (sm.trans s35) (.of hD) (s35.at hDa) trivial
              · rw [hm_upd List.mem_cons_self]
                exact dpa_app (dpa_same (hm_same s35) da) (.cons (bv_pd bv ez) .nil)
        · have e : i = ds.length := by omega
          refine .inl ⟨w2 e, ?_⟩
          subst e
          rw [List.drop_length] at ec'
          cases ec'
          rw [List.append_nil] at exs
          subst exs
          exact h _ H' (s1.trans sm) (.fl (not_mem_dom rep1.dom hD) hDa da) ⟨D, rfl, s1.free (.of hD)⟩

/-- no test, one test -/
def tTrue : Env → R Bool := fun _ => .ok true
theorem dts_nil {W : WX} : PTs X [] (tDT X.K C W tTrue) := ⟨fun pins s σ H Q I ⟨δ, O, rep, h⟩ => pts_nil.run pins s σ H Q I (h H (Sm.refl H))⟩
theorem dts_one {W : WX} {c : Expr} {t : Env → R Bool} (h : DT X C W c t) : PTs X [c] (tDT X.K C W t) := pts_one h
variable {elt : Expr} {ifs : List Expr} {scope : Scope} {own : List (Str × Nat)} {us : List Nat} {t : Env → R Bool} {f : Env → R S}
theorem de_lc (hc : X.calm = true) (hN : X.N.Nodup) (hi : DI X C W false tg iter fi) (ok : BlkOk X.N X.env.scope scope own)
    (hg : ∀ (s : Shared) (H : Hp) (Ca : Addr) (cl : List (Str × Addr)) (fp : List Addr), DG (X.blk s H scope (PySem.compEnvC scope cl Ca X.env) fp) C [] us tg g)
    (ht : ∀ (s : Shared) (H : Hp) (Ca : Addr) (cl : List (Str × Addr)) (fp : List Addr), PTs (X.blk s H scope (PySem.compEnvC scope cl Ca X.env) fp) ifs (tDT X.K C W0 t))
    (he : ∀ (s : Shared) (H : Hp) (Ca : Addr) (cl : List (Str × Addr)) (fp : List Addr), DE (X.blk s H scope (PySem.compEnvC scope cl Ca X.env) fp) C W0 elt f)
    (hus : us.all (fun i => (own.map (·.2)).contains i) = true := by rfl) (hs : ∀ x, foldedSetIterable iter X.env x = pure x := by intro _; rfl) :
    DE X C W (.ListComp elt [⟨tg, iter, ifs, 0⟩] scope pos) (kComp fi g t f (own.map (·.2))) :=
  PE.imp (pe_lc hc hN hi ok hg ht he hs) fun σ H Q h => lc_coreD (fun i hi => by
    have := List.all_eq_true.mp hus i hi
    exact List.contains_iff_mem.mp this) h
theorem ds_asgLc (i : Nat) {y : Str} {py spos : Pos} (hc : X.calm = true) (hN : X.N.Nodup) (hi : DI X C W false tg iter fi) (ok : BlkOk X.N X.env.scope scope own)
    (hg : ∀ (s : Shared) (H : Hp) (Ca : Addr) (cl : List (Str × Addr)) (fp : List Addr), DG (X.blk s H scope (PySem.compEnvC scope cl Ca X.env) fp) C [] us tg g)
    (ht : ∀ (s : Shared) (H : Hp) (Ca : Addr) (cl : List (Str × Addr)) (fp : List Addr), PTs (X.blk s H scope (PySem.compEnvC scope cl Ca X.env) fp) ifs (tDT X.K C W0 t))
    (he : ∀ (s : Shared) (H : Hp) (Ca : Addr) (cl : List (Str × Addr)) (fp : List Addr), DE (X.blk s H scope (PySem.compEnvC scope cl Ca X.env) fp) C W0 elt f)
    (hio : io.contains i = false := by rfl) (hy : X.N[i]? = some y := by rfl) (hyl : X.env.scope.names.lookup y = some .local := by rfl)
    (hsw : swapsWith (.ListComp elt [⟨tg, iter, ifs, 0⟩] scope pos) (some (.Name y py)) spos.line X.env = pure true := by exact sw_true rfl rfl rfl (by decide +kernel))
    (hus : us.all (fun i => (own.map (·.2)).contains i) = true := by rfl) (hs : ∀ x, foldedSetIterable iter X.env x = pure x := by intro _; rfl) :
    DS X C W io (.Assign [.Name y py] (.ListComp elt [⟨tg, iter, ifs, 0⟩] scope pos) spos) (sAsg i (kComp fi g t f (own.map (·.2)))) :=
  PS.imp (ps_setLc hc hN hy hyl hsw hi ok hg ht he hs) fun D σ H h => lc_coreD (fun i hi => List.contains_iff_mem.mp (List.all_eq_true.mp hus i hi)) (asg_core hio h)
theorem ds_asgOLc (i : Nat) {y : Str} {py spos : Pos} (hc : X.calm = true) (hN : X.N.Nodup) (hi : DI X C W false tg iter fi) (ok : BlkOk X.N X.env.scope scope own)
    (hg : ∀ (s : Shared) (H : Hp) (Ca : Addr) (cl : List (Str × Addr)) (fp : List Addr), DG (X.blk s H scope (PySem.compEnvC scope cl Ca X.env) fp) C [] us tg g)
    (ht : ∀ (s : Shared) (H : Hp) (Ca : Addr) (cl : List (Str × Addr)) (fp : List Addr), PTs (X.blk s H scope (PySem.compEnvC scope cl Ca X.env) fp) ifs (tDT X.K C W0 t))
    (he : ∀ (s : Shared) (H : Hp) (Ca : Addr) (cl : List (Str × Addr)) (fp : List Addr), DE (X.blk s H scope (PySem.compEnvC scope cl Ca X.env) fp) C W0 elt f)
    (hio : io.contains i = false := by rfl) (hy : X.N[i]? = some y := by rfl) (hyl : X.env.scope.names.lookup y = some .local := by rfl)
    (hsw : swapsWith (.ListComp elt [⟨tg, iter, ifs, 0⟩] scope pos) (some (.Name y py)) spos.line X.env = pure true := by exact sw_true rfl rfl rfl (by decide +kernel))
    (hus : us.all (fun i => (own.map (·.2)).contains i) = true := by rfl) (hs : ∀ x, foldedSetIterable iter X.env x = pure x := by intro _; rfl) :
    DS X C W io (.Assign [.Name y py] (.ListComp elt [⟨tg, iter, ifs, 0⟩] scope pos) spos) (sAsgO i (kComp fi g t f (own.map (·.2)))) :=
  PS.imp (ps_setLc hc hN hy hyl hsw hi ok hg ht he hs) fun D σ H h => lc_coreD (fun i hi => List.contains_iff_mem.mp (List.all_eq_true.mp hus i hi)) (asgO_core hio h)
end
end DL

set_option Elab.async false
set_option linter.all false
set_option maxRecDepth 100000
set_option maxHeartbeats 1000000
/-! DL8: built-ins. -/
namespace DL
open PySem PySem.Spec L2

/-! ### rows of one kind -/
def intsR : List PyData → R (List Int)
  | [] => .ok []
  | .int i :: r => do let is ← intsR r; .ok (i :: is)
  | _ => .bad
def blsR : List PyData → R (List Bool)
  | [] => .ok []
  | .bool i :: r => do let is ← blsR r; .ok (i :: is)
  | _ => .bad
theorem intsR_eq : ∀ {ds : List PyData} {ns : List Int}, intsR ds = .ok ns → ds = ns.map .int
  | [], _, e => by cases e; rfl
  | d :: r, ns, e => by
    unfold intsR at e
    split at e
    · cases e; contradiction
    · rename_i i r' h
      cases h
      obtain ⟨is, e1, e2⟩ := bind_ok e
      cases e2
      rw [intsR_eq e1]; rfl
    · cases e
theorem blsR_eq : ∀ {ds : List PyData} {ns : List Bool}, blsR ds = .ok ns → ds = ns.map .bool
  | [], _, e => by cases e; rfl
  | d :: r, ns, e => by
    unfold blsR at e
    split at e
    · cases e; contradiction
    · rename_i i r' h
      cases h
      obtain ⟨is, e1, e2⟩ := bind_ok e
      cases e2
      rw [blsR_eq e1]; rfl
    · cases e
@[simp] theorem intsR_map (ns : List Int) : intsR (ns.map .int) = .ok ns := by
  induction ns with
  | nil => rfl
  | cons n ns ih => simp [intsR, ih]
@[simp] theorem blsR_map (ns : List Bool) : blsR (ns.map .bool) = .ok ns := by
  induction ns with
  | nil => rfl
  | cons n ns ih => simp [blsR, ih]
theorem intsR_ne : ∀ (ds : List PyData) k p, intsR ds ≠ .exc k p
  | [] => ok_ne _
  | d :: r => by
    unfold intsR
    split
    · exact ok_ne _
    · rename_i h; cases h; exact bind_ne (intsR_ne _) fun _ => ok_ne _
    · exact bad_ne
theorem blsR_ne : ∀ (ds : List PyData) k p, blsR ds ≠ .exc k p
  | [] => ok_ne _
  | d :: r => by
    unfold blsR
    split
    · exact ok_ne _
    · rename_i h; cases h; exact bind_ne (blsR_ne _) fun _ => ok_ne _
    · exact bad_ne

section
variable {X : Cx} {C : Cfg}
/-! ### one argument -/
def on1 (g : S → R S) : List S → R S
  | [s] => g s
  | _ => .bad
theorem on1_ne {g : S → R S} (h : ∀ s k p, g s ≠ .exc k p) : NoExcL (on1 g) := by
  intro ss k p
  unfold on1
  split
  · exact h _ k p
  · exact bad_ne k p
/-- a rule from what is asked of one value -/
theorem dc1 {f : Value} {r : List V → Hp → VK → Prop} {g : S → R S} (hr : CallR X f r) (hx : ∀ s k p, g s ≠ .exc k p)
    (h : ∀ O v s z H Q, Dom H O → BV X.K C H O v s → g s = .ok z → (∀ v' H', Sm C H H' → BV X.K C H' O v' z → Fresh H v' z → Q v' H') → r [v] H Q) : DCall X C f (on1 g) := by
  refine ⟨CallR.imp hr fun xs H Q w => ?_, on1_ne hx⟩
  obtain ⟨O, ss, z, hd, _, bv, e, k⟩ := w
  unfold on1 at e
  split at e
  · obtain ⟨v, rfl, b⟩ := bvs1 bv
    exact h O v _ z H Q hd b e k
  · cases e
def on2 (g : S → S → R S) : List S → R S
  | [s, t] => g s t
  | _ => .bad
theorem on2_ne {g : S → S → R S} (h : NoExc2 g) : NoExcL (on2 g) := by
  intro ss k p
  unfold on2
  split
  · exact h _ _ k p
  · exact bad_ne k p
theorem dc2 {f : Value} {r : List V → Hp → VK → Prop} {g : S → S → R S} (hr : CallR X f r) (hx : NoExc2 g)
    (h : ∀ O v w s t z H Q, Dom H O → BV X.K C H O v s → BV X.K C H O w t → g s t = .ok z → (∀ v' H', Sm C H H' → BV X.K C H' O v' z → Fresh H v' z → Q v' H') → r [v, w] H Q) : DCall X C f (on2 g) := by
  refine ⟨CallR.imp hr fun xs H Q w => ?_, on2_ne hx⟩
  obtain ⟨O, ss, z, hd, _, bv, e, k⟩ := w
  unfold on2 at e
  split at e
  · obtain ⟨v, w, rfl, b1, b2⟩ := bvs2 bv
    exact h O v w _ _ z H Q hd b1 b2 e k
  · cases e

def lenS : S → R S
  | .d (.str z) => chk (decide (z.length ≤ 1000000)) (.ok (.d (.int z.length)))
  | s => do let ds ← s.its; .ok (.d (.int ds.length))
theorem len_ne : ∀ s k p, lenS s ≠ .exc k p := by
  intro s
  unfold lenS
  split
  · exact chk_ne (ok_ne _)
  · exact bind_ne (its_ne _) fun _ => ok_ne _
theorem c_len : DCall X C (.builtin "len") (on1 lenS) := dc1 call_len len_ne fun O v s z H Q hd b e k => by
  unfold lenS at e
  split at e
  · obtain ⟨c, e⟩ := chk_ok e
    cases e
    exact ⟨_, _, rfl, by rw [bv_str b]; exact ⟨small_line (of_decide_eq_true c), rfl⟩, k _ H (Sm.refl H) (.d (.int _)) trivial⟩
  · obtain ⟨ds, e1, e⟩ := bind_ok e
    cases e
    obtain ⟨a, xs, rfl, h, r⟩ := bv_its b e1
    refine ⟨_, ds.length, rfl, ?_, k _ H (Sm.refl H) (.d (.int _)) trivial⟩
    rw [← dpa_length r]
    rcases h with h | h
    · exact .inl ⟨xs, h, rfl⟩
    · exact .inr ⟨xs, h, rfl⟩
def intS : S → R S
  | .d (.int i) => .ok (.d (.int i))
  | .d (.bool b) => .ok (.d (.int (if b then 1 else 0)))
  | _ => .bad
theorem int_ne : ∀ s k p, intS s ≠ .exc k p := by
  intro s; unfold intS; split
  · exact ok_ne _
  · exact ok_ne _
  · exact bad_ne
theorem c_int : DCall X C (.type "int") (on1 intS) := dc1 call_int1 int_ne fun O v s z H Q hd b e k => by
  unfold intS at e
  split at e
  · cases e
    exact .inl ⟨_, by rw [bv_int b], k _ H (Sm.refl H) (.d (.int _)) trivial⟩
  · cases e
    exact .inr ⟨_, by rw [bv_bl b], k _ H (Sm.refl H) (.d (.int _)) trivial⟩
  · cases e
def absS (s : S) : R S := do let i ← s.i; .ok (.d (.int (if i < 0 then -i else i)))
theorem c_abs : DCall X C (.builtin "abs") (on1 absS) := dc1 call_abs (fun s => bind_ne (i_ne s) fun _ => ok_ne _) fun O v s z H Q hd b e k => by
  obtain ⟨i, e1, e⟩ := bind_ok e
  cases e
  rw [S.i_eq e1] at b
  exact ⟨i, by rw [bv_int b], k _ H (Sm.refl H) (.d (.int _)) trivial⟩
def sumS (s : S) : R S := do let ds ← s.lst; let ns ← intsR ds; .ok (.d (.int ns.sum))
theorem c_sum (hc : X.calm = true) : DCall X C (.builtin "sum") (on1 sumS) := dc1 (cr_sum hc) (fun s => bind_ne (lst_ne s) fun _ => bind_ne (intsR_ne _) fun _ => ok_ne _) fun O v s z H Q hd b e k => by
  obtain ⟨ds, e1, e⟩ := bind_ok e
  obtain ⟨ns, e2, e⟩ := bind_ok e
  cases e
  obtain ⟨a, xs, rfl, h, r⟩ := bv_lst b e1
  rw [intsR_eq e2] at r
  rw [dpa_int_inv r] at h
  exact ⟨a, ns, rfl, h, k _ H (Sm.refl H) (.d (.int _)) trivial⟩
def allS (s : S) : R S := do let ds ← s.lst; let ns ← blsR ds; .ok (.d (.bool (ns.all id)))
theorem c_all (hc : X.calm = true) : DCall X C (.builtin "all") (on1 allS) := dc1 (cr_all hc) (fun s => bind_ne (lst_ne s) fun _ => bind_ne (blsR_ne _) fun _ => ok_ne _) fun O v s z H Q hd b e k => by
  obtain ⟨ds, e1, e⟩ := bind_ok e
  obtain ⟨ns, e2, e⟩ := bind_ok e
  cases e
  obtain ⟨a, xs, rfl, h, r⟩ := bv_lst b e1
  rw [blsR_eq e2] at r
  rw [dpa_bool_inv r] at h
  exact ⟨a, ns, rfl, h, k _ H (Sm.refl H) (.d (.bl _)) trivial⟩
def anyS (s : S) : R S := do let ds ← s.lst; let ns ← blsR ds; .ok (.d (.bool (ns.any id)))
theorem c_any (hc : X.calm = true) : DCall X C (.builtin "any") (on1 anyS) := dc1 (cr_any hc) (fun s => bind_ne (lst_ne s) fun _ => bind_ne (blsR_ne _) fun _ => ok_ne _) fun O v s z H Q hd b e k => by
  obtain ⟨ds, e1, e⟩ := bind_ok e
  obtain ⟨ns, e2, e⟩ := bind_ok e
  cases e
  obtain ⟨a, xs, rfl, h, r⟩ := bv_lst b e1
  rw [blsR_eq e2] at r
  rw [dpa_bool_inv r] at h
  exact ⟨a, ns, rfl, h, k _ H (Sm.refl H) (.d (.bl _)) trivial⟩
/-- the greatest, the least -/
def maxI : List Int → Int
  | [] => 0
  | [a] => a
  | a :: r => if a < maxI r then maxI r else a
def minI : List Int → Int
  | [] => 0
  | [a] => a
  | a :: r => if minI r < a then minI r else a
theorem maxI_spec : ∀ {ns : List Int}, ns ≠ [] → maxI ns ∈ ns ∧ ∀ y ∈ ns, y ≤ maxI ns
  | [a], _ => ⟨List.mem_cons_self, fun y h => by rcases List.mem_cons.mp h with rfl | h; exact Int.le_refl _; cases h⟩
  | a :: b :: r, _ => by
    obtain ⟨h1, h2⟩ := maxI_spec (ns := b :: r) (by simp)
    unfold maxI
    split
    · rename_i hlt
      exact ⟨List.mem_cons_of_mem _ h1, fun y h => by rcases List.mem_cons.mp h with rfl | h; exact Int.le_of_lt hlt; exact h2 y h⟩
    · rename_i hlt
      exact ⟨List.mem_cons_self, fun y h => by rcases List.mem_cons.mp h with rfl | h; exact Int.le_refl _; exact Int.le_trans (h2 y h) (by omega)⟩
theorem minI_spec : ∀ {ns : List Int}, ns ≠ [] → minI ns ∈ ns ∧ ∀ y ∈ ns, minI ns ≤ y
  | [a], _ => ⟨List.mem_cons_self, fun y h => by rcases List.mem_cons.mp h with rfl | h; exact Int.le_refl _; cases h⟩
  | a :: b :: r, _ => by
    obtain ⟨h1, h2⟩ := minI_spec (ns := b :: r) (by simp)
    unfold minI
    split
    · rename_i hlt
      exact ⟨List.mem_cons_of_mem _ h1, fun y h => by rcases List.mem_cons.mp h with rfl | h; exact Int.le_of_lt hlt; exact h2 y h⟩
    · rename_i hlt
      exact ⟨List.mem_cons_self, fun y h => by rcases List.mem_cons.mp h with rfl | h; exact Int.le_refl _; exact Int.le_trans (by omega) (h2 y h)⟩
theorem max_uniq {ns : List Int} {m m' : Int} (h : m ∈ ns) (h1 : ∀ y ∈ ns, y ≤ m) (h' : m' ∈ ns) (h2 : ∀ y ∈ ns, y ≤ m') : m = m' := Int.le_antisymm (h2 m h) (h1 m' h')
theorem min_uniq {ns : List Int} {m m' : Int} (h : m ∈ ns) (h1 : ∀ y ∈ ns, m ≤ y) (h' : m' ∈ ns) (h2 : ∀ y ∈ ns, m' ≤ y) : m = m' := Int.le_antisymm (h1 m' h') (h2 m h)
def maxS : List S → R S
  | [s] => do let ds ← s.lst; let ns ← intsR ds; chk (decide (0 < ns.length)) (.ok (.d (.int (maxI ns))))
  | [s, t] => do let i ← s.i; let j ← t.i; .ok (.d (.int (if j > i then j else i)))
  | _ => .bad
def minS : List S → R S
  | [s] => do let ds ← s.lst; let ns ← intsR ds; chk (decide (0 < ns.length)) (.ok (.d (.int (minI ns))))
  | [s, t] => do let i ← s.i; let j ← t.i; .ok (.d (.int (if j < i then j else i)))
  | _ => .bad
theorem c_max (hc : X.calm = true) : DCall X C (.builtin "max") maxS := by
  refine ⟨CallR.imp ((cr_max hc).or (call_max2 hc)) fun xs H Q w => ?_, fun ss => ?_⟩
  · obtain ⟨O, ss, z, hd, _, bv, e, k⟩ := w
    unfold maxS at e
    split at e
    · obtain ⟨v, rfl, b⟩ := bvs1 bv
      obtain ⟨ds, e1, e⟩ := bind_ok e
      obtain ⟨ns, e2, e⟩ := bind_ok e
      obtain ⟨c, e⟩ := chk_ok e
      cases e
      obtain ⟨a, xs, rfl, h, r⟩ := bv_lst b e1
      rw [intsR_eq e2] at r
      rw [dpa_int_inv r] at h
      have hp := of_decide_eq_true c
      obtain ⟨m1, m2⟩ := maxI_spec (ns := ns) (fun z => by subst z; simp at hp)
      exact .inl ⟨a, ns, rfl, h, hp, fun m h1 h2 => by rw [max_uniq h1 h2 m1 m2]; exact k _ H (Sm.refl H) (.d (.int _)) trivial⟩
    · obtain ⟨v, w, rfl, b1, b2⟩ := bvs2 bv
      obtain ⟨i, e1, e⟩ := bind_ok e
      obtain ⟨j, e2, e⟩ := bind_ok e
      cases e
      rw [S.i_eq e1] at b1
      rw [S.i_eq e2] at b2
      exact .inr ⟨i, j, by rw [bv_int b1, bv_int b2], k _ H (Sm.refl H) (.d (.int _)) trivial⟩
    · cases e
  · unfold maxS
    split
    · exact bind_ne (lst_ne _) fun _ => bind_ne (intsR_ne _) fun _ => chk_ne (ok_ne _)
    · exact bind_ne (i_ne _) fun _ => bind_ne (i_ne _) fun _ => ok_ne _
    · exact bad_ne
theorem c_min (hc : X.calm = true) : DCall X C (.builtin "min") minS := by
  refine ⟨CallR.imp ((cr_min hc).or (call_min2 hc)) fun xs H Q w => ?_, fun ss => ?_⟩
  · obtain ⟨O, ss, z, hd, _, bv, e, k⟩ := w
    unfold minS at e
    split at e
    · obtain ⟨v, rfl, b⟩ := bvs1 bv
      obtain ⟨ds, e1, e⟩ := bind_ok e
      obtain ⟨ns, e2, e⟩ := bind_ok e
      obtain ⟨c, e⟩ := chk_ok e
      cases e
      obtain ⟨a, xs, rfl, h, r⟩ := bv_lst b e1
      rw [intsR_eq e2] at r
      rw [dpa_int_inv r] at h
      have hp := of_decide_eq_true c
      obtain ⟨m1, m2⟩ := minI_spec (ns := ns) (fun z => by subst z; simp at hp)
      exact .inl ⟨a, ns, rfl, h, hp, fun m h1 h2 => by rw [min_uniq h1 h2 m1 m2]; exact k _ H (Sm.refl H) (.d (.int _)) trivial⟩
    · obtain ⟨v, w, rfl, b1, b2⟩ := bvs2 bv
      obtain ⟨i, e1, e⟩ := bind_ok e
      obtain ⟨j, e2, e⟩ := bind_ok e
      cases e
      rw [S.i_eq e1] at b1
      rw [S.i_eq e2] at b2
      exact .inr ⟨i, j, by rw [bv_int b1, bv_int b2], k _ H (Sm.refl H) (.d (.int _)) trivial⟩
    · cases e
  · unfold minS
    split
    · exact bind_ne (lst_ne _) fun _ => bind_ne (intsR_ne _) fun _ => chk_ne (ok_ne _)
    · exact bind_ne (i_ne _) fun _ => bind_ne (i_ne _) fun _ => ok_ne _
    · exact bad_ne
/-- tuple(xs) -/
def tupS (s : S) : R S := do let ds ← s.its; .ok (.d (.tuple ds))
theorem c_tuple : DCall X C (.type "tuple") (on1 tupS) := dc1 call_tuple_of (fun s => bind_ne (its_ne s) fun _ => ok_ne _) fun O v s z H Q hd b e k => by
  obtain ⟨ds, e1, e⟩ := bind_ok e
  cases e
  by_cases ht : s = .d (.tuple ds)
  · subst ht
    obtain ⟨a, xs, rfl, h, _, r⟩ := bv_tup b
    exact ⟨a, xs, rfl, .inr ⟨h, k _ H (Sm.refl H) b trivial⟩⟩
  · have e2 : s.lst = .ok ds := by
      unfold S.its at e1
      split at e1
      · cases e1; rfl
      · cases e1; exact (ht rfl).elim
      · cases e1; rfl
      · cases e1
    obtain ⟨a, xs, rfl, h, r⟩ := bv_lst b e2
    exact ⟨a, xs, rfl, .inl ⟨h, fun l hl => k _ _ (same_new hl) (bv_newT hd hl r) trivial⟩⟩
/-- list(xs), a new one -/
def listS (s : S) : R S := do let ds ← s.its; .ok (.l .fr ds)
theorem c_list : DCall X C (.type "list") (on1 listS) := dc1 call_list_of (fun s => bind_ne (its_ne s) fun _ => ok_ne _) fun O v s z H Q hd b e k => by
  obtain ⟨ds, e1, e⟩ := bind_ok e
  cases e
  obtain ⟨a, xs, rfl, h, r⟩ := bv_its b e1
  exact ⟨a, xs, rfl, h, fun l hl => k _ _ (same_new hl) (bv_newL hd hl r) ⟨l, rfl, .of hl⟩⟩

/-! ### sorted(xs), alike data -/
def dLe {β : Type} (key : β → PyData) (a b : β) : Bool := !(PySem.W.dataLt (key b) (key a))
def insO {α : Type} (le : α → α → Bool) (a : α) : List α → List α
  | [] => [a]
  | b :: r => match le a b with
    | true => a :: b :: r
    | false => b :: insO le a r
def isort {α : Type} (le : α → α → Bool) : List α → List α
  | [] => []
  | a :: r => insO le a (isort le r)
theorem insO_app {α : Type} {le : α → α → Bool} {a : α} : ∀ {l1 l2 : List α}, (∀ b ∈ l1, le a b = false) → (∀ b ∈ l2, le a b = true) → insO le a (l1 ++ l2) = l1 ++ a :: l2
  | [], [], _, _ => rfl
  | [], b :: r, _, h => by simp [insO, h b List.mem_cons_self]
  | b :: l1, l2, h, h2 => by
    simp only [List.cons_append, insO, h b List.mem_cons_self]
    rw [insO_app (fun c hc => h c (List.mem_cons_of_mem _ hc)) h2]
theorem mergeSort_isort {α : Type} {le : α → α → Bool} (tr : ∀ a b c, le a b = true → le b c = true → le a c = true) (to : ∀ a b, le a b = true ∨ le b a = true) : ∀ l : List α, l.mergeSort le = isort le l
  | [] => by simp [isort]
  | a :: l => by
    have to' : ∀ a b, (le a b || le b a) = true := fun a b => by rw [Bool.or_eq_true]; exact to a b
    obtain ⟨l1, l2, h1, h2, h3⟩ := List.mergeSort_cons tr to' a l
    have hs := List.pairwise_mergeSort tr to' (a :: l)
    rw [h1] at hs
    rw [h1]
    unfold isort
    rw [← mergeSort_isort tr to l, h2, insO_app (fun b hb => by simpa using h3 b hb)]
    intro b hb
    exact (List.pairwise_cons.mp (List.pairwise_append.mp hs).2.1).1 b hb
theorem dLe_eq {β : Type} (key : β → PyData) : PySem.W.dataLe false key = dLe key := rfl
theorem dLe_sort {β : Type} (key : β → PyData) (l : List β) : l.mergeSort (PySem.W.dataLe false key) = isort (dLe key) l :=
  mergeSort_isort (le := dLe key) (PySem.W.sortLe_total (PyProof.Rows.listOrd PyProof.Rows.itemOrd) false fun b => PySem.W.keyToks (key b)).trans (PySem.W.sortLe_total (PyProof.Rows.listOrd PyProof.Rows.itemOrd) false fun b => PySem.W.keyToks (key b)).total l
def nonEmptyT : PyData → Bool
  | .tuple (_ :: _) => true
  | _ => false
def noneOrT : PyData → Bool
  | .none => true
  | .tuple _ => true
  | _ => false
/-- data that can be sorted -/
def srtC (ds : List PyData) : Bool := decide (ds.length ≤ 1000000) && ds.all (fun d => ds.all fun d' => PySem.W.alike d d') && (ds.all nonEmptyT || ds.all fun d => !noneOrT d) && ds.all (fun d => decide (d.depth ≤ 60))
theorem srtC_inv {ds : List PyData} (h : srtC ds = true) : ds.length ≤ 1000000 ∧ PySem.W.AllAlike ds ∧ PySem.W.Sortable ds ∧ ∀ d ∈ ds, d.depth ≤ 60 := by
  unfold srtC at h
  simp only [Bool.and_eq_true, Bool.or_eq_true, List.all_eq_true, decide_eq_true_eq] at h
  obtain ⟨⟨⟨h1, h2⟩, h3⟩, h4⟩ := h
  refine ⟨h1, h2, ?_, h4⟩
  rcases h3 with h3 | h3
  · refine .inl fun d hd => ?_
    have := h3 d hd
    unfold nonEmptyT at this
    split at this
    · exact ⟨_, _, rfl⟩
    · cases this
  · refine .inr fun d hd => ?_
    have := h3 d hd
    unfold noneOrT at this
    split at this
    · cases this
    · cases this
    · rename_i n1 n2; exact ⟨n1, n2⟩
theorem dpa_each {K : PySem.W.Frag} {H : Hp} {R : V → PyData → Value → Prop} : ∀ {vs : List V} {ds : List PyData} {us : List Value}, DpAll K H vs ds → Vals vs us → PySem.W.EachIs (fun u d => ∃ v, RelV v u ∧ Dp K H v d) us ds
  | _, _, _, .nil, .nil => .nil
  | _, _, _, .cons h r, .cons rv t => .cons ⟨_, rv, h⟩ (dpa_each (R := R) r t)
theorem each_dpa {K : PySem.W.Frag} {H : Hp} : ∀ {ds : List PyData} {us : List Value}, PySem.W.EachIs (fun u d => ∃ v, RelV v u ∧ Dp K H v d) us ds → ∃ vs, Vals vs us ∧ DpAll K H vs ds
  | _, _, .nil => ⟨[], .nil, .nil⟩
  | _, _, .cons ⟨v, r, h⟩ t => by
    obtain ⟨vs, r', h'⟩ := each_dpa t
    exact ⟨v :: vs, .cons r r', .cons h h'⟩
theorem each_map0 {α β γ : Type} {R : α → γ → Prop} (f : β → γ) : ∀ {as : List α} {bs : List β}, PySem.W.EachIs R as (bs.map f) → PySem.W.EachIs (fun a b => R a (f b)) as bs
  | [], [], _ => .nil
  | [], _ :: _, h => by cases h
  | _ :: _, [], h => by cases h
  | _ :: _, _ :: _, h => by
    cases h with
    | cons h1 t => exact .cons h1 (each_map0 f t)
def rSrt (K : PySem.W.Frag) : List V → Hp → VK → Prop := fun vs H Q => ∃ (a : Addr) (xs : List V) (ds : List PyData) (H0 : Hp), vs = [V.ref a] ∧ SqL K H a xs ∧ Same H0 H ∧ DpAll K H0 xs ds ∧ srtC ds = true ∧
  ∀ (ys : List V) (p : Addr), DpAll K H0 ys (isort (dLe id) ds) → H p = none → Q (.ref p) (upd H p (.lst ys))
theorem cr_srt (hu : X.A.units + 64 < cLine) : CallR X (.builtin "sorted") (rSrt X.K) := by
  intro pins s σ H vs us Q I r h
  obtain ⟨a, xs, ds, H0, rfl, hs, sm, hD, hc, q⟩ := h
  obtain ⟨its, rv, hl, hz⟩ := I.list hs
  obtain ⟨c1, c2, c3, c4⟩ := srtC_inv hc
  rw [Vals.ref1 r]
  have len := dpa_length hD
  have e := dpa_each (R := fun _ _ _ => True) hD rv
  have er : PySem.W.EachIs (fun v b => ∃ as, Reads s.heap v (id b) as) its ds := e.mono fun u d ⟨v, rel, hd⟩ => Dp.reads I d v u (dp_same sm hd) rel
  refine PySem.W.sorted_data (enc := id) hl.isList e er (by rw [List.map_id]; exact c2) (by rw [List.map_id]; exact c3) (small_line c1) (fun d hd => ?_) fun out hlen ho => ?_
  · have := c4 d hd
    show X.A.units + 2 + (id d).depth < cLine
    simp only [id]; omega
  rw [dLe_sort] at ho
  obtain ⟨ys, ry, dy⟩ := each_dpa ho
  have hly : ys.length ≤ sizeLine := by rw [ry.length, hlen]; exact small_line c1
  obtain ⟨ep, he'⟩ := PyProof.Rows.sortedAll_at s.heap its out.toArray
  exact ⟨.ref _, upd H (s.heap.objs.size + 1) (.lst ys), I.laid (t' := s.toks) (fun _ _ => PyProof.Rows.sortedAll_old) (Nat.le_succ _) ⟨hly, out, ep, ry, he'⟩, rfl, q ys _ dy (I.hok.fresh (Nat.le_succ _))⟩
def srtS (s : S) : R S := do let ds ← s.lst; chk (srtC ds) (.ok (.l .fr (isort (dLe id) ds)))
theorem c_sorted (hu : X.A.units + 64 < cLine) : DCall X C (.builtin "sorted") (on1 srtS) := dc1 (cr_srt hu) (fun s => bind_ne (lst_ne s) fun _ => chk_ne (ok_ne _)) fun O v s z H Q hd b e k => by
  obtain ⟨ds, e1, e⟩ := bind_ok e
  obtain ⟨c, e⟩ := chk_ok e
  cases e
  obtain ⟨a, xs, rfl, h, r⟩ := bv_lst b e1
  exact ⟨a, xs, ds, Hm H O, rfl, h, hm_le, r, c, fun ys p dy hp => k _ _ (same_new hp) (bv_newL hd hp dy) ⟨p, rfl, .of hp⟩⟩
end
end DL

set_option Elab.async false
set_option linter.all false
set_option maxRecDepth 100000
set_option maxHeartbeats 1000000
/-! DL9: expressions that change what one owns. -/
namespace DL
open PySem PySem.Spec L2

theorem takes0 {X : Cx} : Takes X W0 := fun u s' ⟨a, B, sI, pins, σ, H, cls, d, e, I, nb, up, sky, na, os, ag, w⟩ => w.elim

/-! ### what stays when what one owns is changed -/
section
variable {K : PySem.W.Frag} {C : Cfg} {B H H' H'' : Hp} {O₀ O O' O'' : List Addr} {pn : List (Nat × Addr)} {δ : Env} {σ : St} {v : V} {s : S}
theorem Stay.trans (a : Stay H O H' O') (b : Stay H' O' H'' O'') : Stay H O H'' O'' := Same.trans a b
theorem stay_out {a : Addr} {o : HO} (e : Stay H O H' O') (m : a ∉ O) (h : H a = some o) (n : NT o := by intro _ z; cases z) : a ∉ O' ∧ H' a = some o := hm_some (e a o (hm_mk m h n))
theorem stay_cons (a : Addr) (e : Stay H O H' O') : Stay H (a :: O) H' (a :: O') := fun b o h => by
  obtain ⟨m, h'⟩ := hm_some h
  simp only [List.mem_cons, not_or] at m
  obtain ⟨m', q⟩ := stay_out e m.2 h' (hm_nt h)
  exact hm_mk (by simp [m.1, m']) q (hm_nt h)
theorem bv_stay (h : BV K C H O v s) (e : Stay H O H' O') (n : s.own = false) : BV K C H' O' v s := by
  cases h with
  | d h => exact .d (dp_same e h)
  | fl h1 h2 h3 =>
    obtain ⟨m, q⟩ := stay_out e h1 h2
    exact .fl m q (dpa_same (stay_cons _ e) h3)
  | ol => cases n
  | fk h1 h2 h3 =>
    obtain ⟨m, q⟩ := stay_out e h1 h2
    exact .fk m q (kv_same (stay_cons _ e) h3)
  | ok => cases n
  | obj h1 h2 => exact .obj (e _ _ h1) (fs_same e h2)
/-- there is a state ahead of what is new in s -/
def Ahead (K : PySem.W.Frag) (C : Cfg) (B : Hp) (O₀ : List Addr) (pn : List (Nat × Addr)) (H : Hp) (O : List Addr) (H' : Hp) (O' : List Addr) (δ : Env) (σ : St) (v : V) (s : S) : Prop :=
  ∃ H1, Sm C H1 H' ∧ Fresh H1 v s ∧ Stay H O H1 O' ∧ Rp K C B O₀ pn H1 O' δ σ
theorem Ahead.rp (h : Ahead K C B O₀ pn H O H' O' δ σ v s) : Rp K C B O₀ pn H' O' δ σ := let ⟨_, a, _, _, r⟩ := h; r.same a
theorem Ahead.stay (h : Ahead K C B O₀ pn H O H' O' δ σ v s) : Stay H O H' O' := let ⟨_, a, _, c, _⟩ := h; c.trans (Stay.of a)
theorem ahead_of (e : Sm C H H') (f : Fresh H v s) (r : Rp K C B O₀ pn H O δ σ) : Ahead K C B O₀ pn H O H' O δ σ v s := ⟨H, e, f, Stay.refl _ _, r⟩
theorem Ahead.pre (e : Stay H O H' O') (h : Ahead K C B O₀ pn H' O' H'' O'' δ σ v s) : Ahead K C B O₀ pn H O H'' O'' δ σ v s :=
  let ⟨H1, a, b, c, r⟩ := h; ⟨H1, a, b, e.trans c, r⟩
end

abbrev XE := Env → R (S × Env)
abbrev XB := Env → R (Bool × Env)
/-- an argument: a value, or the list in a slot -/
inductive Ag where
  | v (s : S)
  | io (i : Nat)
abbrev XA := Env → R (List Ag × Env)
def PostX (K : PySem.W.Frag) (C : Cfg) (B : Hp) (O₀ : List Addr) (pn : List (Nat × Addr)) (σ : St) (H : Hp) (O : List Addr) (Q : VK) : R (S × Env) → Prop
  | .ok (s, δ) => ∀ v H' O', Ahead K C B O₀ pn H O H' O' δ σ v s → BV K C H' O' v s → Q v H'
  | _ => False
def PostXB (K : PySem.W.Frag) (C : Cfg) (B : Hp) (O₀ : List Addr) (pn : List (Nat × Addr)) (σ : St) (H : Hp) (O : List Addr) (Q : Bool → Hp → Prop) : R (Bool × Env) → Prop
  | .ok (b, δ) => ∀ H' O', Stay H O H' O' → Rp K C B O₀ pn H' O' δ σ → Q b H'
  | _ => False
inductive AV (K : PySem.W.Frag) (C : Cfg) (H : Hp) (O : List Addr) (σ : St) : List V → List Ag → Prop
  | nil : AV K C H O σ [] []
  | cons {v : V} {s : S} {vs : List V} {as : List Ag} : s.own = false → BV K C H O v s → AV K C H O σ vs as → AV K C H O σ (v :: vs) (.v s :: as)
  | io {v : V} {i : Nat} {vs : List V} {as : List Ag} : σ[i]? = some (some v) → AV K C H O σ vs as → AV K C H O σ (v :: vs) (.io i :: as)
def PostXA (K : PySem.W.Frag) (C : Cfg) (B : Hp) (O₀ : List Addr) (pn : List (Nat × Addr)) (σ : St) (H : Hp) (O : List Addr) (Q : List V → Hp → Prop) : R (List Ag × Env) → Prop
  | .ok (as, δ) => ∀ vs H' O', Stay H O H' O' → Rp K C B O₀ pn H' O' δ σ → AV K C H' O' σ vs as → Q vs H'
  | _ => False
def tX (K : PySem.W.Frag) (C : Cfg) (io : List Nat) (f : XE) : TE := fun σ H Q => ∃ B O₀ pn δ O, pn.map (·.1) = io ∧ Rp K C B O₀ pn H O δ σ ∧ PostX K C B O₀ pn σ H O Q (f δ)
def tXB (K : PySem.W.Frag) (C : Cfg) (io : List Nat) (f : XB) : L2.TT := fun σ H Q => ∃ B O₀ pn δ O, pn.map (·.1) = io ∧ Rp K C B O₀ pn H O δ σ ∧ PostXB K C B O₀ pn σ H O Q (f δ)
def tXA (K : PySem.W.Frag) (C : Cfg) (io : List Nat) (f : XA) : TA := fun σ H Q => ∃ B O₀ pn δ O, pn.map (·.1) = io ∧ Rp K C B O₀ pn H O δ σ ∧ PostXA K C B O₀ pn σ H O Q (f δ)
abbrev DX (X : Cx) (C : Cfg) (io : List Nat) (e : Expr) (f : XE) : Prop := PE X e (tX X.K C io f)
abbrev DXT (X : Cx) (C : Cfg) (io : List Nat) (e : Expr) (f : XB) : Prop := PT X e (tXB X.K C io f)
abbrev DXW (X : Cx) (C : Cfg) (io : List Nat) (e : Expr) (f : XB) : Prop := PW X e (tXB X.K C io f)
abbrev DXA (X : Cx) (C : Cfg) (io : List Nat) (es : List Expr) (f : XA) : Prop := PA X es (tXA X.K C io f)

section
variable {K : PySem.W.Frag} {C : Cfg} {B H H' : Hp} {O₀ O O' : List Addr} {pn : List (Nat × Addr)} {δ : Env} {σ : St} {v : V} {s : S} {io : List Nat}
theorem postX_mono {Q : VK} (e : Stay H O H' O') : ∀ {r : R (S × Env)}, PostX K C B O₀ pn σ H O Q r → PostX K C B O₀ pn σ H' O' Q r
  | .ok (s, δ), h => fun v H2 O2 a b => h v H2 O2 (a.pre e) b
  | .exc _ _, h => h
  | .bad, h => h
theorem postXB_mono {Q : Bool → Hp → Prop} (e : Stay H O H' O') : ∀ {r : R (Bool × Env)}, PostXB K C B O₀ pn σ H O Q r → PostXB K C B O₀ pn σ H' O' Q r
  | .ok (s, δ), h => fun H2 O2 a b => h H2 O2 (e.trans a) b
  | .exc _ _, h => h
  | .bad, h => h
theorem postXA_mono {Q : List V → Hp → Prop} (e : Stay H O H' O') : ∀ {r : R (List Ag × Env)}, PostXA K C B O₀ pn σ H O Q r → PostXA K C B O₀ pn σ H' O' Q r
  | .ok (s, δ), h => fun v H2 O2 a b => h v H2 O2 (e.trans a) b
  | .exc _ _, h => h
  | .bad, h => h
/-- one after another -/
theorem seqX {α : Type} {f : XE} {g : S × Env → R α} {PQ : R α → Prop} {Q' : VK} (hio : pn.map (·.1) = io) (rp : Rp K C B O₀ pn H O δ σ) (h : PQ (f δ >>= g)) (hx : ∀ k p, ¬ PQ (.exc k p)) (hb : ¬ PQ .bad)
    (ho : ∀ s δ', f δ = .ok (s, δ') → PQ (g (s, δ')) → ∀ v H1 O1, Ahead K C B O₀ pn H O H1 O1 δ' σ v s → BV K C H1 O1 v s → Q' v H1) : tX K C io f σ H Q' := by
  refine ⟨B, O₀, pn, δ, O, hio, rp, ?_⟩
  cases e : f δ with
  | ok p => rw [e] at h; exact ho p.1 p.2 e h
  | exc k p => rw [e] at h; exact (hx k p h).elim
  | bad => rw [e] at h; exact (hb h).elim
theorem seqXB {α : Type} {f : XB} {g : Bool × Env → R α} {PQ : R α → Prop} {Q' : Bool → Hp → Prop} (hio : pn.map (·.1) = io) (rp : Rp K C B O₀ pn H O δ σ) (h : PQ (f δ >>= g)) (hx : ∀ k p, ¬ PQ (.exc k p)) (hb : ¬ PQ .bad)
    (ho : ∀ b δ', f δ = .ok (b, δ') → PQ (g (b, δ')) → ∀ H1 O1, Stay H O H1 O1 → Rp K C B O₀ pn H1 O1 δ' σ → Q' b H1) : tXB K C io f σ H Q' := by
  refine ⟨B, O₀, pn, δ, O, hio, rp, ?_⟩
  cases e : f δ with
  | ok p => rw [e] at h; exact ho p.1 p.2 e h
  | exc k p => rw [e] at h; exact (hx k p h).elim
  | bad => rw [e] at h; exact (hb h).elim
theorem seqXA {α : Type} {f : XA} {g : List Ag × Env → R α} {PQ : R α → Prop} {Q' : List V → Hp → Prop} (hio : pn.map (·.1) = io) (rp : Rp K C B O₀ pn H O δ σ) (h : PQ (f δ >>= g)) (hx : ∀ k p, ¬ PQ (.exc k p)) (hb : ¬ PQ .bad)
    (ho : ∀ b δ', f δ = .ok (b, δ') → PQ (g (b, δ')) → ∀ vs H1 O1, Stay H O H1 O1 → Rp K C B O₀ pn H1 O1 δ' σ → AV K C H1 O1 σ vs b → Q' vs H1) : tXA K C io f σ H Q' := by
  refine ⟨B, O₀, pn, δ, O, hio, rp, ?_⟩
  cases e : f δ with
  | ok p => rw [e] at h; exact ho p.1 p.2 e h
  | exc k p => rw [e] at h; exact (hx k p h).elim
  | bad => rw [e] at h; exact (hb h).elim
end

section
variable {X : Cx} {C : Cfg} {io : List Nat} {a b e : Expr} {es rest : List Expr} {f : Env → R S} {xf xg : XE} {t : Env → R Bool} {xt xu : XB} {xa : XA} {pos : Pos}
/-! ### what changes nothing -/
def xP (f : Env → R S) : XE := fun δ => match f δ with
  | .ok s => .ok (s, δ)
  | _ => .bad
def xPB (f : Env → R Bool) : XB := fun δ => match f δ with
  | .ok s => .ok (s, δ)
  | _ => .bad
theorem dx_pure (h : DE X C W0 e f) : DX X C io e (xP f) := PE.imp h fun σ H Q ⟨B, O₀, pn, δ, O, hio, rp, w⟩ => by
  refine ⟨δ, O, rp.rep, ?_⟩
  unfold xP at w
  cases ef : f δ with
  | ok s => rw [ef] at w; exact fun v H' s1 bv fr => w v H' O (ahead_of s1 fr rp) bv
  | exc k p => rw [ef] at w; exact w.elim
  | bad => rw [ef] at w; exact w.elim
theorem dxt_pure (h : DT X C W0 e t) : DXT X C io e (xPB t) := PT.imp h fun σ H Q ⟨B, O₀, pn, δ, O, hio, rp, w⟩ => by
  refine ⟨δ, O, rp.rep, ?_⟩
  unfold xPB at w
  cases ef : t δ with
  | ok s => rw [ef] at w; exact fun H' s1 => w H' O (Stay.of s1) (rp.same s1)
  | exc k p => rw [ef] at w; exact w.elim
  | bad => rw [ef] at w; exact w.elim
/-! ### operations -/
def xB (g : S → S → R S) (f1 f2 : XE) : XE := fun δ => do
  let (x, δ1) ← f1 δ
  let (y, δ2) ← f2 δ1
  match x.own with
  | true => .bad
  | false => (do let z ← g x y; .ok (z, δ2))
theorem xop_core {r : S → S → R S} {ta tb : XE} {σ : St} {H : Hp} {Q : VK} (w : tX X.K C io (xB r ta tb) σ H Q) : tOp (rD2 X.K C r) (tX X.K C io ta) (tX X.K C io tb) σ H Q := by
  obtain ⟨B, O₀, pn, δ, O, hio, rp, h⟩ := w
  refine seqX (PQ := PostX X.K C B O₀ pn σ H O Q) hio rp h (fun k p q => q) (fun q => q) fun s δ1 e q v H1 O1 ah bv => ?_
  refine seqX (PQ := PostX X.K C B O₀ pn σ H1 O1 Q) hio ah.rp (postX_mono ah.stay q) (fun k p q => q) (fun q => q) fun s' δ2 e' q' v' H2 O2 ah' bv' => ?_
  cases eo : s.own with
  | true => simp only [eo] at q'; exact q'.elim
  | false =>
    simp only [eo] at q'
    cases er : r s s' with
    | ok z =>
      rw [er] at q'
      have rp2 := ah'.rp
      exact ⟨O2, s, s', z, rp2.dom, rp2.tabs, bv_stay bv ah'.stay eo, bv', er, fun w H3 s3 b3 f3 => q' w H3 O2 ⟨H2, s3, f3, ah'.stay, rp2⟩ b3⟩
    | exc k p => rw [er] at q'; exact q'.elim
    | bad => rw [er] at q'; exact q'.elim
theorem dx_bin {op : Operator} {r : S → S → R S} (ho : D2 X C (binaryOp op) r) (ha : DX X C io a xf) (hb : DX X C io b xg) : DX X C io (.BinOp a op b pos) (xB r xf xg) :=
  PE.imp (pe_op ho.op ha hb) fun σ H Q w => xop_core w
theorem dx_cmp {op : CmpOp} {r : S → S → R S} (ho : D2 X C (compareOp op) r) (ha : DX X C io a xf) (hb : DX X C io b xg) (hm : behindInMarks op b = false) : DX X C io (.Compare a [op] [b] pos) (xB r xf xg) :=
  PE.imp (pe_cmpR ho.op ha hb hm) fun σ H Q w => xop_core w
def xBl (f : XE) : XB := fun δ => do let (s, δ1) ← f δ; let c ← s.b; .ok (c, δ1)
def xTru (f : XE) : XB := fun δ => do let (s, δ1) ← f δ; let c ← truS s; .ok (c, δ1)
theorem xtest_core {r : XE} {t : TE} {σ : L2.St} {H : Hp} {Q : Bool → Hp → Prop} (k : ∀ σ H Q, tX X.K C io r σ H Q → t σ H Q) (w : tXB X.K C io (xBl r) σ H Q) : tTest t σ H Q := by
  refine k _ _ _ ?_
  obtain ⟨B, O₀, pn, δ, O, hio, rp, w⟩ := w
  refine seqX (PQ := PostXB X.K C B O₀ pn σ H O Q) hio rp w (fun k p q => q) (fun q => q) fun s δ1 e q v H1 O1 ah bv => ?_
  cases eb : s.b with
  | ok k => simp only [eb] at q; cases S.b_eq eb; exact ⟨k, bv_bl bv, q H1 O1 ah.stay ah.rp⟩
  | exc k p => simp only [eb] at q; exact q.elim
  | bad => simp only [eb] at q; exact q.elim
theorem dxt_cmp {op : CmpOp} {r : S → S → R S} (ho : D2 X C (compareOp op) r) (ha : DX X C io a xf) (hb : DX X C io b xg) (hm : behindInMarks op b = false) : DXT X C io (.Compare a [op] [b] pos) (xBl (xB r xf xg)) :=
  PT.imp (pt_cmpR ho.op ha hb hm) fun σ H Q w => xtest_core (fun σ H Q w => xop_core w) w
theorem dxt_val (ha : DX X C io a xf) (he : ∀ whole, isTrue a X.env whole = (do let v ← whole; standAt a.pos; holding [v] (truthy v)) := by intro _; rfl) : DXT X C io a (xTru xf) := by
  refine PT.imp (pt_truth ha he) fun σ H Q ⟨B, O₀, pn, δ, O, hio, rp, w⟩ => ?_
  refine seqX (PQ := PostXB X.K C B O₀ pn σ H O Q) hio rp w (fun k p q => q) (fun q => q) fun s δ1 e q v H1 O1 ah bv => ?_
  cases eb : truS s with
  | ok k => simp only [eb] at q; exact ⟨k, tru_okS bv eb, q H1 O1 ah.stay ah.rp⟩
  | exc k p => simp only [eb] at q; exact q.elim
  | bad => simp only [eb] at q; exact q.elim
def xAnd (t u : XB) : XB := fun δ => do let (c, δ1) ← t δ; if c then u δ1 else .ok (false, δ1)
def xOr (t u : XB) : XB := fun δ => do let (c, δ1) ← t δ; if c then .ok (true, δ1) else u δ1
def xNot (t : XB) : XB := fun δ => do let (c, δ1) ← t δ; .ok (!c, δ1)
theorem dxw_and1 (ha : DXT X C io a xt) : DXW X C io (.BoolOp .And [a] pos) xt := pw_and1 ha
theorem dxw_or1 (ha : DXT X C io a xt) : DXW X C io (.BoolOp .Or [a] pos) xt := pw_or1 ha
theorem dxw_and (ha : DXT X C io a xt) (hb : DXW X C io (.BoolOp .And (b :: rest) pos) xu) : DXW X C io (.BoolOp .And (a :: b :: rest) pos) (xAnd xt xu) := by
  refine PW.imp (pw_and ha hb) fun σ H Q ⟨B, O₀, pn, δ, O, hio, rp, w⟩ => ?_
  refine seqXB (PQ := PostXB X.K C B O₀ pn σ H O Q) hio rp w (fun k p q => q) (fun q => q) fun k δ1 e q H1 O1 st r1 => ?_
  cases k with
  | true => rw [if_pos rfl]; exact ⟨B, O₀, pn, δ1, O1, hio, r1, postXB_mono st q⟩
  | false => rw [if_neg Bool.false_ne_true]; exact q H1 O1 st r1
theorem dxw_or (ha : DXT X C io a xt) (hb : DXW X C io (.BoolOp .Or (b :: rest) pos) xu) : DXW X C io (.BoolOp .Or (a :: b :: rest) pos) (xOr xt xu) := by
  refine PW.imp (pw_or ha hb) fun σ H Q ⟨B, O₀, pn, δ, O, hio, rp, w⟩ => ?_
  refine seqXB (PQ := PostXB X.K C B O₀ pn σ H O Q) hio rp w (fun k p q => q) (fun q => q) fun k δ1 e q H1 O1 st r1 => ?_
  cases k with
  | true => rw [if_pos rfl]; exact q H1 O1 st r1
  | false => rw [if_neg Bool.false_ne_true]; exact ⟨B, O₀, pn, δ1, O1, hio, r1, postXB_mono st q⟩
theorem dxt_bool (h : DXW X C io a xt) : DXT X C io a xt := PW.pt h
theorem dxt_not (ha : DXT X C io a xt) : DXT X C io (.UnaryOp .Not a pos) (xNot xt) := by
  refine PT.imp (pt_not ha) fun σ H Q ⟨B, O₀, pn, δ, O, hio, rp, w⟩ => ?_
  exact seqXB (PQ := PostXB X.K C B O₀ pn σ H O Q) hio rp w (fun k p q => q) (fun q => q) fun k δ1 e q H1 O1 st r1 => q H1 O1 st r1
def xIf (t : XB) (f g : XE) : XE := fun δ => do let (c, δ1) ← t δ; if c then f δ1 else g δ1
theorem dx_if {c : Expr} (hc : DXT X C io c xt) (ha : DX X C io a xf) (hb : DX X C io b xg) : DX X C io (.IfExp c a b pos) (xIf xt xf xg) := by
  refine PE.imp (pe_ifExp hc ha hb) fun σ H Q ⟨B, O₀, pn, δ, O, hio, rp, w⟩ => ?_
  refine seqXB (PQ := PostX X.K C B O₀ pn σ H O Q) hio rp w (fun k p q => q) (fun q => q) fun k δ1 e q H1 O1 st r1 => ?_
  cases k with
  | true => rw [if_pos rfl]; exact ⟨B, O₀, pn, δ1, O1, hio, r1, postX_mono st q⟩
  | false => rw [if_neg Bool.false_ne_true]; exact ⟨B, O₀, pn, δ1, O1, hio, r1, postX_mono st q⟩
/-- bools ahead of the last -/
def xAndV (f g : XE) : XE := fun δ => do let (s, δ1) ← f δ; let c ← s.b; if c then g δ1 else .ok (.d (.bool false), δ1)
def xOrV (f g : XE) : XE := fun δ => do let (s, δ1) ← f δ; let c ← s.b; if c then .ok (.d (.bool true), δ1) else g δ1
theorem dx_one {op} (ha : DX X C io a xf) : DX X C io (.BoolOp op [a] pos) xf := pe_one ha
theorem dx_and (ha : DX X C io a xf) (hb : DX X C io (.BoolOp .And (b :: rest) pos) xg) : DX X C io (.BoolOp .And (a :: b :: rest) pos) (xAndV xf xg) := by
  refine PE.imp (pe_and ha hb) fun σ H Q ⟨B, O₀, pn, δ, O, hio, rp, w⟩ => ?_
  refine seqX (PQ := PostX X.K C B O₀ pn σ H O Q) hio rp w (fun k p q => q) (fun q => q) fun s δ1 e q v H1 O1 ah bv => ?_
  cases eb : s.b with
  | ok k =>
    simp only [eb] at q
    cases S.b_eq eb
    cases k with
    | true => exact ⟨true, bv_bl bv, by rw [if_pos rfl]; exact ⟨B, O₀, pn, δ1, O1, hio, ah.rp, postX_mono ah.stay q⟩⟩
    | false => exact ⟨false, bv_bl bv, by rw [if_neg Bool.false_ne_true]; exact q _ H1 O1 ⟨H1, Sm.refl _, trivial, ah.stay, ah.rp⟩ (.d (.bl false))⟩
  | exc k p => simp only [eb] at q; exact q.elim
  | bad => simp only [eb] at q; exact q.elim
theorem dx_or (ha : DX X C io a xf) (hb : DX X C io (.BoolOp .Or (b :: rest) pos) xg) : DX X C io (.BoolOp .Or (a :: b :: rest) pos) (xOrV xf xg) := by
  refine PE.imp (pe_or ha hb) fun σ H Q ⟨B, O₀, pn, δ, O, hio, rp, w⟩ => ?_
  refine seqX (PQ := PostX X.K C B O₀ pn σ H O Q) hio rp w (fun k p q => q) (fun q => q) fun s δ1 e q v H1 O1 ah bv => ?_
  cases eb : s.b with
  | ok k =>
    simp only [eb] at q
    cases S.b_eq eb
    cases k with
    | true => exact ⟨true, bv_bl bv, by rw [if_pos rfl]; exact q _ H1 O1 ⟨H1, Sm.refl _, trivial, ah.stay, ah.rp⟩ (.d (.bl true))⟩
    | false => exact ⟨false, bv_bl bv, by rw [if_neg Bool.false_ne_true]; exact ⟨B, O₀, pn, δ1, O1, hio, ah.rp, postX_mono ah.stay q⟩⟩
  | exc k p => simp only [eb] at q; exact q.elim
  | bad => simp only [eb] at q; exact q.elim

/-! ### several -/
def xaNil : XA := fun δ => .ok ([], δ)
def xaCons (f : XE) (r : XA) : XA := fun δ => do let (x, δ1) ← f δ; let (xs, δ2) ← r δ1; match x.own with | true => .bad | false => .ok (.v x :: xs, δ2)
def xaIo0 (i : Nat) (r : XA) : XA := fun δ => do let (xs, δ2) ← r δ; .ok (.io i :: xs, δ2)
def xaIo (i : Nat) (r : XA) : XA := fun δ => match δ[i]? with
  | some (some s) => (match s.own with | true => xaIo0 i r δ | false => .bad)
  | _ => .bad
theorem dxa_nil : DXA X C io [] xaNil := PA.imp pa_nil fun σ H Q ⟨B, O₀, pn, δ, O, hio, rp, w⟩ => w [] H O (Stay.refl _ _) rp .nil
theorem av_stay {K : PySem.W.Frag} {H H' : Hp} {O O' : List Addr} {σ : St} : ∀ {vs : List V} {as : List Ag}, AV K C H O σ vs as → Stay H O H' O' → AV K C H' O' σ vs as
  | _, _, .nil, _ => .nil
  | _, _, .cons n b r, e => .cons n (bv_stay b e n) (av_stay r e)
  | _, _, .io q r, e => .io q (av_stay r e)
theorem dxa_cons (ha : DX X C io e xf) (hr : DXA X C io es xa) (hs : starEach (e :: es) X.env = (false, eval e X.env) :: starEach es X.env := by rfl) : DXA X C io (e :: es) (xaCons xf xa) := by
  refine PA.imp (pa_cons ha hr hs) fun σ H Q ⟨B, O₀, pn, δ, O, hio, rp, w⟩ => ?_
  refine seqX (PQ := PostXA X.K C B O₀ pn σ H O Q) hio rp w (fun k p q => q) (fun q => q) fun s δ1 e q v H1 O1 ah bv => ?_
  refine seqXA (PQ := PostXA X.K C B O₀ pn σ H1 O1 Q) hio ah.rp (postXA_mono ah.stay q) (fun k p q => q) (fun q => q) fun as δ2 e2 q2 vs H2 O2 st2 r2 av => ?_
  cases eo : s.own with
  | true => simp only [eo] at q2; exact q2.elim
  | false =>
    simp only [eo] at q2
    exact q2 _ H2 O2 st2 r2 (.cons eo (bv_stay bv st2 eo) av)
theorem dxa_io (i : Nat) {x : Str} {p : Pos} (hr : DXA X C io es xa) (hN : X.N[i]? = some x := by rfl) (hv : Vis X.env.scope x := by first | exact Or.inl rfl | exact Or.inr (Or.inl rfl) | exact Or.inr (Or.inr rfl)) (hd : (x == ("__debug__" : Str)) = false := by decide)
    (hcd : (x == ("__classdict__" : Str)) = false := by decide) (hs : starEach (.Name x p :: es) X.env = (false, eval (.Name x p) X.env) :: starEach es X.env := by rfl) : DXA X C io (.Name x p :: es) (xaIo i xa) := by
  refine PA.imp (pa_cons (pe_var hN hv hd hcd) hr hs) fun σ H Q ⟨B, O₀, pn, δ, O, hio, rp, w⟩ => ?_
  unfold xaIo at w
  cases ed : δ[i]? with
  | none => simp only [ed] at w; exact w.elim
  | some o => cases o with
    | none => simp only [ed] at w; exact w.elim
    | some s =>
      simp only [ed] at w
      cases eo : s.own with
      | false => rw [eo] at w; exact w.elim
      | true =>
        rw [eo] at w
        obtain ⟨_, v, ev, bv⟩ := rp.slot i s ed
        refine ⟨v, ev, ?_⟩
        exact seqXA (PQ := PostXA X.K C B O₀ pn σ H O Q) hio rp w (fun k p q => q) (fun q => q) fun as δ2 e2 q2 vs H2 O2 st2 r2 av => q2 _ H2 O2 st2 r2 (.io ev av)
/-- the values, none of one's own -/
def agS : List Ag → R (List S)
  | [] => .ok []
  | .v s :: r => do let ss ← agS r; .ok (s :: ss)
  | _ => .bad
theorem av_bvs {K : PySem.W.Frag} {H : Hp} {O : List Addr} {σ : St} : ∀ {vs : List V} {as : List Ag} {ss : List S}, AV K C H O σ vs as → agS as = .ok ss → BVs K C H O vs ss
  | _, _, _, .nil, e => by cases e; exact .nil
  | _, _, _, .cons n b r, e => by
    obtain ⟨ss, e1, e2⟩ := bind_ok e
    cases e2
    exact .cons b (av_bvs r e1)
  | _, _, _, .io q r, e => by cases e
/-- a row of values, then what is made of it -/
def xOf (g : List S → R S) (xa : XA) : XE := fun δ => do let (as, δ1) ← xa δ; let ss ← agS as; let z ← g ss; .ok (z, δ1)
theorem dx_tup {n} (hf : DXA X C io es xa) : DX X C io (.Tuple es n pos) (xOf (fun ss => do let xs ← pds ss; chk (decide (xs.length ≤ 1000000)) (.ok (.d (.tuple xs)))) xa) := by
  refine PE.imp (pe_tup hf) fun σ H Q ⟨B, O₀, pn, δ, O, hio, rp, w⟩ => ?_
  refine seqXA (PQ := PostX X.K C B O₀ pn σ H O Q) hio rp w (fun k p q => q) (fun q => q) fun as δ1 e q vs H1 O1 st r1 av => ?_
  cases eg : agS as with
  | exc k p => simp only [eg] at q; exact q.elim
  | bad => simp only [eg] at q; exact q.elim
  | ok ss =>
    simp only [eg, R.ok_bind] at q
    have bvs := av_bvs av eg
    cases ex : pds ss with
    | exc k p => rw [ex] at q; exact q.elim
    | bad => rw [ex] at q; exact q.elim
    | ok xs =>
      rw [ex] at q
      have r := bvs_pds bvs ex
      cases ec : decide (xs.length ≤ 1000000) with
      | false => simp only [R.ok_bind, ec, chk_false] at q; exact q.elim
      | true =>
        simp only [R.ok_bind, ec, chk_true] at q
        have hl := of_decide_eq_true ec
        have l := dpa_length r
        exact ⟨small_line (by omega), fun p hp => q _ _ O1 ⟨H1, same_new hp, trivial, st, r1⟩ (bv_newT r1.dom hp r)⟩
theorem dx_lst (hf : DXA X C io es xa) : DX X C io (.List es pos) (xOf (fun ss => do let xs ← pds ss; chk (decide (xs.length ≤ 1000000)) (.ok (.l .fr xs))) xa) := by
  refine PE.imp (pe_lst hf) fun σ H Q ⟨B, O₀, pn, δ, O, hio, rp, w⟩ => ?_
  refine seqXA (PQ := PostX X.K C B O₀ pn σ H O Q) hio rp w (fun k p q => q) (fun q => q) fun as δ1 e q vs H1 O1 st r1 av => ?_
  cases eg : agS as with
  | exc k p => simp only [eg] at q; exact q.elim
  | bad => simp only [eg] at q; exact q.elim
  | ok ss =>
    simp only [eg, R.ok_bind] at q
    have bvs := av_bvs av eg
    cases ex : pds ss with
    | exc k p => rw [ex] at q; exact q.elim
    | bad => rw [ex] at q; exact q.elim
    | ok xs =>
      rw [ex] at q
      have r := bvs_pds bvs ex
      cases ec : decide (xs.length ≤ 1000000) with
      | false => simp only [R.ok_bind, ec, chk_false] at q; exact q.elim
      | true =>
        simp only [R.ok_bind, ec, chk_true] at q
        have hl := of_decide_eq_true ec
        have l := dpa_length r
        exact ⟨small_line (by omega), fun p hp => q _ _ O1 ⟨H1, same_new hp, ⟨p, rfl, .of hp⟩, st, r1⟩ (bv_newL r1.dom hp r)⟩
/-! ### calls of built-ins -/
theorem xcall_core {g : List S → R S} {σ : L2.St} {H : Hp} {Q : VK} (w : tX X.K C io (xOf g xa) σ H Q) : tCB (rDC X.K C g) (tXA X.K C io xa) σ H Q := by
  obtain ⟨B, O₀, pn, δ, O, hio, rp, w⟩ := w
  refine seqXA (PQ := PostX X.K C B O₀ pn σ H O Q) hio rp w (fun k p q => q) (fun q => q) fun as δ1 e q vs H1 O1 st r1 av => ?_
  cases eg : agS as with
  | exc k p => simp only [eg] at q; exact q.elim
  | bad => simp only [eg] at q; exact q.elim
  | ok ss =>
    simp only [eg, R.ok_bind] at q
    have bvs := av_bvs av eg
    cases es : g ss with
    | exc k p => rw [es] at q; exact q.elim
    | bad => rw [es] at q; exact q.elim
    | ok z =>
      rw [es] at q
      exact ⟨O1, ss, z, r1.dom, r1.tabs, bvs, es, fun v H' s1 bv fr => q v H' O1 ⟨H1, s1, fr, st, r1⟩ bv⟩
theorem dx_callB {id : String} {x : Str} {p : Pos} {g : List S → R S} (ho : DCall X C (.builtin id) g) (hg : Gl X x) (hm : X.mg x = none) (hv : bootBuiltins x = some (.builtin id)) (ha : DXA X C io (e :: es) xa) (hn : x ≠ "__name__" := by decide) (hdb : (x == ("__debug__" : Str)) = false := by decide)
    (he : starEach (e :: es) X.env = (false, eval e X.env) :: starEach es X.env := by rfl) (hpl : (backTo pos (starEach es X.env)).any (·.1) = false := by rfl) : DX X C io (.Call (.Name x p) (e :: es) [] pos) (xOf g xa) :=
  PE.imp (pe_callB ho.op hg hm hv ha hn hdb he hpl) fun σ H Q w => xcall_core w
theorem dx_callTy {T : String} {x : Str} {p : Pos} {g : List S → R S} (ho : DCall X C (.type T) g) (hg : Gl X x) (hm : X.mg x = none) (hv : bootBuiltins x = some (.type T)) (ha : DXA X C io (e :: es) xa) (hn : x ≠ "__name__" := by decide) (hdb : (x == ("__debug__" : Str)) = false := by decide)
    (he : starEach (e :: es) X.env = (false, eval e X.env) :: starEach es X.env := by rfl) (hpl : (backTo pos (starEach es X.env)).any (·.1) = false := by rfl) : DX X C io (.Call (.Name x p) (e :: es) [] pos) (xOf g xa) :=
  PE.imp (pe_callTy ho.op hg hm hv ha hn hdb he hpl) fun σ H Q w => xcall_core w

/-! ### calls of defs -/
/-- a def that changes nothing, with arguments that do -/
def xCall (n : Nat) (m : List S → R S) (xa : XA) : XE := xOf (fun ss => do let as ← argsS ss; chk (decide (as.length = n)) (m as)) xa
variable {k n : Nat} {fa : Addr} {fd : FuncData} {ps ks : List Str} {x : Str} {p : Pos} {m : List S → R S}
theorem dx_call (F : FnOk X.prog X.w X.K X.mg X.base (L2.CX X.prog X.w) k fa fd ps (spD X.K C n m)) (hr : Room k X.A) (hg : Gl X x) (hm : X.mg x = some (.ref fa)) (hk : PySem.W.keepIn X.K (.ref fa) = true) (hb : Binds X.K fd ps [])
    (ha : DXA X C io (e :: es) xa) (hdb : (x == ("__debug__" : Str)) = false := by decide) (he : starEach (e :: es) X.env = (false, eval e X.env) :: starEach es X.env := by rfl) (hpl : (backTo pos (starEach es X.env)).any (·.1) = false := by rfl) :
    DX X C io (.Call (.Name x p) (e :: es) [] pos) (xCall n m xa) := by
  refine PE.imp (pe_callSD F hr hg hm hk hb .nil (fun σ => passAt takes0 σ) ha hdb he hpl) fun σ H Q ⟨B, O₀, pn, δ, O, hio, rp, w⟩ => ?_
  have go : tXA X.K C io xa σ H fun vs H1 => spD X.K C n m vs H1 Q (WE W0 σ) := by
    refine seqXA (PQ := PostX X.K C B O₀ pn σ H O Q) hio rp w (fun k p q => q) (fun q => q) fun as δ1 e q vs H1 O1 st r1 av => ?_
    cases eg : agS as with
    | exc k p => simp only [eg] at q; exact q.elim
    | bad => simp only [eg] at q; exact q.elim
    | ok ss =>
      simp only [eg, R.ok_bind] at q
      have bvs := av_bvs av eg
      cases ez : argsS ss with
      | exc k p => rw [ez] at q; exact q.elim
      | bad => rw [ez] at q; exact q.elim
      | ok zs =>
        rw [ez] at q
        simp only [R.ok_bind] at q
        have b2 := bvs_args bvs ez
        cases ec : decide (zs.length = n) with
        | false => rw [ec, chk_false] at q; exact q.elim
        | true =>
          rw [ec, chk_true] at q
          refine ⟨zs, O1, r1.dom, r1.tabs, (bvs_length b2).trans (of_decide_eq_true ec), args_still ez, b2, ?_⟩
          cases em : m zs with
          | exc k p => rw [em] at q; exact q.elim
          | bad => rw [em] at q; exact q.elim
          | ok z => rw [em] at q; exact fun v H' a b c => q v H' O1 ⟨H1, a, c, st, r1⟩ b
  unfold tCallSD
  simpa using go
end
end DL

set_option Elab.async false
set_option linter.all false
set_option maxRecDepth 100000
set_option maxHeartbeats 1000000
/-! DL10: defs that change a list of their caller; statements with such expressions. -/
namespace DL
open PySem PySem.Spec L2

section
variable {K : PySem.W.Frag} {C : Cfg} {B H H' : Hp} {O₀ O O' : List Addr} {pn : List (Nat × Addr)} {δ δ' : Env} {σ : St} {v : V} {s : S}
theorem own_mut (h : BV K C H O v s) (o : s.own = true) : ∃ a u, v = .ref a ∧ a ∈ O ∧ H a = some u ∧ Mut (some u) := by
  cases h with
  | d => cases o
  | fl => cases o
  | ol h1 h2 _ => exact ⟨_, _, rfl, h1, h2, trivial⟩
  | fk => cases o
  | ok h1 h2 _ => exact ⟨_, _, rfl, h1, h2, trivial⟩
  | obj => cases o
/-- some of what one owns was changed (at the places A) -/
theorem Rp.ios (r : Rp K C B O₀ pn H O δ σ) (A : Addr → Prop) (st : Stay H O H' O) (oth : ∀ b ∈ O, ¬ A b → H' b = H b) (ht : LamX.Tabs C.T H') (hl : δ'.length = δ.length)
    (hA : ∀ a, A a → Nn B a ∧ ∃ u, H' a = some u ∧ Mut (some u))
    (hs : ∀ (j : Nat) s', δ'[j]? = some (some s') → (δ[j]? = some (some s') ∧ (s'.own = true → ∀ a, σ[j]? = some (some (.ref a)) → ¬ A a)) ∨
      ∃ a s, δ[j]? = some (some s) ∧ s.own = true ∧ s'.own = true ∧ σ[j]? = some (some (.ref a)) ∧ BV K C H' O (.ref a) s') : Rp K C B O₀ pn H' O δ' σ := by
  have back : ∀ (j : Nat) s', δ'[j]? = some (some s') → ∃ s, δ[j]? = some (some s) ∧ (s'.own = true → s.own = true) := fun j s' h => by
    rcases hs j s' h with ⟨a, _⟩ | ⟨a, s, e, o, _⟩
    · exact ⟨s', a, id⟩
    · exact ⟨s, e, fun _ => o⟩
  refine ⟨hl.trans r.len, fun j s' h => ?_, fun i j a x y h1 h2 o1 o2 e1 e2 => ?_, fun i a x h o e => ?_, fun b hb => ?_, ⟨fun b o e n => ?_, fun _ => ht⟩, r.sub, r.new, r.pin, ht⟩
  · rcases hs j s' h with ⟨e, na⟩ | ⟨a, s, e, o, o', ev, bv⟩
    · obtain ⟨q, v, ev, bv⟩ := r.slot j s' e
      refine ⟨q, v, ev, ?_⟩
      cases eo : s'.own with
      | false => exact bv_stay bv st eo
      | true =>
        obtain ⟨a, rfl, aO, u, hu⟩ := own_ref bv eo
        have same := oth a aO (na eo a ev)
        cases bv with
        | d => cases eo
        | fl => cases eo
        | fk => cases eo
        | obj => cases eo
        | ol h1 h2 h3 => exact .ol h1 (same.trans h2) (dpa_same st h3)
        | ok h1 h2 h3 => exact .ok h1 (same.trans h2) (kv_same st h3)
    · exact ⟨.inr o', _, ev, bv⟩
  · obtain ⟨x', g1, q1⟩ := back i x h1
    obtain ⟨y', g2, q2⟩ := back j y h2
    exact r.uniq i j a x' y' g1 g2 (q1 o1) (q2 o2) e1 e2
  · obtain ⟨x', g1, q1⟩ := back i x h
    exact r.ownB i a x' g1 (q1 o) e
  · obtain ⟨o, p, q⟩ := r.dom b hb
    by_cases z : A b
    · exact (hA b z).2
    · exact ⟨o, (oth b hb z).trans p, q⟩
  · have e' := r.base.kp b o e n
    by_cases hb : b ∈ O
    · by_cases z : A b
      · exact ((hA b z).1 o e n).elim
      · exact (oth b hb z).trans e'
    · exact (stay_out st hb e' n).2
end

/-! ### what such a def promises -/
def isOwnAt (ios : List Nat) : Nat → List S → Bool
  | _, [] => true
  | i, s :: r => (if ios.contains i then s.own else s.still) && isOwnAt ios (i + 1) r
/-- the lists behind -/
def outIo : List Nat → Env → R (List S)
  | [], _ => .ok []
  | i :: is, δ => match δ[i]? with
    | some (some s) => (match s.own with
      | true => (do let r ← outIo is δ; .ok (s :: r))
      | false => .bad)
    | _ => .bad
def spX (K : PySem.W.Frag) (C : Cfg) (n : Nat) (ios : List Nat) (m : List S → R (S × List S)) : Sp := fun vs H Q E => ∃ ss O, Dom H O ∧ LamX.Tabs C.T H ∧ vs.length = n ∧ BVs K C H O vs ss ∧ isOwnAt ios 0 ss = true ∧
  (∀ (i j : Nat) a, i ∈ ios → j ∈ ios → vs[i]? = some (.ref a) → vs[j]? = some (.ref a) → i = j) ∧ match m ss with
  | .ok (s, ns) => s.still = true ∧ ∀ v H', Stay H O H' O → LamX.Tabs C.T H' → (∀ b ∈ O, (∀ i ∈ ios, vs[i]? ≠ some (.ref b)) → H' b = H b) → BV K C H' O v s →
      (∀ (j i : Nat), ios[j]? = some i → ∃ a t, vs[i]? = some (.ref a) ∧ ns[j]? = some t ∧ t.own = true ∧ BV K C H' O (.ref a) t) → Q v H'
  | _ => False
def finX (ios : List Nat) : SR → R (S × List S)
  | .next δ => do let ns ← outIo ios δ; .ok (.d .none, ns)
  | .ret s δ => do let z ← s.arg; let ns ← outIo ios δ; .ok (z, ns)
  | _ => .bad
theorem outIo_get : ∀ {ios : List Nat} {δ : Env} {ns : List S} {j i : Nat}, outIo ios δ = .ok ns → ios[j]? = some i → ∃ t, ns[j]? = some t ∧ t.own = true ∧ δ[i]? = some (some t)
  | [], _, _, _, _, _, h => by simp at h
  | i0 :: is, δ, ns, j, i, e, h => by
    unfold outIo at e
    split at e
    · rename_i s hs
      cases eo : s.own with
      | false => rw [eo] at e; cases e
      | true =>
        rw [eo] at e
        obtain ⟨r, e1, e2⟩ := bind_ok e
        cases e2
        cases j with
        | zero => simp at h; subst h; exact ⟨s, rfl, eo, hs⟩
        | succ j =>
          obtain ⟨t, a, b, c⟩ := outIo_get (j := j) e1 (by simpa using h)
          exact ⟨t, by simpa using a, b, c⟩
    · cases e
theorem isOwnAt_get : ∀ {ios : List Nat} {ss : List S} {k i : Nat} {s : S}, isOwnAt ios k ss = true → ss[i]? = some s → (if ios.contains (k + i) then s.own else s.still) = true
  | _, [], _, _, _, _, h => by simp at h
  | ios, t :: r, k, i, s, e, h => by
    unfold isOwnAt at e
    rw [Bool.and_eq_true] at e
    cases i with
    | zero => simp at h; subst h; exact e.1
    | succ i =>
      have := isOwnAt_get (i := i) e.2 (by simpa using h)
      rw [show k + (i + 1) = k + 1 + i by omega]
      exact this
theorem out_post {K : PySem.W.Frag} {C : Cfg} {B H' : Hp} {O₀ O' : List Addr} {pn : List (Nat × Addr)} {δ : Env} {σ' : St} {v : V} {z : S} (r : Rp K C B O₀ pn H' O' δ σ') (bv : BV K C H' O' v z) (hz : z.still = true) : BV K C H' O₀ v z := by
  have sm : Same (Hm H' O') (Hm H' O₀) := hm_sub r.sub
  cases bv with
  | d h => exact .d (dp_same sm h)
  | obj h1 h2 => exact .obj (sm _ _ h1) (fs_same sm h2)
  | fl => cases hz
  | ol => cases hz
  | fk => cases hz
  | ok => cases hz
def refAt (vs : List V) (i : Nat) : Option Addr := match vs[i]? with
  | some (V.ref a) => some a
  | _ => none
theorem refAt_some {vs : List V} {i : Nat} {a : Addr} : refAt vs i = some a ↔ vs[i]? = some (V.ref a) := by
  unfold refAt
  constructor
  · intro h
    split at h
    · rename_i b hb; cases h; exact hb
    · cases h
  · intro h; rw [h]
/-- without some places -/
def Hx (H : Hp) (O : List Addr) : Hp := fun a => if a ∈ O then none else H a
theorem hx_le {H : Hp} {O : List Addr} : Same (Hx H O) H := fun a o e => by
  unfold Hx at e
  split at e
  · cases e
  · exact e
theorem hx_out {H : Hp} {O : List Addr} {a : Addr} (h : a ∉ O) : Hx H O a = H a := if_neg h
theorem hx_in {H : Hp} {O : List Addr} {a : Addr} (h : a ∈ O) : Hx H O a = none := if_pos h
theorem def_coreX {K : PySem.W.Frag} {C : Cfg} {N : List Str} {n : Nat} {ios : List Nat} {body : Env → SR} {vs : List V} {H : Hp} {Q : VK} {E : XK} (h : spX K C n ios (fun as => finX ios (body (entry N.length as))) vs H Q E) (hios : ios.all (fun i => decide (i < n)) = true) (hn : n ≤ N.length) :
    tS K C W0 ios body { nx := fun _ H' => Q .non H', rt := Q } (L2.start N vs) H := by
  obtain ⟨ss, O, hd, htb, hl, bvs, hown, hdis, post⟩ := h
  have post : match finX ios (body (entry N.length ss)) with
    | .ok (s, ns) => s.still = true ∧ ∀ v H', Stay H O H' O → LamX.Tabs C.T H' → (∀ b ∈ O, (∀ i ∈ ios, vs[i]? ≠ some (.ref b)) → H' b = H b) → BV K C H' O v s →
        (∀ (j i : Nat), ios[j]? = some i → ∃ a t, vs[i]? = some (.ref a) ∧ ns[j]? = some t ∧ t.own = true ∧ BV K C H' O (.ref a) t) → Q v H'
    | _ => False := post
  have ls := bvs_length bvs
  have el : L2.start N vs = vs.map some ++ List.replicate (N.length - vs.length) none := rfl
  have get : ∀ (i : Nat) s, (entry N.length ss)[i]? = some (some s) → ss[i]? = some s ∧ ∃ v, vs[i]? = some v ∧ (L2.start N vs)[i]? = some (some v) ∧ BV K C H O v s := by
    intro i s h
    unfold entry at h
    by_cases hi : i < ss.length
    · rw [List.getElem?_append_left (by simpa using hi), List.getElem?_map] at h
      cases e : ss[i]? with
      | none => rw [e] at h; cases h
      | some s' =>
        rw [e] at h
        cases h
        obtain ⟨v, ev, bv⟩ := bvs_get bvs e
        refine ⟨rfl, v, ev, ?_, bv⟩
        rw [el, List.getElem?_append_left (by simp; omega), List.getElem?_map, ev]
        rfl
    · rw [List.getElem?_append_right (by simpa using hi)] at h
      rw [List.getElem?_replicate] at h
      split at h <;> cases h
  have kind : ∀ (i : Nat) s, ss[i]? = some s → (i ∈ ios → s.own = true) ∧ (i ∉ ios → s.still = true) := fun i s h => by
    have := isOwnAt_get hown h
    rw [Nat.zero_add] at this
    refine ⟨fun m => ?_, fun m => ?_⟩
    · rw [if_pos (List.contains_iff_mem.mpr m)] at this; exact this
    · rw [if_neg (fun z => m (List.contains_iff_mem.mp z))] at this; exact this
  have ioref : ∀ i ∈ ios, ∃ a s, vs[i]? = some (.ref a) ∧ ss[i]? = some s ∧ s.own = true ∧ a ∈ O := fun i m => by
    have hi : i < n := of_decide_eq_true (List.all_eq_true.mp hios i m)
    have hi2 : i < ss.length := by omega
    have e : ss[i]? = some ss[i] := List.getElem?_eq_getElem hi2
    obtain ⟨v, ev, bv⟩ := bvs_get bvs e
    have o := (kind i _ e).1 m
    obtain ⟨a, rfl, aO, _⟩ := own_ref bv o
    exact ⟨a, _, ev, e, o, aO⟩
  -- the places of the parameters that are changed
  let adr : List Addr := ios.filterMap fun i => refAt vs i
  let pn : List (Nat × Addr) := ios.filterMap fun i => (refAt vs i).map fun a => (i, a)
  have adr_mem : ∀ a, a ∈ adr ↔ ∃ i ∈ ios, vs[i]? = some (.ref a) := fun a => by
    simp only [adr, List.mem_filterMap, refAt_some]
  have pn_mem : ∀ p, p ∈ pn ↔ p.1 ∈ ios ∧ vs[p.1]? = some (.ref p.2) := fun p => by
    simp only [pn, List.mem_filterMap, Option.map_eq_some_iff, refAt_some]
    constructor
    · rintro ⟨i, m, a, h, rfl⟩
      exact ⟨m, h⟩
    · rintro ⟨m, h⟩
      exact ⟨p.1, m, p.2, h, rfl⟩
  have pn_ios : pn.map (·.1) = ios := by
    have : ∀ is : List Nat, (∀ i ∈ is, ∃ a, vs[i]? = some (.ref a)) → (is.filterMap fun i => (refAt vs i).map fun a => (i, a)).map (fun p => p.1) = is := by
      intro is
      induction is with
      | nil => intro _; rfl
      | cons i is ih =>
        intro h
        obtain ⟨a, ea⟩ := h i List.mem_cons_self
        rw [List.filterMap_cons, refAt_some.mpr ea]
        simp only [List.map_cons, Option.map_some]
        rw [ih fun j hj => h j (List.mem_cons_of_mem _ hj)]
    exact this ios fun i m => let ⟨a, _, e, _⟩ := ioref i m; ⟨a, e⟩
  have rp : Rp K C (Hx H adr) O pn H O (entry N.length ss) (L2.start N vs) := by
    have lt_of : ∀ i ∈ ios, i < vs.length := fun i m => by obtain ⟨a, s, e, _⟩ := ioref i m; exact (List.getElem?_eq_some_iff.mp e).1
    refine ⟨?_, fun i s h => ?_, fun i j a s t h1 h2 o1 o2 e1 e2 => ?_, fun i a s h o e => ?_, hd, .of hx_le, fun a h => h, fun a h => .inl h, fun p hp => ?_, htb⟩
    · unfold entry
      rw [el]
      simp [ls]
    · obtain ⟨g1, v, g2, g3, g4⟩ := get i s h
      refine ⟨?_, v, g3, g4⟩
      by_cases m : i ∈ ios
      · exact .inr ((kind i s g1).1 m)
      · exact .inl ((kind i s g1).2 m)
    · obtain ⟨g1, v, g2, g3, g4⟩ := get i s h1
      obtain ⟨k1, w, k2, k3, k4⟩ := get j t h2
      rw [g3] at e1
      rw [k3] at e2
      cases e1
      cases e2
      have m1 : i ∈ ios := by
        by_cases m : i ∈ ios
        · exact m
        · rw [still_not_own ((kind i s g1).2 m)] at o1; cases o1
      have m2 : j ∈ ios := by
        by_cases m : j ∈ ios
        · exact m
        · rw [still_not_own ((kind j t k1).2 m)] at o2; cases o2
      exact hdis i j a m1 m2 g2 k2
    · obtain ⟨g1, v, g2, g3, g4⟩ := get i s h
      rw [g3] at e
      cases e
      have m : i ∈ ios := by
        by_cases m : i ∈ ios
        · exact m
        · rw [still_not_own ((kind i s g1).2 m)] at o; cases o
      exact ⟨.of (hx_in ((adr_mem a).mpr ⟨i, m, g2⟩)), .inl ((pn_mem (i, a)).mpr ⟨m, g2⟩)⟩
    · obtain ⟨m, h⟩ := (pn_mem p).mp hp
      have := lt_of _ m
      rw [el, List.getElem?_append_left (by simp; omega), List.getElem?_map, h]
      rfl
  have ending : ∀ (δ : Env) (z : S) (ns : List S) v σ' H' O', z.still = true → outIo ios δ = .ok ns → Stay H O H' O' → Rp K C (Hx H adr) O pn H' O' δ σ' → BV K C H' O' v z →
      (∀ v H', Stay H O H' O → LamX.Tabs C.T H' → (∀ b ∈ O, (∀ i ∈ ios, vs[i]? ≠ some (.ref b)) → H' b = H b) → BV K C H' O v z →
        (∀ (j i : Nat), ios[j]? = some i → ∃ a t, vs[i]? = some (.ref a) ∧ ns[j]? = some t ∧ t.own = true ∧ BV K C H' O (.ref a) t) → Q v H') → Q v H' := by
    intro δ z ns v σ' H' O' hz en st r bv k
    refine k v H' (st.trans (hm_sub r.sub)) r.tabs (fun b hb hno => ?_) (out_post r bv hz) fun j i hj => ?_
    · obtain ⟨o, p, hmu⟩ := hd b hb
      have : b ∉ adr := fun m => by obtain ⟨i, mi, e⟩ := (adr_mem b).mp m; exact hno i mi e
      rw [p]
      exact r.base.kp b o (by rw [hx_out this]; exact p) (mut_nt hmu)
    · obtain ⟨t, e1, o, e2⟩ := outIo_get en hj
      have mi : i ∈ ios := List.mem_of_getElem? hj
      obtain ⟨a, s, ea, es, os, aO⟩ := ioref i mi
      have hp := r.pin (i, a) ((pn_mem (i, a)).mpr ⟨mi, ea⟩)
      obtain ⟨_, v', ev, bv'⟩ := r.slot i t e2
      rw [hp] at ev
      cases ev
      refine ⟨a, t, ea, e1, o, ?_⟩
      cases bv' with
      | d => cases o
      | fl => cases o
      | fk => cases o
      | obj => cases o
      | ol h1 h2 h3 => exact .ol aO h2 (dpa_same (hm_sub r.sub) h3)
      | ok h1 h2 h3 => exact .ok aO h2 (kv_same (hm_sub r.sub) h3)
  refine ⟨Hx H adr, O, pn, _, O, pn_ios, rp, ?_⟩
  cases eb : body (entry N.length ss) with
  | next δ =>
    rw [eb] at post
    simp only [finX] at post
    cases en : outIo ios δ with
    | ok ns =>
      rw [en] at post
      simp only [R.ok_bind] at post
      exact fun σ' H' O' a r => ending δ (.d .none) ns .non σ' H' O' rfl en a r (.d .non) post.2
    | exc k p => rw [en] at post; exact post.elim
    | bad => rw [en] at post; exact post.elim
  | ret s δ =>
    rw [eb] at post
    simp only [finX] at post
    cases ez : s.arg with
    | exc k p => rw [ez] at post; exact post.elim
    | bad => rw [ez] at post; exact post.elim
    | ok z =>
      rw [ez] at post
      simp only [R.ok_bind] at post
      cases en : outIo ios δ with
      | ok ns =>
        rw [en] at post
        simp only [R.ok_bind] at post
        exact fun v σ' H' O' a r bv fr => ending δ z ns v σ' H' O' (arg_still ez) en a r (bv_arg bv ez) post.2
      | exc k p => rw [en] at post; exact post.elim
      | bad => rw [en] at post; exact post.elim
  | brk δ => rw [eb] at post; exact post.elim
  | cnt δ => rw [eb] at post; exact post.elim
  | exc k p δ => rw [eb] at post; exact post.elim
  | bad => rw [eb] at post; exact post.elim
/-- a def that changes lists of its caller is worth what its body makes of its slots -/
theorem def_okX {P : Program} {w : World} {K : PySem.W.Frag} {C : Cfg} {mg : Str → Option Value} {base : Heap} {x qual : Str} {st : Stmt} {fa : Addr} {fd : FuncData} {N ps : List Str} {k : Nat} {body : Env → SR} (ios : List Nat) (F : Fun K x qual st fa fd) (Sc : FnScope N ps (defScope st))
    (hios : ios.all (fun i => decide (i < ps.length)) = true)
    (hbody : ∀ (cdv : Value) (A : Around) (outer : List PySem.Env) (s : Shared) (H : Hp) (E : XK), Room k (A.deeper (PyProof.Rows.envOfC qual (defScope st) s.heap.objs.size fa cdv)) →
      DSs (cxOf (L2.CX P w) P w K mg base N qual (defScope st) fa cdv A outer s H E) C W0 ios (defBody st) body) :
    FnOk P w K mg base (L2.CX P w) (k + 1) fa fd ps (spX K C ps.length ios fun as => finX ios (body (entry N.length as))) := by
  have hn : ps.length ≤ N.length := by rw [← Sc.pre]; simp; omega
  refine F.okX Sc (fun vs H Q E h => ?_) (fun cdv A outer s H vs Q E hr h => ⟨_, hbody cdv A outer s H E hr, def_coreX (E := E) h hios hn⟩)
  obtain ⟨ss, O, _, _, hl, _⟩ := h
  exact hl

/-! ### the call of such a def -/
/-- the arguments as the def sees them -/
def agArgs (δ : Env) : List Ag → R (List S)
  | [] => .ok []
  | .v s :: r => do let z ← s.arg; let zs ← agArgs δ r; .ok (z :: zs)
  | .io i :: r => match δ[i]? with
    | some (some s) => (match s.own with
      | true => (do let zs ← agArgs δ r; .ok (s :: zs))
      | false => .bad)
    | _ => .bad
/-- at which places the lists stand, and in which slots -/
def agIo : Nat → List Ag → List (Nat × Nat)
  | _, [] => []
  | p, .v _ :: r => agIo (p + 1) r
  | p, .io i :: r => (p, i) :: agIo (p + 1) r
def setAll : List Nat → List S → Env → Env
  | i :: is, t :: ts, δ => setAll is ts (δ.set i (some t))
  | _, _, δ => δ
def xCallX (n : Nat) (ios : List Nat) (m : List S → R (S × List S)) (xa : XA) : XE := fun δ => do
  let (as, δ1) ← xa δ
  let ss ← agArgs δ1 as
  let l := agIo 0 as
  chk (decide (ss.length = n) && decide (l.map (·.1) = ios) && decide (l.map (·.2)).Nodup) (do
    let (s, ns) ← m ss
    chk (decide (ns.length = ios.length) && s.still) (.ok (s, setAll (l.map (·.2)) ns δ1)))
theorem setAll_length : ∀ (is : List Nat) (ts : List S) (δ : Env), (setAll is ts δ).length = δ.length
  | [], _, _ => rfl
  | _ :: _, [], _ => rfl
  | i :: is, t :: ts, δ => by unfold setAll; rw [setAll_length is ts]; simp
theorem setAll_out : ∀ {is : List Nat} {ts : List S} {δ : Env} {j : Nat}, j ∉ is → (setAll is ts δ)[j]? = δ[j]?
  | [], _, _, _, _ => rfl
  | _ :: _, [], _, _, _ => rfl
  | i :: is, t :: ts, δ, j, h => by
    simp only [List.mem_cons, not_or] at h
    unfold setAll
    rw [setAll_out h.2, List.getElem?_set_ne (Ne.symm h.1)]
theorem setAll_in : ∀ {is : List Nat} {ts : List S} {δ : Env} {p j : Nat} {t : S}, is.Nodup → is[p]? = some j → ts[p]? = some t → j < δ.length → (setAll is ts δ)[j]? = some (some t)
  | [], _, _, _, _, _, _, h, _, _ => by simp at h
  | _ :: _, [], _, _, _, _, _, _, h, _ => by simp at h
  | i :: is, u :: ts, δ, 0, j, t, nd, h, h2, hl => by
    simp at h h2
    subst h h2
    unfold setAll
    rw [setAll_out (List.nodup_cons.mp nd).1, List.getElem?_set_self hl]
  | i :: is, u :: ts, δ, p + 1, j, t, nd, h, h2, hl => by
    unfold setAll
    exact setAll_in (List.nodup_cons.mp nd).2 (by simpa using h) (by simpa using h2) (by simpa using hl)
section
variable {K : PySem.W.Frag} {C : Cfg} {B H H' : Hp} {O₀ O O' : List Addr} {pn : List (Nat × Addr)} {δ : Env} {σ : St}
theorem agArgs_bvs (r : Rp K C B O₀ pn H O δ σ) : ∀ {vs : List V} {as : List Ag} {ss : List S}, AV K C H O σ vs as → agArgs δ as = .ok ss → BVs K C H O vs ss
  | _, _, _, .nil, e => by cases e; exact .nil
  | _, _, _, .cons n b q, e => by
    obtain ⟨z, e1, e⟩ := bind_ok e
    obtain ⟨zs, e2, e⟩ := bind_ok e
    cases e
    exact .cons (bv_arg b e1) (agArgs_bvs r q e2)
  | _, _, _, .io (i := i) ev q, e => by
    unfold agArgs at e
    split at e
    · rename_i s hs
      cases eo : s.own with
      | false => rw [eo] at e; cases e
      | true =>
        rw [eo] at e
        obtain ⟨zs, e2, e⟩ := bind_ok e
        cases e
        obtain ⟨_, v', ev', bv⟩ := r.slot i s hs
        rw [ev] at ev'
        cases ev'
        exact .cons bv (agArgs_bvs r q e2)
    · cases e
/-- which argument is which slot's -/
theorem agIo_get : ∀ {vs : List V} {as : List Ag} {ss : List S} {k : Nat}, AV K C H O σ vs as → agArgs δ as = .ok ss → ∀ p ∈ agIo k as, ∃ j v s, p.1 = k + j ∧ vs[j]? = some v ∧ σ[p.2]? = some (some v) ∧ δ[p.2]? = some (some s) ∧ s.own = true
  | _, _, _, _, .nil, _, p, h => by cases h
  | _, _, _, k, .cons n b q, e, p, h => by
    obtain ⟨z, e1, e⟩ := bind_ok e
    obtain ⟨zs, e2, e⟩ := bind_ok e
    obtain ⟨j, v, s, a1, a2, a3, a4, a5⟩ := agIo_get q e2 p h
    exact ⟨j + 1, v, s, by omega, by simpa using a2, a3, a4, a5⟩
  | _, _, _, k, .io (i := i) ev q, e, p, h => by
    unfold agArgs at e
    split at e
    · rename_i s hs
      cases eo : s.own with
      | false => rw [eo] at e; cases e
      | true =>
        rw [eo] at e
        obtain ⟨zs, e2, e⟩ := bind_ok e
        rcases List.mem_cons.mp h with rfl | h
        · exact ⟨0, _, s, rfl, rfl, ev, hs, eo⟩
        · obtain ⟨j, v, s, a1, a2, a3, a4, a5⟩ := agIo_get q e2 p h
          exact ⟨j + 1, v, s, by omega, by simpa using a2, a3, a4, a5⟩
    · cases e
theorem agIo_ge : ∀ {as : List Ag} {k : Nat} {p : Nat × Nat}, p ∈ agIo k as → k ≤ p.1
  | [], _, _, h => by cases h
  | .v _ :: r, k, p, h => by have := agIo_ge (as := r) (k := k + 1) h; omega
  | .io i :: r, k, p, h => by
    rcases List.mem_cons.mp h with rfl | h
    · exact Nat.le_refl _
    · have := agIo_ge (as := r) (k := k + 1) h; omega
theorem agArgs_own : ∀ {as : List Ag} {ss : List S} {k : Nat} (ios : List Nat), agArgs δ as = .ok ss → (∀ p ∈ agIo k as, p.1 ∈ ios) → (∀ i ∈ ios, k ≤ i → i ∈ (agIo k as).map (·.1)) → isOwnAt ios k ss = true
  | [], _, _, _, e, _, _ => by cases e; rfl
  | .v s :: r, _, k, ios, e, h1, h2 => by
    obtain ⟨z, e1, e⟩ := bind_ok e
    obtain ⟨zs, e2, e⟩ := bind_ok e
    cases e
    have nk : k ∉ ios := fun m => by
      have := h2 k m (Nat.le_refl _)
      obtain ⟨p, hp, ep⟩ := List.mem_map.mp this
      have := agIo_ge (as := r) (k := k + 1) hp
      omega
    unfold isOwnAt
    rw [if_neg (fun z => nk (List.contains_iff_mem.mp z)), Bool.and_eq_true]
    exact ⟨arg_still e1, agArgs_own ios e2 h1 fun i m hi => h2 i m (by omega)⟩
  | .io i :: r, _, k, ios, e, h1, h2 => by
    unfold agArgs at e
    split at e
    · rename_i s hs
      cases eo : s.own with
      | false => rw [eo] at e; cases e
      | true =>
        rw [eo] at e
        obtain ⟨zs, e2, e⟩ := bind_ok e
        cases e
        have mk : k ∈ ios := h1 (k, i) List.mem_cons_self
        unfold isOwnAt
        rw [if_pos (List.contains_iff_mem.mpr mk), Bool.and_eq_true]
        refine ⟨eo, agArgs_own ios e2 (fun p hp => h1 p (List.mem_cons_of_mem _ hp)) fun j m hj => ?_⟩
        have := h2 j m (by omega)
        rcases List.mem_cons.mp this with q | q
        · have : j = k := q
          omega
        · exact q
    · cases e
end
section
variable {X : Cx} {C : Cfg} {io : List Nat} {e : Expr} {es : List Expr} {xa : XA} {pos : Pos} {k n : Nat} {fa : Addr} {fd : FuncData} {ps : List Str} {x : Str} {p : Pos} {ios : List Nat} {m : List S → R (S × List S)}
theorem dx_callX (F : FnOk X.prog X.w X.K X.mg X.base (L2.CX X.prog X.w) k fa fd ps (spX X.K C n ios m)) (hr : Room k X.A) (hg : Gl X x) (hm : X.mg x = some (.ref fa)) (hk : PySem.W.keepIn X.K (.ref fa) = true) (hb : Binds X.K fd ps [])
    (ha : DXA X C io (e :: es) xa) (hdb : (x == ("__debug__" : Str)) = false := by decide) (he : starEach (e :: es) X.env = (false, eval e X.env) :: starEach es X.env := by rfl) (hpl : (backTo pos (starEach es X.env)).any (·.1) = false := by rfl) :
    DX X C io (.Call (.Name x p) (e :: es) [] pos) (xCallX n ios m xa) := by
  refine PE.imp (pe_callSD F hr hg hm hk hb .nil (fun σ => passAt takes0 σ) ha hdb he hpl) fun σ H Q ⟨B, O₀, pn, δ, O, hio, rp, w⟩ => ?_
  have go : tXA X.K C io xa σ H fun vs H1 => spX X.K C n ios m vs H1 Q (WE W0 σ) := by
    refine seqXA (PQ := PostX X.K C B O₀ pn σ H O Q) hio rp w (fun k p q => q) (fun q => q) fun as δ1 e q vs H1 O1 st r1 av => ?_
    simp only at q
    cases eg : agArgs δ1 as with
    | exc k p => simp only [eg] at q; exact q.elim
    | bad => simp only [eg] at q; exact q.elim
    | ok ss =>
      simp only [eg, R.ok_bind] at q
      have bvs := agArgs_bvs r1 av eg
      cases ec : (decide (ss.length = n) && decide ((agIo 0 as).map (·.1) = ios) && decide ((agIo 0 as).map (·.2)).Nodup) with
      | false => rw [ec, chk_false] at q; exact q.elim
      | true =>
        rw [ec, chk_true] at q
        simp only [Bool.and_eq_true, decide_eq_true_eq] at ec
        obtain ⟨⟨hn, hi⟩, hnd⟩ := ec
        have io_get := agIo_get (k := 0) av eg
        refine ⟨ss, O1, r1.dom, r1.tabs, (bvs_length bvs).trans hn, bvs, agArgs_own ios eg (fun p hp => by rw [← hi]; exact List.mem_map_of_mem hp) (fun i hm _ => by rw [hi]; exact hm), fun i j a mi mj ei ej => ?_, ?_⟩
        · rw [← hi] at mi mj
          obtain ⟨p1, hp1, e1⟩ := List.mem_map.mp mi
          obtain ⟨p2, hp2, e2⟩ := List.mem_map.mp mj
          obtain ⟨j1, v1, s1, a1, a2, a3, a4, a5⟩ := io_get p1 hp1
          obtain ⟨j2, v2, s2, b1, b2, b3, b4, b5⟩ := io_get p2 hp2
          have : i = j1 := by omega
          subst this
          have : j = j2 := by omega
          subst this
          rw [ei] at a2
          rw [ej] at b2
          cases a2
          cases b2
          have same := r1.uniq _ _ a s1 s2 a4 b4 a5 b5 a3 b3
          obtain ⟨u1, hu1⟩ := List.mem_iff_getElem?.mp hp1
          obtain ⟨u2, hu2⟩ := List.mem_iff_getElem?.mp hp2
          have g1 : ((agIo 0 as).map (·.2))[u1]? = some p1.2 := by rw [List.getElem?_map, hu1]; rfl
          have g2 : ((agIo 0 as).map (·.2))[u2]? = some p1.2 := by rw [List.getElem?_map, hu2, same]; rfl
          have hl1 := (List.getElem?_eq_some_iff.mp g1).1
          have hu : u1 = u2 := (List.getElem?_inj hl1 hnd).mp (g1.trans g2.symm)
          rw [hu, hu2] at hu1
          injection hu1 with hu1
          rw [← e1, ← e2, hu1]
        · cases em : m ss with
          | exc k p => rw [em] at q; exact q.elim
          | bad => rw [em] at q; exact q.elim
          | ok sn =>
            obtain ⟨s, ns⟩ := sn
            rw [em] at q
            simp only [R.ok_bind] at q
            cases ec2 : (decide (ns.length = ios.length) && s.still) with
            | false => rw [ec2, chk_false] at q; exact q.elim
            | true =>
              rw [ec2, chk_true] at q
              simp only [Bool.and_eq_true, decide_eq_true_eq] at ec2
              obtain ⟨hnl, hstill⟩ := ec2
              by_cases hstill : s.still = true
              · refine ⟨hstill, fun v H' st2 tabs2 oth bv hnew => ?_⟩
                have rp2 : Rp X.K C B O₀ pn H' O1 (setAll ((agIo 0 as).map (·.2)) ns δ1) σ := by
                  refine r1.ios (fun b => ∃ i ∈ ios, vs[i]? = some (.ref b)) st2 (fun b hb hno => oth b hb fun i mi e => hno ⟨i, mi, e⟩) tabs2 (setAll_length _ _ _) (fun a ⟨i, mi, ei⟩ => ?_) fun j s' hj => ?_
                  · have mi' := mi
                    rw [← hi] at mi'
                    obtain ⟨p1, hp1, e1⟩ := List.mem_map.mp mi'
                    obtain ⟨j1, v1, s1, a1, a2, a3, a4, a5⟩ := io_get p1 hp1
                    have : i = j1 := by omega
                    subst this
                    rw [ei] at a2
                    cases a2
                    refine ⟨(r1.ownB _ a s1 a4 a5 a3).1, ?_⟩
                    obtain ⟨u, hu⟩ := List.mem_iff_getElem?.mp mi
                    obtain ⟨a', t, g1, g2, g3, g4⟩ := hnew u i hu
                    rw [ei] at g1
                    cases g1
                    obtain ⟨b, w, hb, _, hw, mw⟩ := own_mut g4 g3
                    cases hb
                    exact ⟨w, hw, mw⟩
                  · by_cases mj : j ∈ (agIo 0 as).map (·.2)
                    · obtain ⟨p1, hp1, e1⟩ := List.mem_map.mp mj
                      obtain ⟨j1, v1, s1, a1, a2, a3, a4, a5⟩ := io_get p1 hp1
                      obtain ⟨u, hu⟩ := List.mem_iff_getElem?.mp hp1
                      have hu2 : ((agIo 0 as).map (·.2))[u]? = some j := by rw [List.getElem?_map, hu]; exact congrArg some e1
                      have hu1 : ios[u]? = some p1.1 := by rw [← hi, List.getElem?_map, hu]; rfl
                      obtain ⟨a', t, g1, g2, g3, g4⟩ := hnew u p1.1 hu1
                      have : p1.1 = j1 := by omega
                      rw [this, a2] at g1
                      cases g1
                      rw [e1] at a3 a4
                      have hlt : j < δ1.length := (List.getElem?_eq_some_iff.mp a4).1
                      rw [setAll_in hnd hu2 g2 hlt] at hj
                      cases hj
                      exact .inr ⟨a', s1, a4, a5, g3, a3, g4⟩
                    · rw [setAll_out mj] at hj
                      refine .inl ⟨hj, fun o a ea ⟨i, mi, ei⟩ => mj ?_⟩
                      rw [← hi] at mi
                      obtain ⟨p1, hp1, e1⟩ := List.mem_map.mp mi
                      obtain ⟨j1, v1, s1, a1, a2, a3, a4, a5⟩ := io_get p1 hp1
                      have : i = j1 := by omega
                      subst this
                      rw [ei] at a2
                      cases a2
                      have := r1.uniq _ _ a s1 s' a4 hj a5 o a3 ea
                      rw [← this]
                      exact List.mem_map_of_mem hp1
                refine q v H' O1 ⟨H', Sm.refl _, ?_, st.trans st2, rp2⟩ bv
                cases s with
                | d => trivial
                | obj => trivial
                | l m ds => cases hstill
                | k m ds => cases hstill
              · exact absurd ‹s.still = true› hstill
  unfold tCallSD
  simpa using go
end
end DL

set_option Elab.async false
set_option linter.all false
set_option maxRecDepth 100000
set_option maxHeartbeats 1000000
/-! DL11: statements, sources and comprehensions with expressions that change what one owns. -/
namespace DL
open PySem PySem.Spec L2

def sX (f : XE) (g : S → Env → SR) : Env → SR := fun δ => match f δ with
  | .ok (s, δ1) => g s δ1
  | _ => .bad
def sXB (f : XB) (g : Bool → Env → SR) : Env → SR := fun δ => match f δ with
  | .ok (s, δ1) => g s δ1
  | _ => .bad
section
variable {K : PySem.W.Frag} {C : Cfg} {W : WX} {B H H' : Hp} {O₀ O O' : List Addr} {pn : List (Nat × Addr)} {D : Ends} {δ : Env} {σ : St} {io : List Nat}
theorem runX {f : XE} {g : S → Env → SR} {Q : VK} (hio : pn.map (·.1) = io) (rp : Rp K C B O₀ pn H O δ σ) (h : PostS K C W B O₀ pn D H O (sX f g δ))
    (ho : ∀ s δ1, f δ = .ok (s, δ1) → PostS K C W B O₀ pn D H O (g s δ1) → ∀ v H1 O1, Ahead K C B O₀ pn H O H1 O1 δ1 σ v s → BV K C H1 O1 v s → Q v H1) : tX K C io f σ H Q := by
  refine ⟨B, O₀, pn, δ, O, hio, rp, ?_⟩
  unfold sX at h
  cases e : f δ with
  | ok p => obtain ⟨s, δ1⟩ := p; rw [e] at h; exact ho s δ1 e h
  | exc k p => rw [e] at h; exact h.elim
  | bad => rw [e] at h; exact h.elim
theorem runXB {f : XB} {g : Bool → Env → SR} {Q : Bool → Hp → Prop} (hio : pn.map (·.1) = io) (rp : Rp K C B O₀ pn H O δ σ) (h : PostS K C W B O₀ pn D H O (sXB f g δ))
    (ho : ∀ s δ1, f δ = .ok (s, δ1) → PostS K C W B O₀ pn D H O (g s δ1) → ∀ H1 O1, Stay H O H1 O1 → Rp K C B O₀ pn H1 O1 δ1 σ → Q s H1) : tXB K C io f σ H Q := by
  refine ⟨B, O₀, pn, δ, O, hio, rp, ?_⟩
  unfold sXB at h
  cases e : f δ with
  | ok p => obtain ⟨s, δ1⟩ := p; rw [e] at h; exact ho s δ1 e h
  | exc k p => rw [e] at h; exact h.elim
  | bad => rw [e] at h; exact h.elim
end
section
variable {X : Cx} {C : Cfg} {W : WX} {io : List Nat} {e : Expr} {xf : XE} {xt : XB} {xa : XA} {u w : Env → SR} {pos : Pos}
def sDropX (f : XE) : Env → SR := sX f fun _ δ => .next δ
theorem ds_exprX (he : DX X C io e xf) (hs : swapsWith e none pos.line X.env = pure false := by rfl) : DS X C W io (.Expr e pos) (sDropX xf) := by
  refine PS.imp (ps_expr he hs) fun D σ H ⟨B, O₀, pn, δ, O, hio, rp, h⟩ => ?_
  exact runX hio rp h fun s δ1 es q v H1 O1 ah bv => q σ H1 O1 ah.stay ah.rp
def sRetX (f : XE) : Env → SR := sX f fun s δ => .ret s δ
theorem ds_retX (he : DX X C io e xf) : DS X C W io (.Return (some e) pos) (sRetX xf) := by
  refine PS.imp (ps_ret he) fun D σ H ⟨B, O₀, pn, δ, O, hio, rp, h⟩ => ?_
  exact runX hio rp h fun s δ1 es q v H1 O1 ah bv => q v σ H1 O1 ah.stay ah.rp bv (let ⟨_, _, fr, _, r⟩ := ah; fr.back r.base)
def sIfX (t : XB) (u w : Env → SR) : Env → SR := sXB t fun c δ => if c then u δ else w δ
theorem ds_ifX {c : Expr} {b1 b2 : List Stmt} (hc : DXT X C io c xt) (ha : DSs X C W io b1 u) (hb : DSs X C W io b2 w) : DS X C W io (.If c b1 b2 pos) (sIfX xt u w) := by
  refine PS.imp (ps_if hc ha hb) fun D σ H ⟨B, O₀, pn, δ, O, hio, rp, h⟩ => ?_
  refine runXB hio rp h fun k δ1 es q H1 O1 st r1 => ?_
  cases k with
  | true => rw [if_pos rfl]; exact ⟨B, O₀, pn, δ1, O1, hio, r1, postS_mono st q⟩
  | false => rw [if_neg Bool.false_ne_true]; exact ⟨B, O₀, pn, δ1, O1, hio, r1, postS_mono st q⟩
def sAsgX (i : Nat) (f : XE) : Env → SR := sX f fun s δ => match s.arg with
  | .ok z => .next (δ.set i (some z))
  | _ => .bad
theorem asgX_core {i : Nat} {D : Ends} {σ : St} {H : Hp} (hi : io.contains i = false) (h : tS X.K C W io (sAsgX i xf) D σ H) : tAsg (tX X.K C io xf) (gName i) D σ H := by
  obtain ⟨B, O₀, pn, δ, O, hpn, rp, h⟩ := h
  refine runX hpn rp h fun s δ1 es q v H1 O1 ah bv => ?_
  cases ea : s.arg with
  | ok z => rw [ea] at q; exact q _ H1 O1 ah.stay (ah.rp.set (arg_still ea) (bv_arg bv ea) (io_ne hpn hi))
  | exc k p => exact (arg_ne s k p ea).elim
  | bad => rw [ea] at q; exact q.elim
theorem ds_asgX (i : Nat) {x : Str} {pos' : Pos} (he : DX X C io e xf) (hN : X.N.Nodup) (hio : io.contains i = false := by rfl) (hi : X.N[i]? = some x := by rfl) (hx : Loc X.env.scope x := by first | exact Or.inl rfl | exact Or.inr rfl)
    (hs : swapsWith e (some (.Name x pos')) pos.line X.env = pure false := by rfl) (hf : X.fn x = true ∨ X.env.scope.names.lookup x = some .local := by first | exact .inl rfl | exact .inr rfl) : DS X C W io (.Assign [.Name x pos'] e pos) (sAsgX i xf) :=
  PS.imp (ps_set hN hi hx he hs hf) fun D σ H h => asgX_core hio h
def sAsgOX (i : Nat) (f : XE) : Env → SR := sX f fun s δ => match s.keep with
  | .ok z => .next (δ.set i (some z))
  | _ => .bad
theorem asgOX_core {i : Nat} {D : Ends} {σ : St} {H : Hp} (hi : io.contains i = false) (h : tS X.K C W io (sAsgOX i xf) D σ H) : tAsg (tX X.K C io xf) (gName i) D σ H := by
  obtain ⟨B, O₀, pn, δ, O, hpn, rp, h⟩ := h
  refine runX hpn rp h fun s δ1 es q v H1 O1 ah bv => ?_
  cases ea : s.keep with
  | ok z =>
    rw [ea] at q
    obtain ⟨ho, a, rfl, hm, b2⟩ := bv_keep bv ea
    obtain ⟨H0, s0, fr, st, r0⟩ := ah
    have ha := fresh_keep ea fr
    refine q _ H1 (a :: O1) (st.trans fun b u x => ?_) (r0.setOwn s0 ho ha hm b2 (io_ne hpn hi))
    obtain ⟨m, x'⟩ := hm_some x
    exact hm_mk (by simp [ha.ne x' (hm_nt x), m]) (s0.kp _ _ x' (hm_nt x)) (hm_nt x)
  | exc k p => exact (keep_ne s k p ea).elim
  | bad => rw [ea] at q; exact q.elim
theorem ds_asgOX (i : Nat) {x : Str} {pos' : Pos} (he : DX X C io e xf) (hN : X.N.Nodup) (hio : io.contains i = false := by rfl) (hi : X.N[i]? = some x := by rfl) (hx : Loc X.env.scope x := by first | exact Or.inl rfl | exact Or.inr rfl)
    (hs : swapsWith e (some (.Name x pos')) pos.line X.env = pure false := by rfl) (hf : X.fn x = true ∨ X.env.scope.names.lookup x = some .local := by first | exact .inl rfl | exact .inr rfl) : DS X C W io (.Assign [.Name x pos'] e pos) (sAsgOX i xf) :=
  PS.imp (ps_set hN hi hx he hs hf) fun D σ H h => asgOX_core hio h
/-- x.append(e) -/
def sAppX (i : Nat) (f : XE) : Env → SR := fun δ => match δ[i]? with
  | some (some (.l .ow _)) => sX f (fun s δ => match δ[i]?, s.pd with
    | some (some (.l .ow ds)), .ok x => (match decide (ds.length ≤ 1000000) with | true => .next (δ.set i (some (.l .ow (ds ++ [x])))) | false => .bad)
    | _, _ => .bad) δ
  | _ => .bad
theorem ds_appX (i : Nat) {x : Str} {p apos cpos : Pos} (he : DX X C io e xf) (hN : X.N[i]? = some x := by rfl) (hv : Vis X.env.scope x := by first | exact Or.inl rfl | exact Or.inr (Or.inl rfl) | exact Or.inr (Or.inr rfl))
    (hd : (x == ("__debug__" : Str)) = false := by decide) (hcd : (x == ("__classdict__" : Str)) = false := by decide)
    (hbase : attributeBase (.Name x p) "append" X.env (eval (.Name x p) X.env) = eval (.Name x p) X.env := by rfl)
    (hfew : ((backTo cpos (starEach [e] X.env)).all (fun x => !x.1) && (backToKw cpos (keywordEach [] X.env)).all (fun x => x.1.isSome)
      && decide (([e] : List Expr).length + ([] : List Keyword).length + (if ([] : List Keyword).isEmpty then 0 else 1) < 30)) = true := by rfl)
    (hline : (apos.endLine == cpos.line) = true := by rfl) (hs : starEach (e :: []) X.env = (false, eval e X.env) :: starEach [] X.env := by rfl) (hplain : (backTo cpos (starEach [] X.env)).any (·.1) = false := by rfl)
    (hsw : swapsWith (.Call (.Attribute (.Name x p) "append" apos) [e] [] cpos) none pos.line X.env = pure false := by rfl) :
    DS X C W io (.Expr (.Call (.Attribute (.Name x p) "append" apos) [e] [] cpos) pos) (sAppX i xf) := by
  refine PS.imp (ps_expr (pe_bm PySem.F.plainAttrs_list PySem.F.slot_list_append PySem.F.type_list_append mt_append (pe_var hN hv hd hcd) (pa_cons he pa_nil hs) hbase hfew hline hs hplain) hsw) fun D σ H ⟨B, O₀, pn, δ, O, hpn, rp, h⟩ => ?_
  unfold sAppX at h
  split at h
  · rename_i ds0 ed0
    obtain ⟨_, v0, ev, bv0⟩ := rp.slot i _ ed0
    cases bv0 with
    | ol g1 g2 g3 =>
      rename_i a xs0
      refine ⟨_, ev, .inl ⟨rfl, _, SqL.of g2⟩, ?_⟩
      refine runX hpn rp h fun s δ1 es q v H1 O1 ah bv => ?_
      split at q
      · rename_i ds y ed ep
        have r1 := ah.rp
        obtain ⟨_, v', ev', bv'⟩ := r1.slot i _ ed
        rw [ev] at ev'
        cases ev'
        cases bv' with
        | ol h1 h2 h3 =>
          rename_i xs
          cases ec : decide (ds.length ≤ 1000000) with
          | true =>
            rw [ec] at q
            simp only at q
            have hl := of_decide_eq_true ec
            have l := dpa_length h3
            refine ⟨a, xs, v, rfl, rfl, h2, small_lineS (by omega), ?_⟩
            have bn : BV X.K C (upd H1 a (.lst (xs ++ [v]))) O1 (.ref a) (.l .ow (ds ++ [y])) := .ol h1 upd_same (by rw [hm_upd h1]; exact dpa_app h3 (.cons (bv_pd bv ep) .nil))
            exact q _ _ O1 (by rw [Stay, hm_upd h1]; exact ah.stay) (r1.upd ed rfl ev trivial rfl bn)
          | false => rw [ec] at q; exact q.elim
      · exact q.elim
  · exact h.elim

/-! ### a, b = x, y -/
def sParX (i j : Nat) (xa : XA) : Env → SR := fun δ => match xa δ with
  | .ok ([.v s, .v t], δ1) => (match s.arg, t.arg with
    | .ok y, .ok z => .next ((δ1.set i (some y)).set j (some z))
    | _, _ => .bad)
  | _ => .bad
theorem ds_parX (i j : Nat) {x y : Str} {a b : Expr} {px py pt : Pos} {kt k2 pt2} (hc : X.calm = true) (hN : X.N.Nodup) (ha : DXA X C io [a, b] xa) (hio : io.contains i = false := by rfl) (hjo : io.contains j = false := by rfl) (hi : X.N[i]? = some x := by rfl) (hj : X.N[j]? = some y := by rfl) (hij : i ≠ j := by decide)
    (hx : X.env.scope.names.lookup x = some .local := by rfl) (hy : X.env.scope.names.lookup y = some .local := by rfl)
    (hw : swappedStores [.Tuple [.Name x px, .Name y py] kt pt] (.Tuple [a, b] k2 pt2) X.env = pure (some [x, y]) := by rfl)
    (hs : swapsWithSole [.Tuple [.Name x px, .Name y py] kt pt] (.Tuple [a, b] k2 pt2) pos.line X.env = pure false := by rfl) :
    DS X C W io (.Assign [.Tuple [.Name x px, .Name y py] kt pt] (.Tuple [a, b] k2 pt2) pos) (sParX i j xa) := by
  refine PS.imp (ps_par hc hN hi hj hij hx hy ha hw hs) fun D σ H ⟨B, O₀, pn, δ, O, hpn, rp, h⟩ => ?_
  refine ⟨B, O₀, pn, δ, O, hpn, rp, ?_⟩
  unfold sParX at h
  cases e : xa δ with
  | exc k p => rw [e] at h; exact h.elim
  | bad => rw [e] at h; exact h.elim
  | ok p =>
    obtain ⟨as, δ1⟩ := p
    rw [e] at h
    intro vs H1 O1 st r1 av
    cases av with
    | nil => exact h.elim
    | io _ r => cases r <;> exact h.elim
    | cons n1 b1 r => cases r with
      | nil => exact h.elim
      | io _ r => exact h.elim
      | cons n2 b2 r => cases r with
        | cons => exact h.elim
        | io => exact h.elim
        | nil =>
          rename_i v s w t
          refine ⟨v, w, rfl, ?_⟩
          simp only at h
          cases ey : s.arg with
          | exc k p => exact (arg_ne s k p ey).elim
          | bad => rw [ey] at h; exact h.elim
          | ok y =>
            cases ez : t.arg with
            | exc k p => exact (arg_ne t k p ez).elim
            | bad => rw [ey, ez] at h; exact h.elim
            | ok z =>
              rw [ey, ez] at h
              exact h _ H1 O1 st ((r1.set (arg_still ey) (bv_arg b1 ey) (io_ne hpn hio)).set (arg_still ez) (bv_arg b2 ez) (io_ne hpn hjo))
def sParX3 (i j l : Nat) (xa : XA) : Env → SR := fun δ => match xa δ with
  | .ok ([.v s, .v t, .v r], δ1) => (match s.arg, t.arg, r.arg with
    | .ok y, .ok z, .ok u => .next (((δ1.set i (some y)).set j (some z)).set l (some u))
    | _, _, _ => .bad)
  | _ => .bad
theorem ds_parX3 (i j l : Nat) {x y z : Str} {a b c : Expr} {px py pz pt : Pos} {kt k2 pt2} (hc : X.calm = true) (hN : X.N.Nodup) (ha : DXA X C io [a, b, c] xa) (hio : io.contains i = false := by rfl) (hjo : io.contains j = false := by rfl) (hlo : io.contains l = false := by rfl)
    (hi : X.N[i]? = some x := by rfl) (hj : X.N[j]? = some y := by rfl) (hl : X.N[l]? = some z := by rfl) (hij : i ≠ j := by decide) (hil : i ≠ l := by decide) (hjl : j ≠ l := by decide)
    (hx : X.env.scope.names.lookup x = some .local := by rfl) (hy : X.env.scope.names.lookup y = some .local := by rfl) (hz : X.env.scope.names.lookup z = some .local := by rfl)
    (hw : swappedStores [.Tuple [.Name x px, .Name y py, .Name z pz] kt pt] (.Tuple [a, b, c] k2 pt2) X.env = pure (some [x, y, z]) := by rfl)
    (hs : swapsWithSole [.Tuple [.Name x px, .Name y py, .Name z pz] kt pt] (.Tuple [a, b, c] k2 pt2) pos.line X.env = pure false := by rfl) :
    DS X C W io (.Assign [.Tuple [.Name x px, .Name y py, .Name z pz] kt pt] (.Tuple [a, b, c] k2 pt2) pos) (sParX3 i j l xa) := by
  refine PS.imp (ps_par3 hc hN hi hj hl hij hil hjl hx hy hz ha hw hs) fun D σ H ⟨B, O₀, pn, δ, O, hpn, rp, h⟩ => ?_
  refine ⟨B, O₀, pn, δ, O, hpn, rp, ?_⟩
  unfold sParX3 at h
  cases e : xa δ with
  | exc k p => rw [e] at h; exact h.elim
  | bad => rw [e] at h; exact h.elim
  | ok p =>
    obtain ⟨as, δ1⟩ := p
    rw [e] at h
    intro vs H1 O1 st r1 av
    cases av with
    | nil => exact h.elim
    | io _ r => cases r with
      | nil => exact h.elim
      | io _ r => cases r <;> exact h.elim
      | cons _ _ r => cases r <;> exact h.elim
    | cons n1 b1 r => cases r with
      | nil => exact h.elim
      | io _ r => cases r <;> exact h.elim
      | cons n2 b2 r => cases r with
        | nil => exact h.elim
        | io => exact h.elim
        | cons n3 b3 r => cases r with
          | cons => exact h.elim
          | io => exact h.elim
          | nil =>
            rename_i v s w t vv r
            refine ⟨v, w, vv, rfl, ?_⟩
            simp only at h
            cases ey : s.arg with
            | exc k p => exact (arg_ne s k p ey).elim
            | bad => rw [ey] at h; exact h.elim
            | ok y =>
              cases ez : t.arg with
              | exc k p => exact (arg_ne t k p ez).elim
              | bad => rw [ey, ez] at h; exact h.elim
              | ok z =>
                cases eu : r.arg with
                | exc k p => exact (arg_ne r k p eu).elim
                | bad => rw [ey, ez, eu] at h; exact h.elim
                | ok u =>
                  rw [ey, ez, eu] at h
                  exact h _ H1 O1 st (((r1.set (arg_still ey) (bv_arg b1 ey) (io_ne hpn hio)).set (arg_still ez) (bv_arg b2 ez) (io_ne hpn hjo)).set (arg_still eu) (bv_arg b3 eu) (io_ne hpn hlo))

/-! ### sources -/
abbrev XI := Env → R (List PyData × Env)
def tIX (K : PySem.W.Frag) (C : Cfg) (io : List Nat) (fi : XI) : TI := fun σ H Q => ∃ B O₀ pn δ O, pn.map (·.1) = io ∧ Rp K C B O₀ pn H O δ σ ∧ match fi δ with
  | .ok (ds, δ1) => ∀ J H1 O1, Stay H O H1 O1 → Rp K C B O₀ pn H1 O1 δ1 σ → Wk K C J (TT C true H1 O1) ds → Q J H1
  | _ => False
abbrev DIX (X : Cx) (C : Cfg) (io : List Nat) (tg iter : Expr) (fi : XI) : Prop := PI X tg iter (tIX X.K C io fi)
def xI (fi : Env → R (List PyData)) : XI := fun δ => match fi δ with
  | .ok ds => .ok (ds, δ)
  | _ => .bad
theorem dix_pure {tg iter : Expr} {fi : Env → R (List PyData)} (h : DI X C W0 true tg iter fi) : DIX X C io tg iter (xI fi) := PI.imp h fun σ H Q ⟨B, O₀, pn, δ, O, hio, rp, w⟩ => by
  refine ⟨δ, O, rp.rep, ?_⟩
  unfold xI at w
  cases ef : fi δ with
  | ok ds => rw [ef] at w; exact fun J H1 s1 wk => w J H1 O (Stay.of s1) (rp.same s1) wk
  | exc k p => rw [ef] at w; exact w.elim
  | bad => rw [ef] at w; exact w.elim
/-- range(e), e changes what one owns -/
def xRg1 (xa : XA) : XI := fun δ => do let (as, δ1) ← xa δ; let ss ← agS as; let ds ← rg1S ss; .ok (ds, δ1)
theorem dix_range1 {tg : Expr} {p : Pos} (hg : Gl X "range") (hm : X.mg "range" = none) (ha : DXA X C io [e] xa) (hs : starEach [e] X.env = [(false, eval e X.env)] := by rfl) : DIX X C io tg (.Call (.Name "range" p) [e] [] pos) (xRg1 xa) := by
  refine PI.imp (pi_range1 hg hm ha hs) fun σ H Q ⟨B, O₀, pn, δ, O, hio, rp, w⟩ => ?_
  refine ⟨B, O₀, pn, δ, O, hio, rp, ?_⟩
  unfold xRg1 at w
  cases ea : xa δ with
  | exc k p => rw [ea] at w; exact w.elim
  | bad => rw [ea] at w; exact w.elim
  | ok p =>
    obtain ⟨as, δ1⟩ := p
    simp only [ea, R.ok_bind] at w
    cases eg : agS as with
    | exc k p => rw [eg] at w; exact w.elim
    | bad => rw [eg] at w; exact w.elim
    | ok ss =>
      rw [eg] at w
      simp only [R.ok_bind] at w
      cases er : rg1S ss with
      | exc k p => rw [er] at w; exact w.elim
      | bad => rw [er] at w; exact w.elim
      | ok ds =>
        rw [er] at w
        simp only [R.ok_bind] at w
        intro vs H1 O1 st r1 av
        have bvs := av_bvs av eg
        unfold rg1S at er
        split at er
        · rename_i x
          obtain ⟨j, e3, e4⟩ := bind_ok er
          obtain ⟨c, e5⟩ := chk_ok e4
          cases e5
          obtain ⟨v', rfl, b'⟩ := bvs1 bvs
          rw [S.i_eq e3] at b'
          simp only [cSm, Bool.and_eq_true, decide_eq_true_eq] at c
          exact ⟨j, by rw [bv_int b'], c.1, c.2, w _ H1 O1 st r1 wk_range⟩
        · cases er
/-- a value that is walked -/
def xVal (f : XE) : XI := fun δ => do let (s, δ1) ← f δ; let ds ← S.itsI true s; .ok (ds, δ1)
theorem dix_val {tg : Expr} (ha : DX X C io e xf) : DIX X C io tg e (xVal xf) := by
  refine PI.imp (PI.or (PI.or (pi_list ha) (pi_tup ha)) (pi_str ha)) fun σ H Q ⟨B, O₀, pn, δ, O, hio, rp, w⟩ => ?_
  unfold xVal at w
  cases ef : xf δ with
  | exc k p => rw [ef] at w; exact w.elim
  | bad => rw [ef] at w; exact w.elim
  | ok p =>
    obtain ⟨s, δ1⟩ := p
    simp only [ef, R.ok_bind] at w
    cases ei : S.itsI true s with
    | exc k p => rw [ei] at w; exact w.elim
    | bad => rw [ei] at w; exact w.elim
    | ok ds =>
      rw [ei] at w
      simp only [R.ok_bind] at w
      by_cases hz : ∃ z, s = .d (.str z)
      · obtain ⟨z, rfl⟩ := hz
        cases ei
        refine .inr ⟨B, O₀, pn, δ, O, hio, rp, ?_⟩
        rw [ef]
        exact fun v H1 O1 ah bv => ⟨z, bv_str bv, w _ H1 O1 ah.stay ah.rp wk_str⟩
      · have hsrc := fun (v : V) (H1 : Hp) (O1 : List Addr) (bv : BV X.K C H1 O1 v s) => src_of (b := true) bv ei fun z h => hz ⟨z, h⟩
        cases hk : s.kd with
        | true =>
          refine .inl (.inr ⟨B, O₀, pn, δ, O, hio, rp, ?_⟩)
          rw [ef]
          intro v H1 O1 ah bv
          obtain ⟨a, rfl, sr⟩ := hsrc v H1 O1 bv
          rw [hk] at sr
          obtain ⟨xs, hq, r⟩ := sr.ex
          exact ⟨a, rfl, ⟨xs, hq⟩, w _ H1 O1 ah.stay ah.rp (wk_src sr (Sm.refl _))⟩
        | false =>
          refine .inl (.inl ⟨B, O₀, pn, δ, O, hio, rp, ?_⟩)
          rw [ef]
          intro v H1 O1 ah bv
          obtain ⟨a, rfl, sr⟩ := hsrc v H1 O1 bv
          rw [hk] at sr
          obtain ⟨xs, hq, r⟩ := sr.ex
          exact ⟨a, rfl, ⟨xs, hq⟩, w _ H1 O1 ah.stay ah.rp (wk_src sr (Sm.refl _))⟩
def sForX (fi : XI) (g : PyData → Env → R Env) (u : Env → SR) : Env → SR := fun δ => match fi δ with
  | .ok (ds, δ1) => sLoop g u ds δ1
  | _ => .bad
theorem ds_forX {tg iter : Expr} {vs : List Nat} {body : List Stmt} {fi : XI} {g : PyData → Env → R Env} (hp : PassesOwn (model X.prog X.w) X.A X.env X.xe) (hc : X.calm = true) (hi : DIX X C io tg iter fi) (hg : DG X C io vs tg g) (hb : DSs X C W io body u) (hs : ∀ x, foldedSetIterable iter X.env x = pure x := by intro _; rfl) :
    DS X C W io (.For tg iter body [] pos) (sForX fi g u) := by
  refine PS.imp (ps_for hp hc hi hg hb hs) fun D σ H ⟨B, O₀, pn, δ0, O0, hpn, rp0, h0⟩ => ?_
  refine ⟨B, O₀, pn, δ0, O0, hpn, rp0, ?_⟩
  unfold sForX at h0
  cases ef : fi δ0 with
  | exc k p => rw [ef] at h0; exact h0.elim
  | bad => rw [ef] at h0; exact h0.elim
  | ok p =>
    obtain ⟨ds, δ⟩ := p
    rw [ef] at h0
    intro J H1 O st0 rp wk
    have h := postS_mono st0 h0
    refine ⟨fun i m σ' H' => m = ds.length - i ∧ i ≤ ds.length ∧ ∃ δ' O', Stay H1 O H' O' ∧ Rp X.K C B O₀ pn H' O' δ' σ' ∧ PostS X.K C W B O₀ pn D H' O' (sLoop g u (ds.drop i) δ'), ⟨ds.length, by simp, Nat.zero_le _, δ, O, Stay.refl _ _, rp, h⟩, ?_⟩
    rintro i m σ' H' ⟨rfl, hi, δ', O', st, rp', h'⟩
    obtain ⟨w1, w2⟩ := wk i H' O' ⟨st, fun z => nomatch z⟩ rp'.dom
    by_cases hlt : i < ds.length
    · obtain ⟨go, yl⟩ := w1 ds[i] (List.getElem?_eq_getElem hlt)
      refine .inr ⟨go, fun σ2 H2 => ∃ δ2 O2, Stay H1 O H2 O2 ∧ Rp X.K C B O₀ pn H2 O2 δ2 σ2 ∧ PostS X.K C W B O₀ pn D H2 O2 (sLoop g u (ds.drop (i + 1)) δ2), fun σ2 H2 ⟨δ2, O2, a, b, c⟩ => ⟨_, by omega, rfl, hlt, δ2, O2, a, b, c⟩, fun x H3 y => ?_⟩
      obtain ⟨s3, dp⟩ := yl x H3 y
      refine ⟨B, O₀, pn, δ', O', _, hpn, rp'.same s3, dp, ?_⟩
      have h2 : PostS X.K C W B O₀ pn D H3 O' (sLoop g u (ds.drop i) δ') := postS_mono (Stay.of s3) h'
      rw [List.drop_eq_getElem_cons hlt] at h2
      simp only [sLoop] at h2
      have st3 : Stay H1 O H3 O' := st.trans (Stay.of s3)
      cases eg : g ds[i] δ' with
      | exc k p => rw [eg] at h2; exact h2.elim
      | bad => rw [eg] at h2; exact h2.elim
      | ok δ1 =>
        rw [eg] at h2
        simp only at h2
        intro σ2 rp2 _
        refine ⟨B, O₀, pn, δ1, O', hpn, rp2, ?_⟩
        cases eu : u δ1 with
        | next δ2 => rw [eu] at h2; exact fun σ4 H4 O4 a r => ⟨δ2, O4, st3.trans a, r, postS_mono a h2⟩
        | cnt δ2 => rw [eu] at h2; exact fun σ4 H4 O4 a r => ⟨δ2, O4, st3.trans a, r, postS_mono a h2⟩
        | brk δ2 => rw [eu] at h2; exact h2
        | ret s δ2 => rw [eu] at h2; exact h2
        | exc k p δ2 => rw [eu] at h2; exact h2
        | bad => rw [eu] at h2; exact h2
    · have e : i = ds.length := by omega
      refine .inl ⟨w2 e, ?_⟩
      subst e
      rw [List.drop_length] at h'
      exact h' σ' H' O' (Stay.refl _ _) rp'
end
end DL

set_option Elab.async false
set_option linter.all false
set_option maxRecDepth 100000
set_option maxHeartbeats 1000000
/-! DL12: list comprehensions that change what one owns; stores into lists; unpacking. -/
namespace DL
open PySem PySem.Spec L2

def compX (g : PyData → Env → R Env) (t : XB) (f : XE) (vs : List Nat) : List PyData → Env → R (List PyData × Env)
  | [], δ => .ok ([], δ)
  | d :: ds, δ => do
    let δ1 ← g d δ
    let (c, δ2) ← t δ1
    if c then do
      let (s, δ3) ← f δ2
      let x ← s.pd
      let (r, δ4) ← compX g t f vs ds (wipeD δ3 vs)
      .ok (x :: r, δ4)
    else compX g t f vs ds (wipeD δ2 vs)
/-- the slots vs as they were, where they stood still -/
def restD (δ1 : Env) : List Nat → Env → Env
  | [], δ => δ
  | v :: vs, δ => match δ1[v]? with
    | some (some s) => (match s.still with
      | true => (restD δ1 vs δ).set v (some s)
      | false => restD δ1 vs δ)
    | _ => restD δ1 vs δ
def xComp (fi : XI) (g : PyData → Env → R Env) (t : XB) (f : XE) (vs : List Nat) : XE := fun δ => do
  let (ds, δ1) ← fi δ
  let (xs, δ2) ← compX g t f vs ds (wipeD δ1 vs)
  chk (decide (ds.length ≤ 1000000)) (.ok (.l .fr xs, restD δ1 vs (wipeD δ2 vs)))
section
variable {K : PySem.W.Frag} {C : Cfg} {B H H' : Hp} {O₀ O O' : List Addr} {pn : List (Nat × Addr)} {δ δ' : Env} {σ : St} {D : Addr} {u u' : HO}
theorem Rp.wipes {io vs : List Nat} (hpn : pn.map (·.1) = io) (r : Rp K C B O₀ pn H O δ σ) : ∀ ws : List Nat, (∀ w ∈ ws, io.contains w = false) → Rp K C B O₀ pn H O (wipeD δ ws) (wipe σ ws)
  | [], _ => r
  | w :: ws, h => (Rp.wipes (vs := vs) hpn r ws fun v hv => h v (List.mem_cons_of_mem _ hv)).gone (v := none) (io_ne hpn (h w List.mem_cons_self))
/-- a place of one's own that no slot knows, kept as it is -/
theorem Rp.guard (r : Rp K C B O₀ pn H O δ σ) (hB : Nn B D) (hD : H D = some u) (hu : LD u) (hO : D ∈ O) (hn : ∀ (j : Nat) s, δ[j]? = some (some s) → s.own = true → σ[j]? ≠ some (some (.ref D))) : Rp K C (L2.upd B D u) (D :: O₀) pn H O δ σ where
  len := r.len
  slot := r.slot
  uniq := r.uniq
  ownB := fun i a s h o e => by
    have ne : a ≠ D := fun z => hn i s h o (z ▸ e)
    obtain ⟨h1, h2⟩ := r.ownB i a s h o e
    refine ⟨fun w q => h1 w (by rw [upd_ne ne] at q; exact q), ?_⟩
    exact ( h2.elim .inl fun q => .inr (by simp [ne, q]))
  dom := r.dom
  base := ⟨fun b o e n => by
    by_cases z : b = D
    · subst z; rw [upd_same] at e; cases e; exact hD
    · rw [upd_ne z] at e; exact r.base.kp b o e n, fun _ => r.tabs⟩
  sub := fun b h => by
    rcases List.mem_cons.mp h with rfl | h
    · exact hO
    · exact r.sub b h
  new := fun b h => by
    by_cases z : b = D
    · exact .inl (by rw [z]; exact List.mem_cons_self)
    · exact (r.new b h).imp (List.mem_cons_of_mem _) fun q w e => q w (by rw [upd_ne z] at e; exact e)
  pin := r.pin
  tabs := r.tabs
theorem Rp.noD (r : Rp K C (L2.upd B D u) (D :: O₀) pn H O δ σ) (hu : NT u := by intro _ z; cases z) : H D = some u ∧ D ∈ O ∧ ∀ (j : Nat) s, δ[j]? = some (some s) → s.own = true → σ[j]? ≠ some (some (.ref D)) :=
  ⟨r.base.kp D u upd_same hu, r.sub D List.mem_cons_self, fun j s h o e => by
    exact (r.ownB j D s h o e).1 u upd_same hu⟩
/-- that place is written -/
theorem Rp.write (r : Rp K C (L2.upd B D u) (D :: O₀) pn H O δ σ) (hm : Mut (some u')) (hu : LD u) : Rp K C (L2.upd B D u') (D :: O₀) pn (L2.upd H D u') O δ σ := by
  obtain ⟨hD, hO, hn⟩ := r.noD (fun ps z => by subst z; exact hu)
  refine ⟨r.len, fun i s h => ?_, r.uniq, fun i a s h o e => ?_, fun b hb => ?_, ⟨fun b o e n => ?_, fun _ => tabs_upd r.tabs hD hu⟩, r.sub, fun b h => ?_, r.pin, tabs_upd r.tabs hD hu⟩
  · obtain ⟨q, v, ev, bv⟩ := r.slot i s h
    refine ⟨q, v, ev, ?_⟩
    cases bv with
    | d hd => exact .d (by rw [hm_upd hO]; exact hd)
    | fl => rcases q with q | q <;> cases q
    | fk => rcases q with q | q <;> cases q
    | obj g1 g2 => exact .obj (by rw [hm_upd hO]; exact g1) (by rw [hm_upd hO]; exact g2)
    | ol g1 g2 g3 => exact .ol g1 (by rw [upd_ne (fun z => hn i _ h rfl (by rw [ev, z]))]; exact g2) (by rw [hm_upd hO]; exact g3)
    | ok g1 g2 g3 => exact .ok g1 (by rw [upd_ne (fun z => hn i _ h rfl (by rw [ev, z]))]; exact g2) (by rw [hm_upd hO]; exact g3)
  · have ne : a ≠ D := fun z => hn i s h o (z ▸ e)
    obtain ⟨h1, h2⟩ := r.ownB i a s h o e
    exact ⟨fun w q => h1 w (by rw [upd_ne ne] at q ⊢; exact q), h2⟩
  · by_cases z : b = D
    · subst z; exact ⟨u', upd_same, hm⟩
    · obtain ⟨o, p, q⟩ := r.dom b hb; exact ⟨o, by rw [upd_ne z]; exact p, q⟩
  · by_cases z : b = D
    · subst z; rw [upd_same] at e ⊢; exact e
    · rw [upd_ne z] at e ⊢
      exact r.base.kp b o (by rw [upd_ne z]; exact e) n
  · by_cases z : b = D
    · exact .inl (by rw [z]; exact List.mem_cons_self)
    · exact (r.new b h).imp id fun q w e => q w (by rw [upd_ne z] at e ⊢; exact e)
/-- and let go: the state without it -/
theorem Rp.unguard (r : Rp K C (L2.upd B D u) (D :: O₀) pn H O δ σ) (hB : Nn B D) (hO₀ : D ∉ O₀) (hu : LD u) : Rp K C B O₀ pn (Hx H [D]) (O.filter fun b => decide (b ≠ D)) δ σ := by
  obtain ⟨hD, hO, hn⟩ := r.noD (fun ps z => by subst z; exact hu)
  have tabs : LamX.Tabs C.T (Hx H [D]) := fun p hp => by
    obtain ⟨ps, h1, h2, h3⟩ := r.tabs p hp
    refine ⟨ps, ?_, h2, fun pos cv hc => ?_⟩
    · rw [hx_out]
      · exact h1
      · intro z; rw [List.mem_singleton.mp z, hD] at h1; cases h1; exact hu
    · obtain ⟨c, e1, e2⟩ := h3 pos cv hc
      refine ⟨c, e1, ?_⟩
      rw [hx_out]
      · exact e2
      · intro z; rw [List.mem_singleton.mp z, hD] at e2; cases e2; exact hu
  have mem : ∀ b, b ∈ O.filter (fun b => decide (b ≠ D)) ↔ b ∈ O ∧ b ≠ D := fun b => by simp
  have out : ∀ {b : Addr}, b ≠ D → Hx H [D] b = H b := fun z => hx_out (by simp [z])
  have sm : Same (Hm H O) (Hm (Hx H [D]) (O.filter fun b => decide (b ≠ D))) := fun b o e => by
    obtain ⟨m, e'⟩ := hm_some e
    have ne : b ≠ D := fun z => m (z ▸ hO)
    exact hm_mk (fun q => m ((mem b).mp q).1) ((out ne).trans e') (hm_nt e)
  refine ⟨r.len, fun i s h => ?_, r.uniq, fun i a s h o e => ?_, fun b hb => ?_, ⟨fun b o e n => ?_, fun _ => tabs⟩, fun b hb => ?_, fun b hb => ?_, r.pin, tabs⟩
  · obtain ⟨q, v, ev, bv⟩ := r.slot i s h
    refine ⟨q, v, ev, ?_⟩
    cases bv with
    | d hd => exact .d (dp_same sm hd)
    | fl => rcases q with q | q <;> cases q
    | fk => rcases q with q | q <;> cases q
    | obj g1 g2 => exact .obj (sm _ _ g1) (fs_same sm g2)
    | ol g1 g2 g3 =>
      have ne : ∀ {a : Addr}, σ[i]? = some (some (.ref a)) → a ≠ D := fun e z => hn i _ h rfl (by rw [e, z])
      have ne := ne ev
      exact .ol ((mem _).mpr ⟨g1, ne⟩) ((out ne).trans g2) (dpa_same sm g3)
    | ok g1 g2 g3 =>
      have ne : ∀ {a : Addr}, σ[i]? = some (some (.ref a)) → a ≠ D := fun e z => hn i _ h rfl (by rw [e, z])
      have ne := ne ev
      exact .ok ((mem _).mpr ⟨g1, ne⟩) ((out ne).trans g2) (kv_same sm g3)
  · have ne : a ≠ D := fun z => hn i s h o (z ▸ e)
    obtain ⟨h1, h2⟩ := r.ownB i a s h o e
    exact ⟨fun w q => h1 w (by rw [upd_ne ne]; exact q), h2.imp id fun q z => q (List.mem_cons_of_mem _ z)⟩
  · obtain ⟨hb1, hb2⟩ := (mem b).mp hb
    obtain ⟨o, p, q⟩ := r.dom b hb1
    exact ⟨o, (out hb2).trans p, q⟩
  · have ne : b ≠ D := hB.ne e n
    rw [out ne]
    exact r.base.kp b o (by rw [upd_ne ne]; exact e) n
  · exact (mem b).mpr ⟨r.sub b (List.mem_cons_of_mem _ hb), fun z => hO₀ (z ▸ hb)⟩
  · obtain ⟨hb1, hb2⟩ := (mem b).mp hb
    rcases r.new b hb1 with q | q
    · rcases List.mem_cons.mp q with q | q
      · exact (hb2 q).elim
      · exact .inl q
    · exact .inr fun w e => q w (by rw [upd_ne hb2]; exact e)
theorem restD_length (δ1 : Env) : ∀ (vs : List Nat) (δ : Env), (restD δ1 vs δ).length = δ.length
  | [], _ => rfl
  | v :: vs, δ => by
    unfold restD
    split
    · split
      · rw [List.length_set]; exact restD_length δ1 vs δ
      · exact restD_length δ1 vs δ
    · exact restD_length δ1 vs δ
/-- a slot got back what it held -/
theorem Rp.back1 (r : Rp K C B O₀ pn H O δ σ) {i : Nat} {s : S} {v : V} (hs : s.still = true) (bv : BV K C H O v s) (ev : σ[i]? = some (some v)) (hi : ∀ p ∈ pn, p.1 ≠ i) : Rp K C B O₀ pn H O (δ.set i (some s)) σ := by
  have := r.set hs bv hi
  have e : σ.set i (some v) = σ := by
    apply List.ext_getElem?
    intro j
    by_cases z : i = j
    · subst z
      rw [List.getElem?_set_self (List.getElem?_eq_some_iff.mp ev).1, ev]
    · rw [List.getElem?_set_ne z]
  rw [e] at this
  exact this
theorem wipeD_get {δ : Env} : ∀ {vs : List Nat} {j : Nat} {s : S}, (wipeD δ vs)[j]? = some (some s) → j ∉ vs ∧ δ[j]? = some (some s)
  | [], _, _, h => ⟨by simp, h⟩
  | v :: vs, j, s, h => by
    have h : ((wipeD δ vs).set v none)[j]? = some (some s) := h
    have ne : v ≠ j := fun z => by
      subst z
      rw [List.getElem?_set_self (set_lt h)] at h
      cases h
    rw [List.getElem?_set_ne ne] at h
    obtain ⟨a, b⟩ := wipeD_get h
    exact ⟨by simp [Ne.symm ne, a], b⟩
theorem wipe_get {σ : St} : ∀ {vs : List Nat} {j : Nat}, j ∉ vs → (wipe σ vs)[j]? = σ[j]?
  | [], _, _ => rfl
  | v :: vs, j, h => by
    simp only [List.mem_cons, not_or] at h
    show ((wipe σ vs).set v none)[j]? = σ[j]?
    rw [List.getElem?_set_ne (Ne.symm h.1), wipe_get h.2]
theorem wipe_length (σ : St) : ∀ vs : List Nat, (wipe σ vs).length = σ.length
  | [] => rfl
  | v :: vs => by show ((wipe σ vs).set v none).length = _; rw [List.length_set, wipe_length σ vs]
theorem wipeD_length (δ : Env) : ∀ vs : List Nat, (wipeD δ vs).length = δ.length
  | [] => rfl
  | v :: vs => by show ((wipeD δ vs).set v none).length = _; rw [List.length_set, wipeD_length δ vs]
/-- from the wiped slots to the slots -/
theorem Rp.unwipe {io vs : List Nat} (hpn : pn.map (·.1) = io) (hv : ∀ w ∈ vs, io.contains w = false) (r : Rp K C B O₀ pn H O (wipeD δ vs) (wipe σ vs)) : Rp K C B O₀ pn H O (wipeD δ vs) σ := by
  refine ⟨by rw [r.len, wipe_length], fun i s h => ?_, fun i j a s t h1 h2 o1 o2 e1 e2 => ?_, fun i a s h o e => ?_, r.dom, r.base, r.sub, r.new, fun p hp => ?_, r.tabs⟩
  · obtain ⟨q, v, ev, bv⟩ := r.slot i s h
    rw [wipe_get (wipeD_get h).1] at ev
    exact ⟨q, v, ev, bv⟩
  · exact r.uniq i j a s t h1 h2 o1 o2 (by rw [wipe_get (wipeD_get h1).1]; exact e1) (by rw [wipe_get (wipeD_get h2).1]; exact e2)
  · exact r.ownB i a s h o (by rw [wipe_get (wipeD_get h).1]; exact e)
  · have hp1 : p.1 ∉ vs := fun z => by
      have := io_ne hpn (hv _ z) p hp
      exact this rfl
    have := r.pin p hp
    rw [wipe_get hp1] at this
    exact this
theorem Rp.rest {io : List Nat} {δ1 : Env} {H1 : Hp} {O1 : List Addr} (hpn : pn.map (·.1) = io) (r1 : Rp K C B O₀ pn H1 O1 δ1 σ) (st : Stay H1 O1 H O) (r : Rp K C B O₀ pn H O δ σ) : ∀ vs : List Nat, (∀ w ∈ vs, io.contains w = false) → Rp K C B O₀ pn H O (restD δ1 vs δ) σ
  | [], _ => r
  | v :: vs, hv => by
    have ih := Rp.rest hpn r1 st r vs fun w hw => hv w (List.mem_cons_of_mem _ hw)
    unfold restD
    split
    · rename_i s hs
      split
      · rename_i hst
        obtain ⟨_, w, ev, bv⟩ := r1.slot v s hs
        exact ih.back1 hst (bv_stay bv st (still_not_own hst)) ev (io_ne hpn (hv v List.mem_cons_self))
      · exact ih
    · exact ih
theorem lc_coreX {io vs us : List Nat} {fi : XI} {g : PyData → Env → R Env} {t : XB} {f : XE} {Q : VK} (hus : ∀ i ∈ us, i ∈ vs) (hvs : ∀ w ∈ vs, io.contains w = false) (h : tX K C io (xComp fi g t f vs) σ H Q) :
    tLc (tIX K C io fi) (tG K C io us g) (tXB K C io t) (tX K C io f) vs σ H Q := by
  obtain ⟨B, O₀, pn, δ0, O0, hpn, rp0, h0⟩ := h
  refine ⟨B, O₀, pn, δ0, O0, hpn, rp0, ?_⟩
  unfold xComp at h0
  cases ef : fi δ0 with
  | exc k p => rw [ef] at h0; exact h0.elim
  | bad => rw [ef] at h0; exact h0.elim
  | ok p =>
    obtain ⟨ds, δ⟩ := p
    simp only [ef, R.ok_bind] at h0
    cases ex : compX g t f vs ds (wipeD δ vs) with
    | exc k p => rw [ex] at h0; exact h0.elim
    | bad => rw [ex] at h0; exact h0.elim
    | ok p =>
      obtain ⟨xs, δe⟩ := p
      rw [ex] at h0
      simp only [R.ok_bind] at h0
      cases ec : decide (ds.length ≤ 1000000) with
      | false => rw [ec] at h0; exact h0.elim
      | true =>
        rw [ec, chk_true] at h0
        have hlen := of_decide_eq_true ec
        intro J H1 O1 st0 rp wk D hD
        have hB : Nn B D := rp.base.free (.of hD)
        have hO1 : D ∉ O1 := not_mem_dom rp.dom hD
        have hO₀ : D ∉ O₀ := fun z => hO1 (rp.sub D z)
        refine ⟨fun i m H' => m = ds.length - i ∧ i ≤ ds.length ∧ ∃ acc ys rs δ' O', Rp K C (L2.upd B D (.lst acc)) (D :: O₀) pn H' O' (wipeD δ' vs) (wipe σ vs) ∧ Stay H1 O1 H' O' ∧ DpAll K (Hm H' O') acc ys ∧ ys.length ≤ i ∧ compX g t f vs (ds.drop i) (wipeD δ' vs) = .ok (rs, δe) ∧ xs = ys ++ rs,
          ⟨ds.length, by simp, Nat.zero_le _, [], [], xs, δ, D :: O1, ?_, ?_, .nil, Nat.le_refl _, by simpa using ex, by simp⟩, ?_⟩
        · have r2 := Rp.wipes (vs := vs) hpn rp vs hvs
          have r3 : Rp K C B O₀ pn (L2.upd H1 D (.lst [])) (D :: O1) (wipeD δ vs) (wipe σ vs) := by
            refine ⟨r2.len, fun i s h => ?_, r2.uniq, r2.ownB, fun b hb => ?_, r2.base.trans (same_new hD), fun b hb => List.mem_cons_of_mem _ (r2.sub b hb), fun b hb => ?_, r2.pin, (same_new (C := C) hD).ts r2.tabs⟩
            · obtain ⟨q, v, ev, bv⟩ := r2.slot i s h
              exact ⟨q, v, ev, bv_more bv (same_new hD) (.of hD) q⟩
            · rcases List.mem_cons.mp hb with rfl | hb
              · exact ⟨_, upd_same, trivial⟩
              · exact r2.dom.same (same_new (C := C) hD) b hb
            · rcases List.mem_cons.mp hb with rfl | hb
              · exact .inr hB
              · exact r2.new b hb
          refine r3.guard hB upd_same trivial List.mem_cons_self fun j s h o e => ?_
          obtain ⟨_, v, ev, bv⟩ := r2.slot j s h
          rw [e] at ev
          cases ev
          obtain ⟨a, ha, _, w, hw⟩ := own_ref bv o
          cases ha
          rw [hD] at hw; cases hw
        · intro b o e
          obtain ⟨m, e'⟩ := hm_some e
          have ne := ne_of_none e' hD
          exact hm_mk (by simp [ne, m]) (by rw [upd_ne ne]; exact e') (hm_nt e)
        rintro i m H' ⟨rfl, hi, acc, ys, rs, δ', O', rp', st, da, hy, ec', exs⟩
        obtain ⟨w1, w2⟩ := wk i H' O' ⟨st, fun z => nomatch z⟩ rp'.dom
        have la := dpa_length da
        by_cases hlt : i < ds.length
        · obtain ⟨go, yl⟩ := w1 ds[i] (List.getElem?_eq_getElem hlt)
          rw [List.drop_eq_getElem_cons hlt] at ec'
          simp only [compX] at ec'
          obtain ⟨δ1, eg, ec'⟩ := bind_ok ec'
          obtain ⟨⟨c, δ2⟩, et, ec'⟩ := bind_ok ec'
          refine .inr ⟨go, fun H2 => ∃ acc ys rs δ' O', Rp K C (L2.upd B D (.lst acc)) (D :: O₀) pn H2 O' (wipeD δ' vs) (wipe σ vs) ∧ Stay H1 O1 H2 O' ∧ DpAll K (Hm H2 O') acc ys ∧ ys.length ≤ i + 1 ∧ compX g t f vs (ds.drop (i + 1)) (wipeD δ' vs) = .ok (rs, δe) ∧ xs = ys ++ rs,
            fun H2 q => ⟨_, by omega, rfl, hlt, q⟩, fun x H3 y => ?_⟩
          obtain ⟨s3, dp⟩ := yl x H3 y
          refine ⟨_, _, pn, wipeD δ' vs, O', ds[i], hpn, rp'.same s3, dp, ?_⟩
          rw [eg]
          intro σ2 rp2 hw
          have hw2 : wipe σ2 vs = wipe σ vs := (hw vs hus).trans (wipe_twice σ vs)
          refine ⟨hw2, _, _, pn, δ1, O', hpn, rp2, ?_⟩
          rw [et]
          intro H4 O4 st4 rp4
          cases c with
          | false =>
            rw [if_neg Bool.false_ne_true]
            simp only [if_neg Bool.false_ne_true] at ec'
            have rw4 := Rp.wipes (vs := vs) hpn rp4 vs hvs
            rw [hw2] at rw4
            exact ⟨acc, ys, rs, δ2, O4, rw4, (st.trans (Stay.of s3)).trans st4, dpa_same ((Stay.of (O := O') s3).trans st4) da, by omega, ec', exs⟩
          | true =>
            rw [if_pos rfl]
            simp only [if_pos rfl] at ec'
            obtain ⟨⟨s, δ3⟩, es, ec'⟩ := bind_ok ec'
            obtain ⟨z, ez, ec'⟩ := bind_ok ec'
            obtain ⟨⟨rs', δ4⟩, er, ec'⟩ := bind_ok ec'
            cases ec'
            refine ⟨_, _, pn, δ2, O4, hpn, rp4, ?_⟩
            rw [es]
            intro v H5 O5 ah bv
            have rp5 := ah.rp
            obtain ⟨hD5, hO5, _⟩ := rp5.noD
            have rw5 := Rp.wipes (vs := vs) hpn rp5 vs hvs
            rw [hw2] at rw5
            have stt := ((st.trans (Stay.of s3)).trans st4).trans ah.stay
            refine ⟨acc, hD5, small_lineS (by omega), acc ++ [v], ys ++ [z], rs', δ3, O5, rw5.write trivial trivial, ?_, ?_, by simp; omega, er, by simp [exs]⟩
            · rw [Stay, hm_upd hO5]; exact stt
            · rw [hm_upd hO5]
              exact dpa_app (dpa_same (((Stay.of (O := O') s3).trans st4).trans ah.stay) da) (.cons (bv_pd bv ez) .nil)
        · have e : i = ds.length := by omega
          refine .inl ⟨w2 e, ?_⟩
          subst e
          rw [List.drop_length] at ec'
          cases ec'
          rw [List.append_nil] at exs
          subst exs
          obtain ⟨hD', hO', _⟩ := rp'.noD
          have mem : ∀ b, b ∈ O'.filter (fun b => decide (b ≠ D)) ↔ b ∈ O' ∧ b ≠ D := fun b => by simp
          have rf := (rp'.unguard hB hO₀ trivial)
          have rf2 := Rp.unwipe hpn hvs rf
          have stf : Stay H1 O1 (Hx H' [D]) (O'.filter fun b => decide (b ≠ D)) := fun b o e => by
            obtain ⟨m, e'⟩ := hm_some e
            obtain ⟨m2, e2⟩ := stay_out st m e' (hm_nt e)
            have ne := ne_of_none e' hD
            exact hm_mk (fun q => m2 ((mem b).mp q).1) ((hx_out (by simp [ne])).trans e2) (hm_nt e)
          have rf3 := Rp.rest hpn rp stf rf2 vs hvs
          rw [show wipeD (wipeD δ' vs) vs = wipeD δ' vs from ?_] at h0
          · refine h0 _ H' (O'.filter fun b => decide (b ≠ D)) ⟨Hx H' [D], .of hx_le, ⟨D, rfl, .of (hx_in (by simp))⟩, st0.trans stf, rf3⟩ (.fl (fun z => ((mem D).mp z).2 rfl) hD' (dpa_same (hm_sub fun b z => ?_) da))
            rcases List.mem_cons.mp z with q | q
            · exact q ▸ hO'
            · exact ((mem b).mp q).1
          · apply List.ext_getElem?
            intro j
            have wout : ∀ {ε : Env} {ws : List Nat} {j : Nat}, j ∉ ws → (wipeD ε ws)[j]? = ε[j]? := by
              intro ε ws
              induction ws with
              | nil => intro j _; rfl
              | cons w ws ih =>
                intro j h
                simp only [List.mem_cons, not_or] at h
                show ((wipeD ε ws).set w none)[j]? = ε[j]?
                rw [List.getElem?_set_ne (Ne.symm h.1), ih h.2]
            have win : ∀ {ε : Env} {ws : List Nat} {j : Nat}, j ∈ ws → j < ε.length → (wipeD ε ws)[j]? = some none := by
              intro ε ws
              induction ws with
              | nil => intro j h; cases h
              | cons w ws ih =>
                intro j h hl
                show ((wipeD ε ws).set w none)[j]? = some none
                by_cases z : w = j
                · subst z; rw [List.getElem?_set_self (by rw [wipeD_length]; exact hl)]
                · rw [List.getElem?_set_ne z]
                  rcases List.mem_cons.mp h with q | q
                  · exact (z q.symm).elim
                  · exact ih q hl
            by_cases hj : j ∈ vs
            · by_cases hl : j < δ'.length
              · rw [win hj (by rw [wipeD_length]; exact hl), win hj hl]
              · rw [List.getElem?_eq_none (by rw [wipeD_length, wipeD_length]; omega), List.getElem?_eq_none (by rw [wipeD_length]; omega)]
            · rw [wout hj]
end
end DL

set_option Elab.async false
set_option linter.all false
set_option maxRecDepth 100000
set_option maxHeartbeats 1000000
/-! DL13: the rules for comprehensions that change what one owns; unpacking; stores; isinstance; bits; ranges as rows; sets. -/
namespace DL
open PySem PySem.Spec L2
section
variable {X : Cx} {C : Cfg} {W : WX} {io : List Nat} {e a : Expr} {es : List Expr} {f g : Env → R S} {xf : XE} {xa : XA} {u w : Env → SR} {pos : Pos}
def xYes : XB := fun δ => .ok (true, δ)
theorem dxts_nil : PTs X [] (tXB X.K C io xYes) := ⟨fun pins s σ H Q I ⟨B, O₀, pn, δ, O, hio, rp, h⟩ => pts_nil.run pins s σ H Q I (h H O (Stay.refl _ _) rp)⟩
theorem dxts_one {c : Expr} {t : XB} (h : DXT X C io c t) : PTs X [c] (tXB X.K C io t) := pts_one h
section
variable {tg iter elt : Expr} {ifs : List Expr} {scope : Scope} {own : List (Str × Nat)} {us : List Nat} {fi : XI} {gg : PyData → Env → R Env} {t : XB}
theorem all_of {us vs : List Nat} (h : us.all (fun i => vs.contains i) = true) : ∀ i ∈ us, i ∈ vs := fun i hi => List.contains_iff_mem.mp (List.all_eq_true.mp h i hi)
theorem none_of {vs io : List Nat} (h : vs.all (fun i => !io.contains i) = true) : ∀ i ∈ vs, io.contains i = false := fun i hi => by simpa using List.all_eq_true.mp h i hi
theorem dx_lc (hc : X.calm = true) (hN : X.N.Nodup) (hi : DIX X C io tg iter fi) (ok : BlkOk X.N X.env.scope scope own)
    (hg : ∀ (s : Shared) (H : Hp) (Ca : Addr) (cl : List (Str × Addr)) (fp : List Addr), DG (X.blk s H scope (PySem.compEnvC scope cl Ca X.env) fp) C io us tg gg)
    (ht : ∀ (s : Shared) (H : Hp) (Ca : Addr) (cl : List (Str × Addr)) (fp : List Addr), PTs (X.blk s H scope (PySem.compEnvC scope cl Ca X.env) fp) ifs (tXB X.K C io t))
    (he : ∀ (s : Shared) (H : Hp) (Ca : Addr) (cl : List (Str × Addr)) (fp : List Addr), DX (X.blk s H scope (PySem.compEnvC scope cl Ca X.env) fp) C io elt xf)
    (hus : us.all (fun i => (own.map (·.2)).contains i) = true := by rfl) (hvs : (own.map (·.2)).all (fun i => !io.contains i) = true := by rfl) (hs : ∀ x, foldedSetIterable iter X.env x = pure x := by intro _; rfl) :
    DX X C io (.ListComp elt [⟨tg, iter, ifs, 0⟩] scope pos) (xComp fi gg t xf (own.map (·.2))) :=
  PE.imp (pe_lc hc hN hi ok hg ht he hs) fun σ H Q h => lc_coreX (all_of hus) (none_of hvs) h
theorem ds_asgLcX (i : Nat) {y : Str} {py spos : Pos} (hc : X.calm = true) (hN : X.N.Nodup) (hi : DIX X C io tg iter fi) (ok : BlkOk X.N X.env.scope scope own)
    (hg : ∀ (s : Shared) (H : Hp) (Ca : Addr) (cl : List (Str × Addr)) (fp : List Addr), DG (X.blk s H scope (PySem.compEnvC scope cl Ca X.env) fp) C io us tg gg)
    (ht : ∀ (s : Shared) (H : Hp) (Ca : Addr) (cl : List (Str × Addr)) (fp : List Addr), PTs (X.blk s H scope (PySem.compEnvC scope cl Ca X.env) fp) ifs (tXB X.K C io t))
    (he : ∀ (s : Shared) (H : Hp) (Ca : Addr) (cl : List (Str × Addr)) (fp : List Addr), DX (X.blk s H scope (PySem.compEnvC scope cl Ca X.env) fp) C io elt xf)
    (hio : io.contains i = false := by rfl) (hy : X.N[i]? = some y := by rfl) (hyl : X.env.scope.names.lookup y = some .local := by rfl)
    (hsw : swapsWith (.ListComp elt [⟨tg, iter, ifs, 0⟩] scope pos) (some (.Name y py)) spos.line X.env = pure true := by exact sw_true rfl rfl rfl (by decide +kernel))
    (hus : us.all (fun i => (own.map (·.2)).contains i) = true := by rfl) (hvs : (own.map (·.2)).all (fun i => !io.contains i) = true := by rfl) (hs : ∀ x, foldedSetIterable iter X.env x = pure x := by intro _; rfl) :
    DS X C W io (.Assign [.Name y py] (.ListComp elt [⟨tg, iter, ifs, 0⟩] scope pos) spos) (sAsgX i (xComp fi gg t xf (own.map (·.2)))) :=
  PS.imp (ps_setLc hc hN hy hyl hsw hi ok hg ht he hs) fun D σ H h => lc_coreX (all_of hus) (none_of hvs) (asgX_core hio h)
theorem ds_asgOLcX (i : Nat) {y : Str} {py spos : Pos} (hc : X.calm = true) (hN : X.N.Nodup) (hi : DIX X C io tg iter fi) (ok : BlkOk X.N X.env.scope scope own)
    (hg : ∀ (s : Shared) (H : Hp) (Ca : Addr) (cl : List (Str × Addr)) (fp : List Addr), DG (X.blk s H scope (PySem.compEnvC scope cl Ca X.env) fp) C io us tg gg)
    (ht : ∀ (s : Shared) (H : Hp) (Ca : Addr) (cl : List (Str × Addr)) (fp : List Addr), PTs (X.blk s H scope (PySem.compEnvC scope cl Ca X.env) fp) ifs (tXB X.K C io t))
    (he : ∀ (s : Shared) (H : Hp) (Ca : Addr) (cl : List (Str × Addr)) (fp : List Addr), DX (X.blk s H scope (PySem.compEnvC scope cl Ca X.env) fp) C io elt xf)
    (hio : io.contains i = false := by rfl) (hy : X.N[i]? = some y := by rfl) (hyl : X.env.scope.names.lookup y = some .local := by rfl)
    (hsw : swapsWith (.ListComp elt [⟨tg, iter, ifs, 0⟩] scope pos) (some (.Name y py)) spos.line X.env = pure true := by exact sw_true rfl rfl rfl (by decide +kernel))
    (hus : us.all (fun i => (own.map (·.2)).contains i) = true := by rfl) (hvs : (own.map (·.2)).all (fun i => !io.contains i) = true := by rfl) (hs : ∀ x, foldedSetIterable iter X.env x = pure x := by intro _; rfl) :
    DS X C W io (.Assign [.Name y py] (.ListComp elt [⟨tg, iter, ifs, 0⟩] scope pos) spos) (sAsgOX i (xComp fi gg t xf (own.map (·.2)))) :=
  PS.imp (ps_setLc hc hN hy hyl hsw hi ok hg ht he hs) fun D σ H h => lc_coreX (all_of hus) (none_of hvs) (asgOX_core hio h)
end

/-! ### a, b = t -/
def gS (gg : PyData → Env → R Env) : S → Env → SR := fun s δ => match s with
  | .d d => (match gg d δ with
    | .ok δ' => .next δ'
    | _ => .bad)
  | _ => .bad
theorem gS_core {D : Ends} {σ : St} {H0 H1 : Hp} {B : Hp} {O₀ O0 O : List Addr} {pn : List (Nat × Addr)} {δ : Env} {s : S} {v : V} {vs : List Nat} {gg : PyData → Env → R Env} (hpn : pn.map (·.1) = io) (rp : Rp X.K C B O₀ pn H1 O δ σ) (st : Stay H0 O0 H1 O) (q : PostS X.K C W B O₀ pn D H0 O0 (gS gg s δ)) (bv : BV X.K C H1 O v s) :
    tG X.K C io vs gg v σ H1 D.nx := by
  unfold gS at q
  split at q
  · rename_i d
    cases bv with
    | d h =>
      refine ⟨B, O₀, pn, δ, O, d, hpn, rp, h, ?_⟩
      cases eg : gg d δ with
      | ok δ' => rw [eg] at q; exact fun σ' r _ => q σ' H1 O st r
      | exc k p => rw [eg] at q; exact q.elim
      | bad => rw [eg] at q; exact q.elim
  · exact q.elim
theorem ds_unp {tg : Expr} {vs : List Nat} {gg : PyData → Env → R Env} (he : DE X C W e f) (hg : DG X C io vs tg gg) (hs : swapsWithSole [tg] e pos.line X.env = pure false := by rfl) (hw : swappedStores [tg] e X.env = pure none := by rfl)
    (h1 : (assignEach [tg] X.env).map (·.2) = [assign tg X.env] := by rfl) : DS X C W io (.Assign [tg] e pos) (sE f (gS gg)) := by
  refine PS.imp (ps_asg he hg hs hw h1) fun D σ H ⟨B, O₀, pn, δ, O, hpn, rp, h⟩ => ?_
  exact runE rp h fun s es q v H1 s1 bv fr => gS_core hpn (rp.same s1) (Stay.of s1) q bv
theorem ds_unpX {tg : Expr} {vs : List Nat} {gg : PyData → Env → R Env} (he : DX X C io e xf) (hg : DG X C io vs tg gg) (hs : swapsWithSole [tg] e pos.line X.env = pure false := by rfl) (hw : swappedStores [tg] e X.env = pure none := by rfl)
    (h1 : (assignEach [tg] X.env).map (·.2) = [assign tg X.env] := by rfl) : DS X C W io (.Assign [tg] e pos) (sX xf (gS gg)) := by
  refine PS.imp (ps_asg he hg hs hw h1) fun D σ H ⟨B, O₀, pn, δ, O, hpn, rp, h⟩ => ?_
  exact runX hpn rp h fun s δ1 es q v H1 O1 ah bv => gS_core hpn ah.rp ah.stay q bv

/-! ### x[i] = e, x one's own list; nothing is changed within i -/
def stIx (i : Nat) (fi : Env → R S) : S → Env → SR := fun s δ => match δ[i]?, fi δ, s.pd with
  | some (some (.l .ow ds)), .ok (.d (.int k)), .ok x => (match ixN ds.length k with
    | some j => .next (δ.set i (some (.l .ow (ds.set j x))))
    | none => .bad)
  | _, _, _ => .bad
theorem dpa_set' {K : PySem.W.Frag} {H : Hp} {v : V} {x : PyData} (h : Dp K H v x) {vs : List V} {xs : List PyData} (i : Nat) (r : DpAll K H vs xs) : DpAll K H (vs.set i v) (xs.set i x) := dpa_set h i r
theorem stIx_core {D : Ends} {σ : St} {H0 H1 : Hp} {B : Hp} {O₀ O0 O : List Addr} {pn : List (Nat × Addr)} {δ : Env} {s : S} {v : V} {i : Nat} {fi : Env → R S} (rp : Rp X.K C B O₀ pn H1 O δ σ) (st : Stay H0 O0 H1 O) (q : PostS X.K C W B O₀ pn D H0 O0 (stIx i fi s δ)) (bv : BV X.K C H1 O v s) :
    gSub (tVar i) (tD X.K C W fi) rSetL v σ H1 D.nx := by
  unfold stIx at q
  split at q
  · rename_i ds k x e1 e2 e3
    obtain ⟨_, o, ev, bo⟩ := rp.slot i _ e1
    refine ⟨o, ev, δ, O, rp.rep, ?_⟩
    rw [e2]
    intro iv H2 s2 bi fr
    cases ej : ixN ds.length k with
    | none => rw [ej] at q; exact q.elim
    | some j =>
      rw [ej] at q
      simp only at q
      have r2 := rp.same s2
      have bo2 := bv_same s2 bo
      have bv2 := bv_same s2 bv
      cases bo2 with
      | ol h1 h2 h3 =>
        rename_i p xs
        have hl := dpa_length h3
        refine ⟨p, xs, k, j, rfl, bv_int bi, h2, by rw [hl]; exact ej, ?_⟩
        have bn : BV X.K C (upd H2 p (.lst (xs.set j v))) O (.ref p) (.l .ow (ds.set j x)) := .ol h1 upd_same (by rw [hm_upd h1]; exact dpa_set (bv_pd bv2 e3) j h3)
        exact q _ _ O (by rw [Stay, hm_upd h1]; exact (st.trans (Stay.of s2))) (r2.upd e1 rfl ev trivial rfl bn)
  · exact q.elim
theorem ds_setIx (i : Nat) {x : Str} {p tpos : Pos} {ie : Expr} {fi : Env → R S} (he : DX X C io e xf) (hi : DE X C W ie fi) (hN : X.N[i]? = some x := by rfl) (hv : Vis X.env.scope x := by first | exact Or.inl rfl | exact Or.inr (Or.inl rfl) | exact Or.inr (Or.inr rfl))
    (hd : (x == ("__debug__" : Str)) = false := by decide) (hcd : (x == ("__classdict__" : Str)) = false := by decide)
    (ha : ∀ v, assign (.Subscript (.Name x p) ie tpos) X.env v = (do
      let ov ← holding [v] (eval (.Name x p) X.env)
      let iv ← holding [v, ov] (eval ie X.env)
      standAt tpos
      holding [v, ov, iv] (setItem ov iv v)
      release [v, ov, iv] []) := by intro _; rfl)
    (hs : swapsWithSole [.Subscript (.Name x p) ie tpos] e pos.line X.env = pure false := by rfl) (hw : swappedStores [.Subscript (.Name x p) ie tpos] e X.env = pure none := by rfl)
    (h1 : (assignEach [.Subscript (.Name x p) ie tpos] X.env).map (·.2) = [assign (.Subscript (.Name x p) ie tpos) X.env] := by rfl) : DS X C W io (.Assign [.Subscript (.Name x p) ie tpos] e pos) (sX xf (stIx i fi)) := by
  refine PS.imp (ps_asg he (pg_sub (pe_var hN hv hd hcd) hi set_list ha) hs hw h1) fun D σ H ⟨B, O₀, pn, δ, O, hpn, rp, h⟩ => ?_
  exact runX hpn rp h fun s δ1 es q v H1 O1 ah bv => stIx_core ah.rp ah.stay q bv

/-! ### isinstance -/
def tyN : PyData → String
  | .none => "NoneType"
  | .bool _ => "bool"
  | .int _ => "int"
  | .str _ => "str"
  | .list _ => "list"
  | .tuple _ => "tuple"
  | .dict _ => "dict"
def isTN (T n : String) : Bool := T == n || (n == "bool" && T == "int")
def isT (T : String) (d : PyData) : Bool := isTN T (tyN d)
def isiS (T : String) (f : Env → R S) : Env → R S := fun δ => do let s ← f δ; let d ← s.rd; .ok (.d (.bool (isT T d)))
theorem kit_all : ((["NoneType", "bool", "int", "str", "list", "tuple"] : List String).all fun n => (["int", "bool", "tuple", "str", "list"] : List String).all fun T => decide (kitB n T = some (isTN T n))) = true := by decide +kernel
theorem isT_kit {T : String} (hT : T ∈ (["int", "bool", "tuple", "str", "list"] : List String)) {K : PySem.W.Frag} {H : Hp} {v : V} {d : PyData} (h : Dp K H v d) : PySem.W.kitOne K (.type (tyN d)) (.type T) = some (isT T d) := by
  have hn : tyN d ∈ (["NoneType", "bool", "int", "str", "list", "tuple"] : List String) := by cases h <;> simp [tyN]
  exact kit_ty (of_decide_eq_true (List.all_eq_true.mp (List.all_eq_true.mp kit_all _ hn) _ hT))
theorem tyX_of {K : PySem.W.Frag} {H : Hp} {v : V} {d : PyData} (h : Dp K H v d) : TyX K H v (.type (tyN d)) := by
  cases h with
  | non => exact .base .non
  | bl b => exact .base (.bl b)
  | int i => exact .base (.int i)
  | str z => exact .base (.str z)
  | lst h r =>
    rcases h with (h | ⟨o, h⟩) | ⟨o, its, n, h, hc, _⟩
    · exact .base (.lst h)
    · exact .base (.frz h)
    · exact .kList h hc
  | tup h r =>
    rcases h with (h | ⟨o, h⟩) | ⟨o, its, n, h, hc, _⟩
    · exact .base (.tup h)
    · exact .fTuple h
    · exact .kTuple h hc
theorem de_isi {T : String} {x : Str} {p p2 : Pos} (hT : T ∈ (["int", "bool", "tuple", "str", "list"] : List String)) (hg : Gl X "isinstance") (hm : X.mg "isinstance" = none) (hg2 : Gl X x) (hm2 : X.mg x = none) (hv2 : bootBuiltins x = some (.type T)) (ha : DE X C W a f)
    (hn2 : x ≠ "__name__" := by decide) (hd2 : (x == ("__debug__" : Str)) = false := by decide)
    (hs1 : starEach [a, .Name x p2] X.env = (false, eval a X.env) :: starEach [.Name x p2] X.env := by rfl) (hs2 : starEach [.Name x p2] X.env = (false, eval (.Name x p2) X.env) :: starEach [] X.env := by rfl) (hpl : (backTo pos (starEach [.Name x p2] X.env)).any (·.1) = false := by rfl) :
    DE X C W (.Call (.Name "isinstance" p) [a, .Name x p2] [] pos) (isiS T f) := by
  refine PE.imp (pe_callB call_isi hg hm (by boot_by_name) (pa_cons ha (pa_cons (pe_bltn (v := .ty T) hg2 hm2 hv2 rfl hn2 hd2) pa_nil hs2) hs1) (by decide) (by decide) hs1 hpl) fun σ H Q ⟨δ, O, rep, w⟩ => ?_
  refine seq1 (PQ := Post X.K C W σ H O Q) rep w (fun k p q => q) (fun q => q) fun s e q v H1 s1 bv fr => ?_
  cases er : s.rd with
  | exc k p => exact (rd_ne s k p er).elim
  | bad => rw [er] at q; exact q.elim
  | ok d =>
    rw [er] at q
    have dp := bv_rd bv er
    exact ⟨v, .ty T, _, _, _, rfl, .ty T, tyX_of dp, isT_kit hT dp, q _ H1 s1 (.d (.bl _)) trivial⟩

/-! ### x.bit_length() -/
def bitsS (s : S) : R S := do let i ← s.i; .ok (.d (.int (Builtin.Int.intBits i : Nat)))
theorem de_bits {apos : Pos} (ha : DE X C W a f) (hbase : attributeBase a "bit_length" X.env (eval a X.env) = eval a X.env := by rfl) (hline : (apos.endLine == pos.line) = true := by rfl) : DE X C W (.Call (.Attribute a "bit_length" apos) [] [] pos) (kU bitsS f) := by
  refine PE.imp (pe_bits ha hbase hline) fun σ H Q ⟨δ, O, rep, w⟩ => ?_
  refine seq1 (PQ := Post X.K C W σ H O Q) rep w (fun k p q => q) (fun q => q) fun s e q v H1 s1 bv fr => ?_
  unfold bitsS at q
  cases er : s.i with
  | exc k p => exact (i_ne s k p er).elim
  | bad => rw [er] at q; exact q.elim
  | ok i =>
    rw [er] at q
    rw [S.i_eq er] at bv
    exact ⟨i, bv_int bv, q _ H1 s1 (.d (.int _)) trivial⟩

/-! ### a module's constant -/
theorem de_gInt {x : Str} {i : Int} {t : Tok} (hg : Gl X x) (hm : X.mg x = some (.int i t)) (hd : (x == ("__debug__" : Str)) = false := by decide) : DE X C W (.Name x pos) (kC (.int i)) :=
  PE.imp (pe_glob (v := .int i) hg hm ⟨t, rfl⟩ hd) fun σ H Q ⟨δ, O, r, h⟩ => h _ H (Sm.refl H) (.d (.int i)) trivial
theorem de_gDat {x : Str} {d : PyData} {b : Addr} (hg : Gl X x) (hm : X.mg x = some (.ref b)) (hd : ∀ H, Dp X.K H (.ref b) d) (hdb : (x == ("__debug__" : Str)) = false := by decide) : DE X C W (.Name x pos) (kC d) :=
  PE.imp (pe_glob (v := .ref b) hg hm rfl hdb) fun σ H Q ⟨δ, O, r, h⟩ => h _ H (Sm.refl H) (.d (hd _)) trivial

/-! ### list(range(..)), tuple(range(..)) -/
def rgI (i j : Int) : List PyData := (List.range (j - i).toNat).map fun n => .int (i + (n : Nat))
theorem dpa_rg {K : PySem.W.Frag} {H : Hp} (i j : Int) : DpAll K H (rgV i j) (rgI i j) := by
  unfold rgV rgI
  generalize List.range (j - i).toNat = l
  induction l with
  | nil => exact .nil
  | cons n l ih => exact .cons (.int _) ih
def rgB (i j : Int) : Bool := decide (0 ≤ i) && decide (i ≤ 16777216) && decide (0 ≤ j) && decide (j ≤ 1000000)
theorem rgB_ok {i j : Int} (h : rgB i j = true) : RgOk i j := by
  simp only [rgB, Bool.and_eq_true, decide_eq_true_eq] at h
  exact RgOk.of_le h.1.1.1 (by omega) h.1.1.2 h.1.2
def kLstRg1 (f : Env → R S) : Env → R S := fun δ => do let s ← f δ; let j ← s.i; chk (rgB 0 j) (.ok (.l .fr (rgI 0 j)))
theorem de_listRg1 {p p2 pos2 : Pos} (hc : X.calm = true) (hg : Gl X "list") (hm : X.mg "list" = none) (hg2 : Gl X "range") (hm2 : X.mg "range" = none) (ha : DE X C W a f)
    (na : starEach [a] X.env = (false, eval a X.env) :: starEach [] X.env := by rfl) (na2 : starEach [.Call (.Name "range" p2) [a] [] pos2] X.env = (false, eval (.Call (.Name "range" p2) [a] [] pos2) X.env) :: starEach [] X.env := by rfl) :
    DE X C W (.Call (.Name "list" p) [.Call (.Name "range" p2) [a] [] pos2] [] pos) (kLstRg1 f) := by
  refine PE.imp (pe_listRg hc hg hm (prg_1 hg2 hm2 ha na) na2) fun σ H Q ⟨δ, O, rep, w⟩ => ?_
  refine seq1 (PQ := Post X.K C W σ H O Q) rep w (fun k p q => q) (fun q => q) fun s e q v H1 s1 bv fr => ?_
  cases ei : s.i with
  | exc k p => exact (i_ne s k p ei).elim
  | bad => rw [ei] at q; exact q.elim
  | ok j =>
    rw [ei] at q
    cases ec : rgB 0 j with
    | false => simp only [R.ok_bind, ec, chk_false] at q; exact q.elim
    | true =>
      simp only [R.ok_bind, ec, chk_true] at q
      rw [S.i_eq ei] at bv
      exact ⟨j, bv_int bv, rgB_ok ec, fun p hp => q _ _ (s1.trans (same_new hp)) (bv_newL (rep.same s1).dom hp (dpa_rg 0 j)) ⟨p, rfl, s1.free (.of hp)⟩⟩
def kTupRg1 (f : Env → R S) : Env → R S := fun δ => do let s ← f δ; let j ← s.i; chk (rgB 0 j) (.ok (.d (.tuple (rgI 0 j))))
theorem de_tupRg1 {p p2 pos2 : Pos} (hc : X.calm = true) (hg : Gl X "tuple") (hm : X.mg "tuple" = none) (hg2 : Gl X "range") (hm2 : X.mg "range" = none) (ha : DE X C W a f)
    (na : starEach [a] X.env = (false, eval a X.env) :: starEach [] X.env := by rfl) (na2 : starEach [.Call (.Name "range" p2) [a] [] pos2] X.env = (false, eval (.Call (.Name "range" p2) [a] [] pos2) X.env) :: starEach [] X.env := by rfl) :
    DE X C W (.Call (.Name "tuple" p) [.Call (.Name "range" p2) [a] [] pos2] [] pos) (kTupRg1 f) := by
  refine PE.imp (pe_tupRg hc hg hm (prg_1 hg2 hm2 ha na) na2) fun σ H Q ⟨δ, O, rep, w⟩ => ?_
  refine seq1 (PQ := Post X.K C W σ H O Q) rep w (fun k p q => q) (fun q => q) fun s e q v H1 s1 bv fr => ?_
  cases ei : s.i with
  | exc k p => exact (i_ne s k p ei).elim
  | bad => rw [ei] at q; exact q.elim
  | ok j =>
    rw [ei] at q
    cases ec : rgB 0 j with
    | false => simp only [R.ok_bind, ec, chk_false] at q; exact q.elim
    | true =>
      simp only [R.ok_bind, ec, chk_true] at q
      rw [S.i_eq ei] at bv
      exact ⟨j, bv_int bv, rgB_ok ec, fun p hp => q _ _ (s1.trans (same_new hp)) (bv_newT (rep.same s1).dom hp (dpa_rg 0 j)) trivial⟩

/-! ### xs[::-1], a list -/
def revS (s : S) : R S := do let ds ← s.lst; .ok (.l .fr ds.reverse)
theorem de_revL {k : Nat} {p1 p2 p3 : Pos} (ha : DE X C W a f) : DE X C W (.Subscript a (.Slice none none (some (.UnaryOp .USub (.Constant (.int 1) k p1) p2)) p3) pos) (kU revS f) := by
  refine PE.imp (pe_revL ha) fun σ H Q ⟨δ, O, rep, w⟩ => ?_
  refine seq1 (PQ := Post X.K C W σ H O Q) rep w (fun k p q => q) (fun q => q) fun s e q v H1 s1 bv fr => ?_
  unfold revS at q
  cases er : s.lst with
  | exc k p => exact (lst_ne s k p er).elim
  | bad => rw [er] at q; exact q.elim
  | ok ds =>
    rw [er] at q
    obtain ⟨a, xs, rfl, h, r⟩ := bv_lst bv er
    exact ⟨a, xs, rfl, h, fun p hp => q _ _ (s1.trans (same_new hp)) (bv_newL (rep.same s1).dom hp (dpa_rev r)) ⟨p, rfl, s1.free (.of hp)⟩⟩
end
end DL

set_option Elab.async false
set_option linter.all false
set_option maxRecDepth 100000
set_option maxHeartbeats 1000000
/-! DL14: defs by name, calls of them; an own list is let go; room. -/
namespace DL
open PySem PySem.Spec L2

theorem hr64 {k : Nat} {A : Around} (h : Room k A) : A.units + 64 < cLine := by have := h.un; omega
theorem hr65 {k : Nat} {A : Around} (h : Room k A) : A.units + 65 < cLine := by have := h.un; omega
/-- the def x of the text st stands in the module -/
def Fact (K : PySem.W.Frag) (mg : Str → Option Value) (x : Str) (st : Stmt) : Prop := ∃ fa fd, mg x = some (.ref fa) ∧ L2.Fun K x x st fa fd
/-- and it keeps its promise -/
def Cal (P : Program) (w : World) (K : PySem.W.Frag) (mg : Str → Option Value) (base : Heap) (k : Nat) (x : Str) (st : Stmt) (ps : List Str) (sp : Sp) : Prop :=
  ∃ fa fd, mg x = some (.ref fa) ∧ L2.Fun K x x st fa fd ∧ FnOk P w K mg base (L2.CX P w) k fa fd ps sp
abbrev BindP (x : Str) (st : Stmt) (ps : List Str) : Prop :=
  ∀ (kV doc pm : Value) (an : Option Addr) (cdv ct : Value) (us : List Value), us.length = ps.length → bindArgs (PySem.W.fnOf x x (defArgs st) (defBody st) (defScope st) .none kV doc pm an cdv ct) ⟨us, []⟩ = pure (ps.zip us)
abbrev BindK (x : Str) (st : Stmt) (ps ks : List Str) (is : List Nat) : Prop :=
  ∀ (kV doc pm : Value) (an : Option Addr) (cdv ct : Value) (us : List Value), us.length = ks.length → bindArgs (PySem.W.fnOf x x (defArgs st) (defBody st) (defScope st) .none kV doc pm an cdv ct) ⟨[], ks.zip us⟩ = pure (ps.zip (perm is us))
theorem cal_of {P : Program} {w : World} {K : PySem.W.Frag} {mg : Str → Option Value} {base : Heap} {C : Cfg} {x : Str} {st : Stmt} {N ps : List Str} {k : Nat} {body : Env → SR} (F : Fact K mg x st) (Sc : FnScope N ps (defScope st))
    (hbody : ∀ (fa : Addr) (cdv : Value) (A : Around) (outer : List PySem.Env) (s : Shared) (H : Hp) (E : XK), Room k (A.deeper (PyProof.Rows.envOfC x (defScope st) s.heap.objs.size fa cdv)) →
      DSs (cxOf (L2.CX P w) P w K mg base N x (defScope st) fa cdv A outer s H E) C (WF E) [] (defBody st) body) :
    Cal P w K mg base (k + 1) x st ps (spD K C ps.length fun as => fin (body (entry N.length as))) :=
  let ⟨fa, fd, hm, hF⟩ := F
  ⟨fa, fd, hm, hF, def_ok hF Sc (hbody fa)⟩
theorem cal_ofX {P : Program} {w : World} {K : PySem.W.Frag} {mg : Str → Option Value} {base : Heap} {C : Cfg} {x : Str} {st : Stmt} {N ps : List Str} {k : Nat} {body : Env → SR} (ios : List Nat) (F : Fact K mg x st) (Sc : FnScope N ps (defScope st))
    (hios : ios.all (fun i => decide (i < ps.length)) = true)
    (hbody : ∀ (fa : Addr) (cdv : Value) (A : Around) (outer : List PySem.Env) (s : Shared) (H : Hp) (E : XK), Room k (A.deeper (PyProof.Rows.envOfC x (defScope st) s.heap.objs.size fa cdv)) →
      DSs (cxOf (L2.CX P w) P w K mg base N x (defScope st) fa cdv A outer s H E) C W0 ios (defBody st) body) :
    Cal P w K mg base (k + 1) x st ps (spX K C ps.length ios fun as => finX ios (body (entry N.length as))) :=
  let ⟨fa, fd, hm, hF⟩ := F
  ⟨fa, fd, hm, hF, def_okX ios hF Sc hios (hbody fa)⟩
/-- the def x with its code object -/
def FactC (K : PySem.W.Frag) (mg : Str → Option Value) (x : Str) (st : Stmt) (cdv : Value) : Prop := ∃ (fa : Addr) (oc : Value) (od : Option Addr) (kV doc pm : Value) (an : Option Addr) (ct : Value) (osl : Array (Option Value)), mg x = some (.ref fa) ∧
  K.lookup fa = some ⟨oc, od, .func (PySem.W.fnOf x x (defArgs st) (defBody st) (defScope st) .none kV doc pm an cdv ct), osl⟩ ∧ PySem.W.codeIn K cdv x = true ∧ PySem.W.keepIn K (.ref fa) = true
theorem FactC.fact {K : PySem.W.Frag} {mg : Str → Option Value} {x : Str} {st : Stmt} {cdv : Value} (h : FactC K mg x st cdv) : Fact K mg x st :=
  let ⟨fa, oc, od, kV, doc, pm, an, ct, osl, hm, l, c, k⟩ := h
  ⟨fa, _, hm, fun_mk l c k⟩
theorem cal_ofC {P : Program} {w : World} {K : PySem.W.Frag} {mg : Str → Option Value} {base : Heap} {C : Cfg} {x : Str} {st : Stmt} {cdv : Value} {N ps : List Str} {k : Nat} {body : Env → SR} (F : FactC K mg x st cdv) (Sc : FnScope N ps (defScope st))
    (hbody : ∀ (fa : Addr) (A : Around) (outer : List PySem.Env) (s : Shared) (H : Hp) (E : XK), Room k (A.deeper (PyProof.Rows.envOfC x (defScope st) s.heap.objs.size fa cdv)) →
      DSs (cxOf (L2.CX P w) P w K mg base N x (defScope st) fa cdv A outer s H E) C (WF E) [] (defBody st) body) :
    Cal P w K mg base (k + 1) x st ps (spD K C ps.length fun as => fin (body (entry N.length as))) := by
  obtain ⟨fa, oc, od, kV, doc, pm, an, ct, osl, hm, l, c, kp⟩ := F
  have hn : ps.length ≤ N.length := by rw [← Sc.pre]; simp; omega
  refine ⟨fa, _, hm, fun_mk l c kp, fn_of l c Sc (fun vs H Q E h => ?_) fun A outer s H vs Q E hr h => ⟨_, hbody fa A outer s H E hr, def_core h hn⟩⟩
  obtain ⟨ss, O, _, _, hl, _⟩ := h
  exact hl
theorem cal_ofCX {P : Program} {w : World} {K : PySem.W.Frag} {mg : Str → Option Value} {base : Heap} {C : Cfg} {x : Str} {st : Stmt} {cdv : Value} {N ps : List Str} {k : Nat} {body : Env → SR} (ios : List Nat) (F : FactC K mg x st cdv) (Sc : FnScope N ps (defScope st))
    (hios : ios.all (fun i => decide (i < ps.length)) = true)
    (hbody : ∀ (fa : Addr) (A : Around) (outer : List PySem.Env) (s : Shared) (H : Hp) (E : XK), Room k (A.deeper (PyProof.Rows.envOfC x (defScope st) s.heap.objs.size fa cdv)) →
      DSs (cxOf (L2.CX P w) P w K mg base N x (defScope st) fa cdv A outer s H E) C W0 ios (defBody st) body) :
    Cal P w K mg base (k + 1) x st ps (spX K C ps.length ios fun as => finX ios (body (entry N.length as))) := by
  obtain ⟨fa, oc, od, kV, doc, pm, an, ct, osl, hm, l, c, kp⟩ := F
  have hn : ps.length ≤ N.length := by rw [← Sc.pre]; simp; omega
  refine ⟨fa, _, hm, fun_mk l c kp, fn_of l c Sc (fun vs H Q E h => ?_) fun A outer s H vs Q E hr h => ⟨_, hbody fa A outer s H E hr, def_coreX (E := E) h hios hn⟩⟩
  obtain ⟨ss, O, _, _, hl, _⟩ := h
  exact hl
section
variable {X : Cx} {C : Cfg} {W : WX} {io : List Nat} {e : Expr} {es : List Expr} {fs : Env → R (List S)} {xa : XA} {pos p : Pos} {k j n : Nat} {x : Str} {st : Stmt} {ps : List Str} {m : List S → R S} {ios : List Nat} {mx : List S → R (S × List S)}
theorem de_callC (c : Cal X.prog X.w X.K X.mg X.base k x st ps (spD X.K C n m)) (hb : BindP x st ps) (hr : Room j X.A) (hj : k ≤ j) (hg : Gl X x) (tk : Takes X W) (ha : DA X C W (e :: es) fs) (hdb : (x == ("__debug__" : Str)) = false := by decide)
    (he : starEach (e :: es) X.env = (false, eval e X.env) :: starEach es X.env := by rfl) (hpl : (backTo pos (starEach es X.env)).any (·.1) = false := by rfl) : DE X C W (.Call (.Name x p) (e :: es) [] pos) (kCall n m fs) :=
  let ⟨_, _, hm, hF, F⟩ := c
  de_call F (hr.mono hj) hg hm hF.kp (hF.binds hb) tk ha hdb he hpl
theorem de_callCK {kws : List Keyword} {ks : List Str} {is : List Nat} (c : Cal X.prog X.w X.K X.mg X.base k x st ps (spD X.K C n m)) (hb : BindK x st ps ks is) (hr : Room j X.A) (hj : k ≤ j) (hg : Gl X x) (tk : Takes X W) (ha : DK X C W kws fs) (hdb : (x == ("__debug__" : Str)) = false := by decide)
    (hall : (backToKw pos (keywordEach kws X.env)).all (·.1.isSome) = true := by rfl) (hks : (backToKw pos (keywordEach kws X.env)).filterMap (·.1) = ks := by rfl)
    (hpl : ((backTo pos (starEach [] X.env)).any (·.1) || (backToKw pos (keywordEach kws X.env)).any (·.1.isNone)) = false := by rfl) : DE X C W (.Call (.Name x p) [] kws pos) (kCallK n ks.length m is fs) :=
  let ⟨_, _, hm, hF, F⟩ := c
  de_callK F (hr.mono hj) hg hm hF.kp (fun s ws hl => by
    obtain ⟨oc, od, kV, doc, pm, an, cdv, ct, osl, rfl, lk, hcd⟩ := hF.ex
    exact .of_eq (hb kV doc pm an cdv ct ws hl)) tk ha hdb hall hks hpl
theorem dx_callC (c : Cal X.prog X.w X.K X.mg X.base k x st ps (spD X.K C n m)) (hb : BindP x st ps) (hr : Room j X.A) (hj : k ≤ j) (hg : Gl X x) (ha : DXA X C io (e :: es) xa) (hdb : (x == ("__debug__" : Str)) = false := by decide)
    (he : starEach (e :: es) X.env = (false, eval e X.env) :: starEach es X.env := by rfl) (hpl : (backTo pos (starEach es X.env)).any (·.1) = false := by rfl) : DX X C io (.Call (.Name x p) (e :: es) [] pos) (xCall n m xa) :=
  let ⟨_, _, hm, hF, F⟩ := c
  dx_call F (hr.mono hj) hg hm hF.kp (hF.binds hb) ha hdb he hpl
theorem dx_callCX (c : Cal X.prog X.w X.K X.mg X.base k x st ps (spX X.K C n ios mx)) (hb : BindP x st ps) (hr : Room j X.A) (hj : k ≤ j) (hg : Gl X x) (ha : DXA X C io (e :: es) xa) (hdb : (x == ("__debug__" : Str)) = false := by decide)
    (he : starEach (e :: es) X.env = (false, eval e X.env) :: starEach es X.env := by rfl) (hpl : (backTo pos (starEach es X.env)).any (·.1) = false := by rfl) : DX X C io (.Call (.Name x p) (e :: es) [] pos) (xCallX n ios mx xa) :=
  let ⟨_, _, hm, hF, F⟩ := c
  dx_callX F (hr.mono hj) hg hm hF.kp (hF.binds hb) ha hdb he hpl

/-! ### an own list is let go: it stands still from now on -/
def frz (i : Nat) (δ : Env) : Env := match δ[i]? with
  | some (some (.l .ow ds)) => δ.set i (some (.d (.list ds)))
  | _ => δ
theorem Rp.frz {K : PySem.W.Frag} {B H : Hp} {O₀ O : List Addr} {pn : List (Nat × Addr)} {δ : Env} {σ : St} {i : Nat} (r : Rp K C B O₀ pn H O δ σ) (hi : ∀ p ∈ pn, p.1 ≠ i) : ∃ O', Stay H O H O' ∧ Rp K C B O₀ pn H O' (frz i δ) σ := by
  unfold DL.frz
  split
  · rename_i ds ed
    obtain ⟨_, v, ev, bv⟩ := r.slot i _ ed
    cases bv with
    | ol h1 h2 h3 =>
      rename_i a xs
      have hB := r.ownB i a _ ed rfl ev
      have naO : a ∉ O₀ := by
        rcases hB.2 with q | q
        · exact (hi _ q rfl).elim
        · exact q
      have r1 := r.forget i
      have r2 := r1.drop (a := a) (fun j t e1 o1 e2 => by
        by_cases hj : i = j
        · subst hj
          rw [List.getElem?_set_self (set_lt e1)] at e1
          cases e1
        · rw [List.getElem?_set_ne hj] at e1
          exact hj (r.uniq i j a _ t ed e1 rfl o1 ev e2)) naO
      have sub : Same (Hm H O) (Hm H (O.filter fun b => decide (b ≠ a))) := hm_sub fun b z => by simp at z; exact z.1
      have bv' : BV K C H (O.filter fun b => decide (b ≠ a)) (.ref a) (.d (.list ds)) := .d (.lst (.inl (.inl (hm_mk (by simp) h2))) (dpa_same sub h3))
      have r3 := r2.back1 (s := .d (.list ds)) rfl bv' ev hi
      rw [List.set_set] at r3
      exact ⟨_, sub, r3⟩
  · exact ⟨O, Stay.refl _ _, r⟩
theorem ds_frz (i : Nat) {s : Stmt} {u : Env → SR} (h : DS X C W io s u) (hio : io.contains i = false := by rfl) : DS X C W io s (fun δ => u (frz i δ)) :=
  PS.imp h fun D σ H ⟨B, O₀, pn, δ, O, hpn, rp, h⟩ => by
    obtain ⟨O', st, r⟩ := rp.frz (io_ne hpn hio)
    exact ⟨B, O₀, pn, frz i δ, O', hpn, r, postS_mono st h⟩
end
end DL

set_option Elab.async false
set_option linter.all false
set_option maxRecDepth 100000
set_option maxHeartbeats 1000000
/-! DL15: what the printed text wants beside. -/
namespace DL
open PySem PySem.Spec L2
section
variable {X : Cx} {C : Cfg} {W : WX} {io : List Nat} {a b e : Expr} {es : List Expr} {f : Env → R S} {xf xg : XE} {pos : Pos}
abbrev tupA : List S → R S := fun ss => do let xs ← pds ss; chk (decide (xs.length ≤ 1000000)) (.ok (.d (.tuple xs)))
abbrev lstA : List S → R S := fun ss => do let xs ← pds ss; chk (decide (xs.length ≤ 1000000)) (.ok (.l .fr xs))
theorem dx_ix (ha : DX X C io a xf) (hb : DX X C io b xg) (hs : PlainIx b := by intro _ _; rfl) : DX X C io (.Subscript a b pos) (xB ixS xf xg) := by
  have hr : IxR X (rD2 X.K C ixS) := fun value slice pins s σ H x y v u Q I rx ry h hs => ix_seq value slice pins s σ H x y v u Q I rx ry (ixs_core h) hs
  exact PE.imp (pe_ix hr ha hb hs) fun σ H Q w => xop_core w
theorem de_gIntE {x : Str} {i : Int} (hg : Gl X x) (hm : ∃ t, X.mg x = some (.int i t)) (hd : (x == ("__debug__" : Str)) = false := by decide) : DE X C W (.Name x pos) (kC (.int i)) :=
  let ⟨_, h⟩ := hm
  de_gInt hg h hd
section
variable {tg iter elt : Expr} {ifs : List Expr} {scope : Scope} {us vs : List Nat} {fi : Env → R (List PyData)} {xi : XI} {gg : PyData → Env → R Env} {t : Env → R Bool} {xt : XB}
theorem de_lcW (own : List (Str × Nat)) (hc : X.calm = true) (hN : X.N.Nodup) (hi : DI X C W false tg iter fi) (ok : BlkOk X.N X.env.scope scope own)
    (hg : ∀ (s : Shared) (H : Hp) (Ca : Addr) (cl : List (Str × Addr)) (fp : List Addr), DG (X.blk s H scope (PySem.compEnvC scope cl Ca X.env) fp) C [] us tg gg)
    (ht : ∀ (s : Shared) (H : Hp) (Ca : Addr) (cl : List (Str × Addr)) (fp : List Addr), PTs (X.blk s H scope (PySem.compEnvC scope cl Ca X.env) fp) ifs (tDT X.K C W0 t))
    (he : ∀ (s : Shared) (H : Hp) (Ca : Addr) (cl : List (Str × Addr)) (fp : List Addr), DE (X.blk s H scope (PySem.compEnvC scope cl Ca X.env) fp) C W0 elt f)
    (hov : own.map (·.2) = vs := by rfl) (hus : us.all (fun i => (own.map (·.2)).contains i) = true := by rfl) (hs : ∀ x, foldedSetIterable iter X.env x = pure x := by intro _; rfl) :
    DE X C W (.ListComp elt [⟨tg, iter, ifs, 0⟩] scope pos) (kComp fi gg t f vs) := by
  subst hov
  exact de_lc hc hN hi ok hg ht he hus hs
theorem ds_asgLcW (i : Nat) {y : Str} {py spos : Pos} (own : List (Str × Nat)) (hc : X.calm = true) (hN : X.N.Nodup) (hi : DI X C W false tg iter fi) (ok : BlkOk X.N X.env.scope scope own)
    (hg : ∀ (s : Shared) (H : Hp) (Ca : Addr) (cl : List (Str × Addr)) (fp : List Addr), DG (X.blk s H scope (PySem.compEnvC scope cl Ca X.env) fp) C [] us tg gg)
    (ht : ∀ (s : Shared) (H : Hp) (Ca : Addr) (cl : List (Str × Addr)) (fp : List Addr), PTs (X.blk s H scope (PySem.compEnvC scope cl Ca X.env) fp) ifs (tDT X.K C W0 t))
    (he : ∀ (s : Shared) (H : Hp) (Ca : Addr) (cl : List (Str × Addr)) (fp : List Addr), DE (X.blk s H scope (PySem.compEnvC scope cl Ca X.env) fp) C W0 elt f)
    (hov : own.map (·.2) = vs := by rfl) (hio : io.contains i = false := by rfl) (hy : X.N[i]? = some y := by rfl) (hyl : X.env.scope.names.lookup y = some .local := by rfl)
    (hsw : swapsWith (.ListComp elt [⟨tg, iter, ifs, 0⟩] scope pos) (some (.Name y py)) spos.line X.env = pure true := by exact sw_true rfl rfl rfl (by kernel_rfl)) (hus : us.all (fun i => (own.map (·.2)).contains i) = true := by rfl) (hs : ∀ x, foldedSetIterable iter X.env x = pure x := by intro _; rfl) :
    DS X C W io (.Assign [.Name y py] (.ListComp elt [⟨tg, iter, ifs, 0⟩] scope pos) spos) (sAsg i (kComp fi gg t f vs)) := by
  subst hov
  exact ds_asgLc i hc hN hi ok hg ht he hio hy hyl hsw hus hs
theorem ds_asgOLcW (i : Nat) {y : Str} {py spos : Pos} (own : List (Str × Nat)) (hc : X.calm = true) (hN : X.N.Nodup) (hi : DI X C W false tg iter fi) (ok : BlkOk X.N X.env.scope scope own)
    (hg : ∀ (s : Shared) (H : Hp) (Ca : Addr) (cl : List (Str × Addr)) (fp : List Addr), DG (X.blk s H scope (PySem.compEnvC scope cl Ca X.env) fp) C [] us tg gg)
    (ht : ∀ (s : Shared) (H : Hp) (Ca : Addr) (cl : List (Str × Addr)) (fp : List Addr), PTs (X.blk s H scope (PySem.compEnvC scope cl Ca X.env) fp) ifs (tDT X.K C W0 t))
    (he : ∀ (s : Shared) (H : Hp) (Ca : Addr) (cl : List (Str × Addr)) (fp : List Addr), DE (X.blk s H scope (PySem.compEnvC scope cl Ca X.env) fp) C W0 elt f)
    (hov : own.map (·.2) = vs := by rfl) (hio : io.contains i = false := by rfl) (hy : X.N[i]? = some y := by rfl) (hyl : X.env.scope.names.lookup y = some .local := by rfl)
    (hsw : swapsWith (.ListComp elt [⟨tg, iter, ifs, 0⟩] scope pos) (some (.Name y py)) spos.line X.env = pure true := by exact sw_true rfl rfl rfl (by kernel_rfl)) (hus : us.all (fun i => (own.map (·.2)).contains i) = true := by rfl) (hs : ∀ x, foldedSetIterable iter X.env x = pure x := by intro _; rfl) :
    DS X C W io (.Assign [.Name y py] (.ListComp elt [⟨tg, iter, ifs, 0⟩] scope pos) spos) (sAsgO i (kComp fi gg t f vs)) := by
  subst hov
  exact ds_asgOLc i hc hN hi ok hg ht he hio hy hyl hsw hus hs
theorem dx_lcW (own : List (Str × Nat)) (hc : X.calm = true) (hN : X.N.Nodup) (hi : DIX X C io tg iter xi) (ok : BlkOk X.N X.env.scope scope own)
    (hg : ∀ (s : Shared) (H : Hp) (Ca : Addr) (cl : List (Str × Addr)) (fp : List Addr), DG (X.blk s H scope (PySem.compEnvC scope cl Ca X.env) fp) C io us tg gg)
    (ht : ∀ (s : Shared) (H : Hp) (Ca : Addr) (cl : List (Str × Addr)) (fp : List Addr), PTs (X.blk s H scope (PySem.compEnvC scope cl Ca X.env) fp) ifs (tXB X.K C io xt))
    (he : ∀ (s : Shared) (H : Hp) (Ca : Addr) (cl : List (Str × Addr)) (fp : List Addr), DX (X.blk s H scope (PySem.compEnvC scope cl Ca X.env) fp) C io elt xf)
    (hov : own.map (·.2) = vs := by rfl) (hus : us.all (fun i => (own.map (·.2)).contains i) = true := by rfl) (hvs : (own.map (·.2)).all (fun i => !io.contains i) = true := by rfl) (hs : ∀ x, foldedSetIterable iter X.env x = pure x := by intro _; rfl) :
    DX X C io (.ListComp elt [⟨tg, iter, ifs, 0⟩] scope pos) (xComp xi gg xt xf vs) := by
  subst hov
  exact dx_lc hc hN hi ok hg ht he hus hvs hs
theorem ds_asgLcXW (i : Nat) {y : Str} {py spos : Pos} (own : List (Str × Nat)) (hc : X.calm = true) (hN : X.N.Nodup) (hi : DIX X C io tg iter xi) (ok : BlkOk X.N X.env.scope scope own)
    (hg : ∀ (s : Shared) (H : Hp) (Ca : Addr) (cl : List (Str × Addr)) (fp : List Addr), DG (X.blk s H scope (PySem.compEnvC scope cl Ca X.env) fp) C io us tg gg)
    (ht : ∀ (s : Shared) (H : Hp) (Ca : Addr) (cl : List (Str × Addr)) (fp : List Addr), PTs (X.blk s H scope (PySem.compEnvC scope cl Ca X.env) fp) ifs (tXB X.K C io xt))
    (he : ∀ (s : Shared) (H : Hp) (Ca : Addr) (cl : List (Str × Addr)) (fp : List Addr), DX (X.blk s H scope (PySem.compEnvC scope cl Ca X.env) fp) C io elt xf)
    (hov : own.map (·.2) = vs := by rfl) (hio : io.contains i = false := by rfl) (hy : X.N[i]? = some y := by rfl) (hyl : X.env.scope.names.lookup y = some .local := by rfl)
    (hsw : swapsWith (.ListComp elt [⟨tg, iter, ifs, 0⟩] scope pos) (some (.Name y py)) spos.line X.env = pure true := by exact sw_true rfl rfl rfl (by kernel_rfl)) (hus : us.all (fun i => (own.map (·.2)).contains i) = true := by rfl) (hvs : (own.map (·.2)).all (fun i => !io.contains i) = true := by rfl) (hs : ∀ x, foldedSetIterable iter X.env x = pure x := by intro _; rfl) :
    DS X C W io (.Assign [.Name y py] (.ListComp elt [⟨tg, iter, ifs, 0⟩] scope pos) spos) (sAsgX i (xComp xi gg xt xf vs)) := by
  subst hov
  exact ds_asgLcX i hc hN hi ok hg ht he hio hy hyl hsw hus hvs hs
theorem ds_asgOLcXW (i : Nat) {y : Str} {py spos : Pos} (own : List (Str × Nat)) (hc : X.calm = true) (hN : X.N.Nodup) (hi : DIX X C io tg iter xi) (ok : BlkOk X.N X.env.scope scope own)
    (hg : ∀ (s : Shared) (H : Hp) (Ca : Addr) (cl : List (Str × Addr)) (fp : List Addr), DG (X.blk s H scope (PySem.compEnvC scope cl Ca X.env) fp) C io us tg gg)
    (ht : ∀ (s : Shared) (H : Hp) (Ca : Addr) (cl : List (Str × Addr)) (fp : List Addr), PTs (X.blk s H scope (PySem.compEnvC scope cl Ca X.env) fp) ifs (tXB X.K C io xt))
    (he : ∀ (s : Shared) (H : Hp) (Ca : Addr) (cl : List (Str × Addr)) (fp : List Addr), DX (X.blk s H scope (PySem.compEnvC scope cl Ca X.env) fp) C io elt xf)
    (hov : own.map (·.2) = vs := by rfl) (hio : io.contains i = false := by rfl) (hy : X.N[i]? = some y := by rfl) (hyl : X.env.scope.names.lookup y = some .local := by rfl)
    (hsw : swapsWith (.ListComp elt [⟨tg, iter, ifs, 0⟩] scope pos) (some (.Name y py)) spos.line X.env = pure true := by exact sw_true rfl rfl rfl (by kernel_rfl)) (hus : us.all (fun i => (own.map (·.2)).contains i) = true := by rfl) (hvs : (own.map (·.2)).all (fun i => !io.contains i) = true := by rfl) (hs : ∀ x, foldedSetIterable iter X.env x = pure x := by intro _; rfl) :
    DS X C W io (.Assign [.Name y py] (.ListComp elt [⟨tg, iter, ifs, 0⟩] scope pos) spos) (sAsgOX i (xComp xi gg xt xf vs)) := by
  subst hov
  exact ds_asgOLcX i hc hN hi ok hg ht he hio hy hyl hsw hus hvs hs
end
end
end DL

set_option Elab.async false
set_option linter.all false
set_option maxRecDepth 100000
set_option maxHeartbeats 2000000
/-! DL16: own errors: class E(B(ValueError)) whose __init__ says super().__init__(v); self.f = v. -/
namespace PySem
namespace XOwn
open PySem.W PySem.Calls PyProof.Rows PySem.HandSPX
def xA (nm : Str) (p1 p2 : Pos) : Arguments := { posonlyargs := [], args := [{ arg := "self", annotation := none, pos := p1 }, { arg := nm, annotation := none, pos := p2 }], vararg := none, kwonlyargs := [], kw_defaults := [], kwarg := none, defaults := [] }
def xBd (nm : Str) (q1 q2 q3 q4 q5 q6 q7 q8 q9 q10 : Pos) : List Stmt :=
  [.Expr (.Call (.Attribute (.Call (.Name "super" q1) [] [] q2) "__init__" q3) [.Name nm q4] [] q5) q6, .Assign [.Attribute (.Name "self" q7) nm q8] (.Name nm q9) q10]
def xSc (nm : Str) : Scope := { kind := .function, names := [(PySem.Str.ofString "self", .local), (nm, .local), (PySem.Str.ofString "__class__", .free), (PySem.Str.ofString "super", .globalImplicit)], isGenerator := false, isCoroutine := false, more := [] }
/-- the field's name is no other name of __init__ -/
def fldOk (nm : Str) : Bool := !(nm == ("self" : Str)) && !(nm == ("__class__" : Str)) && !(nm == ("super" : Str)) && !(nm == ("__debug__" : Str))
/-- the two statements of __init__ -/
abbrev xCall (nm : Str) (q1 q2 q3 q4 q5 : Pos) : Expr := .Call (.Attribute (.Call (.Name "super" q1) [] [] q2) "__init__" q3) [.Name nm q4] [] q5
def EvOk (nm : Str) (q1 q2 q3 q4 q5 q6 : Pos) : Prop := ∀ env : Env, (∃ pl : Sem Bool, eval (xCall nm q1 q2 q3 q4 q5) env = (do
      let ov ← attributeBase (.Call (.Name "super" q1) [] [] q2) "__init__" env (eval (.Call (.Name "super" q1) [] [] q2) env)
      standAt q3.atName
      let (f, first) ← holding [ov] (getMethod ov "__init__" pl)
      callWith q5 f first (backTo q5 (starEach [.Name nm q4] env)) [])) ∧ swapsWith (xCall nm q1 q2 q3 q4 q5) none q6.line env = pure false
def BndOk (nm : Str) : Prop := ∀ (qi : Str) (p1 p2 q1 q2 q3 q4 q5 q6 q7 q8 q9 q10 : Pos) (doc pm cd : Value) (an : Option Addr) (ct : Value) (cc : Addr) (a b : Value),
  bindArgs (ksFn "__init__" qi (xA nm p1 p2) (xBd nm q1 q2 q3 q4 q5 q6 q7 q8 q9 q10) (xSc nm) .none .none doc pm an cd ct cc) ⟨[a, b], []⟩ = pure ([(("self" : Str), a), (nm, b)] : List (Str × Value))
theorem bnd_name : BndOk "name" := by unfold BndOk; intros; with_unfolding_all rfl
theorem bnd_word : BndOk "word" := by unfold BndOk; intros; with_unfolding_all rfl
theorem bnd_line : BndOk "line" := by unfold BndOk; intros; with_unfolding_all rfl
/-- what the written part says of such a class, at C, and of its __init__, at fI -/
structure XTxt (prog : Program) (K : Frag) (qi nm : Str) (C fI : Addr) : Prop where
  cls : ∃ n q N bs bm sn sub ab col dd k0 k1 k2 k3 k5, K.lookup C = some (excClassObj n q C N bs bm true sn sub ab col dd k0 k1 k2 k3 k5 "ValueError.__new__") ∧ refsVE bm = true
  sa : findIn K (.ref C) "__setattr__" = some (some (.builtin "object.__setattr__"))
  ga : findIn K (.ref C) "__getattribute__" = some (some (.builtin "BaseException.__getattribute__"))
  gg : findIn K (.ref C) "__getattr__" = some none
  noN : findIn K (.ref C) nm = some none
  iC : findIn K (.ref C) "__init__" = some (some (.ref fI))
  tC : typeIn K (.ref fI) = some (.type "function")
  kC : keepIn K (.ref C) = true
  exC : subIn K (.ref C) (.type "BaseException") = some true
  tyC : typeIn K (.ref C) = some (.type "type")
  hdC : hasDictIn K C = true
  op : nsIn K cStatics "thirdparty.any" = some none
  sup : ks_superIn K C C "__init__" = some (some (.builtin "ValueError.__init__"))
  subV : subIn K (.ref C) (.type "ValueError") = some true
  mroC : mroIn K C (.ref C) = some true
  top : (prog.main.scope.names.lookup ("super" : Str)).isSome = false
  fn : ∃ (oc : Value) (od : Option Addr) (doc pm : Value) (an : Option Addr) (cda cc : Addr) (ct : Value) (osl : Array (Option Value)) (p1 p2 q1 q2 q3 q4 q5 q6 q7 q8 q9 q10 : Pos) (cl : Value) (cld : Option Addr) (csl : Array (Option Value))
    (ccl : Value) (cdd : Option Addr) (vs : Array Value) (ccs : Array (Option Value)) (file : Str) (tf : Tok),
    K.lookup fI = some ⟨oc, od, .func (ksFn "__init__" qi (xA nm p1 p2) (xBd nm q1 q2 q3 q4 q5 q6 q7 q8 q9 q10) (xSc nm) .none .none doc pm an (.ref cda) ct cc), osl⟩ ∧ codeIn K (.ref cda) qi = true ∧
    K.lookup cc = some ⟨cl, cld, .cell (some (.ref C)), csl⟩ ∧ K.lookup cda = some ⟨ccl, cdd, .fields vs, ccs⟩ ∧ vs[2]? = some (.str file tf) ∧ ((prog.main.file : Str) == file) = true ∧ EvOk nm q1 q2 q3 q4 q5 q6
theorem kept_no {K : Frag} {h h' : Heap} {x : Addr} (X : K.In h) (hx : K.lookup x = none) (k : ∀ b o, b ≠ x → h.get? b = some o → h'.get? b = some o) : K.In h' := fun a o e =>
  k a o (fun z => by rw [z, hx] at e; cases e) (X a o e)
/-- what __init__ leaves -/
structure XEnd (nm : Str) (h h' : Heap) (x C dx t1 : Addr) (v : Value) : Prop where
  keep : ∀ b o, b ≠ x → h.get? b = some o → h'.get? b = some o
  obj : h'.get? x = some { cls := .ref C, dict := some dx, data := .fields #[.ref t1, .none, .none, .none, .bool false, .none] }
  dbig : h.objs.size ≤ dx
  dne : dx ≠ x
  ns : h'.Ns1 dx (fun y => if y = nm then some v else none)
section
variable {prog : Program} {w : World} {A : Around} {E : Value → Shared → Prop} {R : Result → Shared → Prop} {s : Shared} {K : Frag} {mg mb : Str → Option Value} {C fI : Addr} {qi nm : Str}
theorem fld_ne (h : fldOk nm = true) : (nm == ("self" : Str)) = false ∧ (nm == ("__class__" : Str)) = false ∧ (nm == ("super" : Str)) = false ∧ (nm == ("__debug__" : Str)) = false := by
  simp only [fldOk, Bool.and_eq_true, Bool.not_eq_true'] at h
  exact ⟨h.1.1.1, h.1.1.2, h.1.2, h.2⟩
theorem x_init (T : XTxt prog K qi nm C fI) (hf : fldOk nm = true) (hbd : BndOk nm) {x t0 : Addr} {v : Value} (X : K.In s.heap) (hlim : s.heap.NoLimit) (hG : s.heap.Ns mainGlobals mg) (hms : mg "super" = none) (hB : s.heap.Ns builtinsNs mb) (hmb : mb "super" = some (.type "super"))
    (hx : s.heap.get? x = some (excO C t0)) (hnx : K.lookup x = none) (hroom : A.depth < recursionLimit)
    (hq : ∀ h' tk dx t1, XEnd nm s.heap h' x C dx t1 v → R (.ok (.ret .none)) { s with heap := h', toks := tk }) :
    codeAny (model prog w) A (.call (.ref fI) ⟨[.ref x, v], []⟩) R s := by
  obtain ⟨oc, od, doc, pm, an, cda, cc, ct, osl, p1, p2, q1, q2, q3, q4, q5, q6, q7, q8, q9, q10, cl, cld, csl, ccl, cdd, vs, ccs, file, tf, ho, hcd, hcc, hco, hvs, hfile, hev⟩ := T.fn
  obtain ⟨n, q, N, bs, bm, sn, sub, ab, col, dd, k0, k1, k2, k3, k5, hC, hbm⟩ := T.cls
  obtain ⟨f1, f2, f3, f4⟩ := fld_ne hf
  have hcl : clsIn K C = some { name := n, bases := bs, mro := .ref C :: bm, ns := N, qualname := q, hasDict := true, slotNames := sn, subclasses := sub, abstract := ab, collection := col, hasDel := false } := by unfold clsIn; rw [hC] <;> rfl
  have lk : ∀ y : Str, (xSc nm).names.lookup y = if (y == ("self" : Str)) = true then some .local else if (y == nm) = true then some .local else if (y == ("__class__" : Str)) = true then some .free else if (y == ("super" : Str)) = true then some .globalImplicit else none := by
    intro y
    simp only [xSc, List.lookup_cons]
    cases y == Str.ofString "self" <;> cases y == nm <;> cases y == Str.ofString "__class__" <;> cases y == Str.ofString "super" <;> rfl
  have l_self : (xSc nm).names.lookup ("self" : Str) = some .local := by rw [lk]; rfl
  have l_nm : (xSc nm).names.lookup nm = some .local := by rw [lk, f1]; simp
  have l_cls : (xSc nm).names.lookup ("__class__" : Str) = some .free := by
    rw [lk]
    have : (("__class__" : Str) == nm) = false := by rw [BEq.comm]; exact f2
    rw [this]; rfl
  have l_sup : (xSc nm).names.lookup ("super" : Str) = some .globalImplicit := by
    rw [lk]
    have : (("super" : Str) == nm) = false := by rw [BEq.comm]; exact f3
    rw [this]; rfl
  have up0 : (xSc nm).kind = .function := rfl
  refine ks_codeAny_call_defAt (fd := ksFn "__init__" qi (xA nm p1 p2) (xBd nm q1 q2 q3 q4 q5 q6 q7 q8 q9 q10) (xSc nm) .none .none doc pm an (.ref cda) ct cc) (body := xBd nm q1 q2 q3 q4 q5 q6 q7 q8 q9 q10) (binds := [("self", .ref x), (nm, v)])
    hroom (X _ _ ho) rfl hlim (codeRec_of X hcd) rfl (BindsTo.of_eq (hbd _ _ _ _ _ _ _ _ _ _ _ _ _ _ _ _ _ _ _ _ _)) ?cell ?loc (fun h₁ hns hk₁ => ?_)
  case cell =>
    intro y hy
    simp only [ksFn, fnX, xSc, List.mem_cons, List.not_mem_nil, or_false] at hy
    rcases hy with rfl | rfl | rfl | rfl <;> (intro z; cases z)
  case loc =>
    intro y hy
    simp only [List.mem_cons, List.not_mem_nil, or_false] at hy
    rcases hy with rfl | rfl
    · exact l_self
    · exact l_nm
  have X₁ : K.In h₁ := X.keeps hk₁
  have hx₁ := hk₁ _ _ hx
  have I₁ : InstAt h₁ x (excO C t0) C none := ⟨hx₁, rfl, rfl, trivial⟩
  have m_self : ([("self", Value.ref x), (nm, v)] : List (Str × Value)).reverse.lookup ("self" : Str) = some (.ref x) := by
    have : (("self" : Str) == nm) = false := by rw [BEq.comm]; exact f1
    simp [List.lookup_cons, this]
  have m_nm : ([("self", Value.ref x), (nm, v)] : List (Str × Value)).reverse.lookup nm = some v := by simp [List.lookup_cons]
  obtain ⟨⟨pl, hpl⟩, hsw⟩ := hev (callEnv (ksFn "__init__" qi (xA nm p1 p2) (xBd nm q1 q2 q3 q4 q5 q6 q7 q8 q9 q10) (xSc nm) .none .none doc pm an (.ref cda) ct cc) s.heap.objs.size fI)
  refine ks_wpAt_execs_cons (ks_wpAt_Expr_any (ks_wpAt_MethodCall (pl := pl) ?_ hpl) rfl hsw)
  refine ks_wpAt_super_base l_sup l_cls (by decide) rfl (X₁ _ _ ho) rfl rfl rfl (X₁ _ _ hco) rfl hvs hfile T.top ?_
  refine ks_loadName_global rfl l_sup (loadGlobal_builtin (mb := mb) (hG.keeps hk₁) hms (hB.keeps hk₁) hmb ⟨rfl, ?_⟩)
  refine wpAny_loadName_free rfl l_cls rfl ⟨_, X₁ _ _ hcc, rfl⟩ ?_
  refine wpAny_loadName_local rfl l_self hns m_self ?_
  refine ks_wpAny_isType_cls (X₁ _ _ hC) rfl ⟨rfl, ?_⟩
  refine ks_wpAny_call_super (X₁ _ _ hC) rfl hx₁ rfl (fun c e => by cases e) (looks_mroIn X₁ T.mroC) (fun h₂ hso k₂ => ?_)
  have X₂ : K.In h₂ := X₁.keeps k₂
  have I₂ : InstAt h₂ x (excO C t0) C none := ⟨k₂ _ _ hx₁, rfl, rfl, trivial⟩
  have along : alongIn K "__init__" (((Value.ref C :: bm).dropWhile (· != .ref C)).drop 1) = some (some (.builtin "ValueError.__init__")) := by
    have := T.sup
    unfold ks_superIn at this
    rw [hcl] at this
    exact this
  refine kxs_getMethod kxs_ValueError hso (looks_opaque X₂ T.op) (l₀ := .ref C :: bm) ((looks_clsIn X₂ hcl).andThen .now) rfl X₂ along (I₂.type.andThen (looks_subIn X₂ T.subV)) (ks_ne X₂ I₂ hcl) (by decide) ?_
  have kU : ∀ b o, h₂.get? b = some o → (h₂.push (kxs_mw "ValueError.__init__" x)).get? b = some o := fun b o e => Heap.get?_push_of_some _ e
  have hu : (h₂.push (kxs_mw "ValueError.__init__" x)).get? h₂.objs.size = some (kxs_mw "ValueError.__init__" x) := Heap.get?_push_at rfl rfl
  have hns₃ := (hns.keeps k₂).keeps kU
  refine kxs_callWith (i := "ValueError.__init__") (x := x) rfl (evalArgs_plain ?_)
  refine Calls.spliced_cons (wpAny_Name (wpAny_loadName_local rfl l_nm hns₃ m_nm (Calls.spliced_nil ⟨hu, ?_⟩)) f4)
  have hC₃ := kU _ _ (k₂ _ _ (hk₁ _ _ (X _ _ hC)))
  have hx₃ : (h₂.push (kxs_mw "ValueError.__init__" x)).get? x = some (excO C t0) := kU _ _ (k₂ _ _ hx₁)
  have FB := F.excBase_ValueError
  refine wpAny_call (codeAny_of_tree ?_)
  show wpAny _ _ (callAny (.ref h₂.objs.size) ⟨[v], []⟩) _ _ _
  simp only [callAny]
  refine wpAny_bind (wpAny_load hu ?_)
  simp only [kxs_mw, show (Value.type "method-wrapper" == Value.type "method" || Value.type "method-wrapper" == Value.type "builtin_function_or_method" || Value.type "method-wrapper" == Value.type "method-wrapper") = true by decide, if_true]
  refine KFB.if_so (by decide) (wpAny_bind (check_bound_init FB.toExcCallFacts hC₃ hx₃ rfl ?_))
  refine wpAny_bind (wpAny_pure (wpAny_pure ⟨plainId_quiet FB.init.plain _, codeAny_builtin FB.initEntry ?_⟩))
  have one : ([v] : List Value).length ≤ sizeLine := by rw [sizeLine_eq]; exact (by decide : 1 ≤ 16777216)
  refine exc_init_tree (cls := .ref C) (t0 := t0) (dv := none) (c2 := .none) (c3 := .none) (b4 := .bool false) hx₃ one fun h₄ k₄ hx₄ ht₄ => ?_
  -- self.f = f
  have L0 : s.heap.objs.size ≠ x := Nat.ne_of_gt (Heap.lt_size hx)
  have k₁₄ : ∀ b o, b ≠ x → h₁.get? b = some o → h₄.get? b = some o := fun b o hb e => k₄ b o hb (kU _ _ (k₂ _ _ e))
  have X₄ : K.In h₄ := kept_no X₁ hnx k₁₄
  obtain ⟨oL, es, ep, hL, rL⟩ := hns
  have hns₄ : h₄.Ns s.heap.objs.size (fun y => ([("self", Value.ref x), (nm, v)] : List (Str × Value)).reverse.lookup y) := ⟨oL, es, ep, k₁₄ _ _ L0 hL, rL⟩
  show wpAt _ _ _ (execs _ _) _ _ _
  refine wpAt_of_wpAny (wpAny_execs_cons (plainObj_wpAny_Assign_Attribute ?_))
  refine wpAny_Name (wpAny_loadName_local rfl l_nm hns₄ m_nm ?_) f4
  refine wpAny_Name (wpAny_loadName_local rfl l_self hns₄ m_self ?_) (by decide)
  refine set_plain X₄ (ox := excO C _) (od := none) ⟨hx₄, rfl, rfl, trivial⟩ T.sa ?_
  refine exc_osa X₄ hx₄ hcl (show refsVE (.ref C :: bm) = true from hbm) rfl T.noN fun h₅ tk₅ dx k₅ dn dne hx₅ hn₅ => ?_
  have z : s.heap.objs.size < h₁.objs.size := Heap.lt_size hL
  have z4 : s.heap.objs.size < h₄.objs.size := Heap.lt_size (k₁₄ _ _ L0 hL)
  show wpAny _ _ (execs _ _) _ _ _
  exact wpAny_execs_nil (hq h₅ tk₅ dx _ ⟨fun b o hb e => k₅ b o hb (k₁₄ b o hb (hk₁ b o e)), hx₅, Nat.le_of_lt (Nat.lt_of_lt_of_le z4 dn), dne, hn₅⟩)
/-- a made one -/
structure XMade (nm : Str) (h h' : Heap) (e C d : Addr) (v : Value) : Prop where
  keep : ∀ b o, h.get? b = some o → h'.get? b = some o
  new : h.objs.size ≤ e
  obj : ∃ oe vs, h'.get? e = some oe ∧ oe.cls = .ref C ∧ oe.dict = some d ∧ oe.data = .fields vs ∧ vs[1]? = some .none
  dbig : h.objs.size ≤ d
  dne : d ≠ e
  ns : h'.Ns1 d (fun y => if y = nm then some v else none)
theorem x_made (T : XTxt prog K qi nm C fI) (hf : fldOk nm = true) (hbd : BndOk nm) {v : Value} (X : K.In s.heap) (hlim : s.heap.NoLimit) (hG : s.heap.Ns mainGlobals mg) (hms : mg "super" = none) (hB : s.heap.Ns builtinsNs mb) (hmb : mb "super" = some (.type "super"))
    (hroom : A.depth + 1 < recursionLimit) (hq : ∀ h' tk e d, XMade nm s.heap h' e C d v → R (.ok (.ret (.ref e))) { s with heap := h', toks := tk }) :
    codeAny (model prog w) A (.call (.ref C) ⟨[v], []⟩) R s := by
  obtain ⟨n, q, N, bs, bm, sn, sub, ab, col, dd, k0, k1, k2, k3, k5, hC, hbm⟩ := T.cls
  obtain ⟨hp, g, dr, tk, os⟩ := s
  have kp : ∀ b o, hp.get? b = some o → ((hp.push (kdv_tup [v])).push (excO C hp.objs.size)).get? b = some o := fun b o e => Heap.get?_push_of_some _ (Heap.get?_push_of_some _ e)
  have hg : ((hp.push (kdv_tup [v])).push (excO C hp.objs.size)).get? (hp.objs.size + 1) = some (excO C hp.objs.size) := by heap_get
  have hno : K.lookup (hp.objs.size + 1) = none := by
    cases e : K.lookup (hp.objs.size + 1) with
    | none => rfl
    | some o => exact absurd (Nat.lt_of_succ_lt (Heap.lt_size (show hp.get? (hp.objs.size + 1) = some o from X _ _ e))) (Nat.lt_irrefl _)
  have one : ([v] : List Value).length ≤ sizeLine := by rw [sizeLine_eq]; exact (by decide : 1 ≤ 16777216)
  refine call_own F.excBase_ValueError (fun X => refsVE_contains X bm hbm) (X _ _ hC) (looks_findIn X T.iC) (fun self => bind_fn X self T.tC) one ?_
  refine x_init (s := ⟨(hp.push (kdv_tup [v])).push (excO C hp.objs.size), g, dr, tk, os⟩) T hf hbd (X.keeps kp) (hlim.keeps kp) (hG.keeps kp) hms (hB.keeps kp) hmb hg hno (show A.depth + 1 < recursionLimit from hroom) fun h' tk' dx t1 ⟨k', hx, dn, dne, hns⟩ => ?_
  have old : ∀ b o, hp.get? b = some o → h'.get? b = some o := fun b o e => k' b o (Nat.ne_of_lt (Nat.lt_succ_of_lt (Heap.lt_size e))) (kp b o e)
  have z : hp.objs.size + 1 + 1 ≤ dx := by
    have q := dn
    rw [Heap.size_push, Heap.size_push] at q
    exact q
  exact ⟨rfl, hq h' tk' (hp.objs.size + 1) dx ⟨old, Nat.le_succ _, ⟨_, _, hx, rfl, rfl, rfl, rfl⟩, Nat.le_trans (Nat.le_trans (Nat.le_succ _) (Nat.le_succ _)) z, dne, hns⟩⟩
end
end XOwn
end PySem
namespace DL
open PySem PySem.Spec L2
/-- the class x of own errors, of the kind k -/
def XFact (prog : Program) (K : PySem.W.Frag) (mg : Str → Option Value) (C : Cfg) (k : Nat) (x qi nm : Str) : Prop := ∃ fI, mg x = some (.ref (C.exc k)) ∧ PySem.XOwn.XTxt prog K qi nm (C.exc k) fI ∧ C.fld k = nm ∧ mg "super" = none
theorem relO_fld {nm : Str} {v : V} {v' : Value} (r : RelV v v') (f : Str) : RelO (List.lookup f [(nm, v)]) (if f = nm then some v' else none) := by
  by_cases hw : f = nm
  · subst hw
    rw [if_pos rfl]
    have q : List.lookup f [(f, v)] = some v := by simp [List.lookup]
    rw [q]
    exact r
  · rw [if_neg hw]
    have qw : (f == nm) = false := by simpa using hw
    have q2 : List.lookup f [(nm, v)] = none := by simp [List.lookup, qw]
    rw [q2]
    trivial
section
variable {X : Cx} {C : Cfg} {W : WX} {io : List Nat} {kd j : Nat} {x qi nm : Str}
def tMkX (C : Cfg) (k : Nat) (ta : TA) : St → Hp → XK → Prop := fun σ H Q => ta σ H fun vs H1 => ∃ v, vs = [v] ∧ ∀ d, H1 d = none → Q (.ref (C.exc k)) (some d) (upd H1 d (.xd [(C.fld k, v)]))
theorem pmk_x {a : Expr} {ta : TA} {p pos : Pos} (T : XFact X.prog X.K X.mg C kd x qi nm) (hf : PySem.XOwn.fldOk nm = true) (hbd : PySem.XOwn.BndOk nm) (hr : Room j X.A) (ha : PA X [a] ta) (hg : Gl X x) (hdb : (x == ("__debug__" : Str)) = false := by decide)
    (he : starEach (a :: []) X.env = (false, eval a X.env) :: starEach [] X.env := by rfl) (hpl : (backTo pos (starEach [] X.env)).any (·.1) = false := by rfl) :
    PMk X (.Call (.Name x p) [a] [] pos) (tMkX C kd ta) := by
  obtain ⟨fI, hm, T, hF, hms⟩ := T
  intro pins s σ H Q I h
  refine wpAny_Call_Name_kw (ld_glob I hg hm ?_ hdb)
  refine PySem.W.callWith_K (h₀ := X.base) I.ok.mod.kin T.kC (thn (ha.run pos pins s σ H _ I h) fun us s1 hh => ?_) he hpl
  obtain ⟨vs, H1, I1, r1, v, ev, q1⟩ := hh
  subst ev
  refine ⟨I1.kIn, ?_⟩
  cases r1 with
  | cons rv rn =>
    rename_i v' us'
    cases rn
    show wpAny _ _ (call (.ref (C.exc kd)) [v']) _ _ _
    have hlim := I1.nolimit
    have hG := I1.mod.glob.keeps I1.bk
    obtain ⟨mb, hB, hbt⟩ := I1.mod.blt
    have hB := hB.keeps I1.bk
    have hmb : mb "super" = some (.type "super") := (hbt "super" (by decide)).trans (by boot_by_name)
    obtain ⟨hp, g, dr, tk, os⟩ := s1
    refine wpAny_call (PySem.XOwn.x_made T hf hbd I1.kIn hlim hG hms hB hmb (by have := hr.dp; omega) fun h' tk' e d M => ?_)
    show MkP X pins σ Q (.ref e) ⟨h', g, dr, tk', os⟩
    obtain ⟨oe, fv, hoe, hc, hd, hdat, h1⟩ := M.obj
    have hns := M.ns
    obtain ⟨G', g1, g2⟩ := L2.restrict h' fun b => decide (b ≠ e)
    have gk : ∀ b, b ≠ e → G'.get? b = h'.get? b := fun b hb => g1 b (decide_eq_true hb)
    have ge : G'.get? e = none := g2 e (by simp)
    have old : ∀ b o, hp.get? b = some o → G'.get? b = some o := fun b o q => (gk b (Nat.ne_of_lt (Nat.lt_of_lt_of_le (Heap.lt_size q) M.new))).trans (M.keep b o q)
    have ob : ObjOk X.prog X.w (upd H1 d (.xd [(C.fld kd, v)])) G' d (.xd [(C.fld kd, v)]) :=
      ⟨_, hns.at (fun o q => (gk d M.dne).trans q), fun f => by rw [hF]; exact relO_fld rv f⟩
    have J : Inv X pins σ (upd H1 d (.xd [(C.fld kd, v)])) ⟨G', g, dr, tk', os⟩ := I1.laid (t' := tk') old M.dbig ob
    refine ⟨e, oe, fv, ⟨G', g, dr, tk', os⟩, _, .ref (C.exc kd), some d, rfl, J, fun b o q => ?_, ge, hoe, ⟨hc, hd⟩, hdat, h1, ?_, rfl, I1.bare, raises_own T.exC T.tyC, q1 d (I1.hok.fresh M.dbig)⟩
    · by_cases hb : b = e
      · have q' : G'.get? b = some o := q
        rw [hb, ge] at q'; cases q'
      · exact (gk b hb).symm.trans q
    · rw [upd_ne (Ne.symm M.dne)]
      exact I1.hok.fresh M.new
/-- raise E(a) -/
def sRaise (k : Nat) (fs : Env → R (List S)) : Env → SR := sA fs fun ss δ => match ss with
  | [s] => (match s.pd with
    | .ok p => .exc k p δ
    | _ => .bad)
  | _ => .bad
theorem ds_raise {a : Expr} {fs : Env → R (List S)} {p pos pos2 : Pos} (hc : X.calm = true) (T : XFact X.prog X.K X.mg C kd x qi nm) (hf : PySem.XOwn.fldOk nm = true) (hbd : PySem.XOwn.BndOk nm) (hr : Room j X.A) (hg : Gl X x) (tk : Takes X W) (ha : DA X C W [a] fs) (hdb : (x == ("__debug__" : Str)) = false := by decide)
    (he : starEach (a :: []) X.env = (false, eval a X.env) :: starEach [] X.env := by rfl) (hpl : (backTo pos (starEach [] X.env)).any (·.1) = false := by rfl) :
    DS X C W io (.Raise (some (.Call (.Name x p) [a] [] pos)) none pos2) (sRaise kd fs) := by
  refine PS.imp (ps_raise hc tk (pmk_x T hf hbd hr ha hg hdb he hpl)) fun D σ H ⟨B, O₀, pn, δ, O, hpn, rp, h⟩ => ?_
  refine runA rp h fun ss es q vs H1 s1 bvs => ?_
  split at q
  · rename_i s
    obtain ⟨v, rfl, bv⟩ := bvs1 bvs
    cases ep : s.pd with
    | exc k p => exact (pd_ne s k p ep).elim
    | bad => rw [ep] at q; exact q.elim
    | ok d =>
      rw [ep] at q
      refine ⟨v, rfl, fun e he => ?_⟩
      have sn : Sm C H1 (upd H1 e (.xd [(C.fld kd, v)])) := same_new he
      exact q v e σ _ O (Stay.of (s1.trans sn)) ((rp.same s1).same sn) upd_same (dp_same (hm_same sn) (bv_pd bv ep))
  · exact q.elim
end
end DL

set_option Elab.async false
set_option linter.all false
set_option maxRecDepth 100000
set_option maxHeartbeats 2000000
/-! DL17: the law's _law_refused(lambda: ..): the name that a refusal bears, else the empty text. -/
namespace DL
open PySem PySem.Spec L2
/-- e.f of an own error that a suite holds -/
def tByX (C : Cfg) (k : Nat) (a : Addr) (cls : Value) (d : Option Addr) (te : TE) : TE := fun σ H Q => te σ H fun x H1 => x = .ref a ∧ cls = .ref (C.exc k) ∧ ∃ (dd : Addr) (v : V), d = some dd ∧ H1 dd = some (.xd [(C.fld k, v)]) ∧ Q v H1
section
variable {X : Cx} {C : Cfg} {W : WX} {kd j : Nat} {x qi nm : Str}
theorem pe_byX {a : Addr} {oe : Obj} {cls : Value} {d : Option Addr} {pn : List (Addr × Obj)} {e : Expr} {te : TE} {pos : Pos} (T : XFact X.prog X.K X.mg C kd x qi nm) (hz : Zc cls d oe) (hf : ∃ vs, oe.data = .fields vs) (he : PE (X.suite a ((a, oe) :: pn)) e te)
    (hb : attributeBase e nm X.env (eval e X.env) = eval e X.env) : PE (X.suite a ((a, oe) :: pn)) (.Attribute e nm pos) (tByX C kd a cls d te) := by
  obtain ⟨fI, hm, T, hF, hms⟩ := T
  refine ⟨fun pins s σ H Q I h => ?_⟩
  refine attr_of hb (thn (he.run pins s σ H _ I h) fun u s1 hh => ?_)
  obtain ⟨x, H1, I1, rx, ex, ec, dd, v, ed, ea, q⟩ := hh
  subst ex
  obtain rfl : u = Value.ref a := rx
  subst ec
  subst ed
  obtain ⟨ha, _⟩ := I1.pin (a, oe) (List.mem_append_left _ List.mem_cons_self)
  obtain ⟨vs, hd⟩ := hf
  rw [hF] at ea
  have hx : ObjOk X.prog X.w H1 s1.heap dd (.xd [(nm, v)]) := I1.hok dd _ ea
  obtain ⟨mA, hns, hr⟩ := hx
  obtain ⟨od, ho, hl⟩ := lookIn_ns hns
  have l : List.lookup nm [(nm, v)] = some v := by simp [List.lookup]
  obtain ⟨u, hu, ru⟩ := RelO.some_of (v := v) (o := mA nm) (by rw [← l]; exact hr nm)
  have J : PySem.W.InstAt s1.heap a oe (C.exc kd) (some od) := ⟨ha, hz.1, by unfold PySem.W.notCls; rw [hd] <;> rfl, by rw [hz.2]; exact ho⟩
  exact HandSPX.exc_get I1.kIn J T.ga T.gg T.exC (PySem.W.findObj_own T.hdC T.noN rfl (by rw [hl, hu])) (handed_of ru) ⟨v, H1, I1.tok _, ru, q⟩
/-- what refused(..) makes of what its lambda does -/
def TTr (C : Cfg) (k : Nat) : (XK → Hp → VK → Prop) → Hp → VK → Prop := fun tl H Q =>
  tl (fun cls d H' => cls = .ref (C.exc k) ∧ ∃ (dd : Addr) (v : V), d = some dd ∧ H' dd = some (.xd [(C.fld k, v)]) ∧ Q v H') H fun _ H' => Q (.str "") H'
theorem refused_gives {xf a e q : Str} {sg : Scope} {g : Addr} {cdg : Value} {jj : Nat} {p1 p2 p3 p4 p5 p6 p7 p8 p9 p10 p11 : Pos} (T : XFact X.prog X.K X.mg C kd x qi nm) (te : PySem.W.exmOne X.K (.ref (C.exc kd)) (.ref (C.exc kd)) = some true)
    (hge : sg.names.lookup x = some .globalImplicit) (hle : sg.names.lookup e = some .local) (hde : (x == ("__debug__" : Str)) = false) (hdn : (e == ("__debug__" : Str)) = false) (hcn : (e == ("__classdict__" : Str)) = false) (hnd : ([a, e] : List Str).Nodup)
    (hb : ∀ (cx : PySem.Env), attributeBase (.Name e p5) nm cx (eval (.Name e p5) cx) = eval (.Name e p5) cx) (hsw : ∀ cx : PySem.Env, swapsWith (.Call (.Name a p1) [] [] p2) none p3.line cx = pure false) (hin : ∀ s h c, interactive (PyProof.Rows.envOfC xf sg s h c) = false) :
    LamX.GivesTo X [a, e] xf sg g cdg [.Try [.Expr (.Call (.Name a p1) [] [] p2) p3] [.ExceptHandler (some (.Name x p4)) (some e) [.Return (some (.Attribute (.Name e p5) nm p6)) p7] p8] [] [] p9, .Return (some (.Constant (.str "") jj p10)) p11] a q (TTr C kd) := by
  intro f c' s H Q tl act hc h
  have T' := T
  obtain ⟨fI, hm, T0, hF, hms⟩ := T
  let Y := (cxOf C8.CX0 X.prog X.w X.K X.mg X.base [a, e] xf sg g cdg X.A X.stack s H C8.E0).nox
  have hgl : Gl Y x := hge
  refine ⟨_, pss_cons (ps_try_as (X := Y) (i := 1) (c := .ref (C.exc kd)) (Wout := fun _ _ _ _ => False)
      (tb := fun W D σ H => ∃ Ech : XK, (∀ cls d σ' H', Ech cls d H' → W cls d σ' H') ∧ σ[0]? = some (some (.ref f)) ∧ H c' = some (LamX.CodeO c' q) ∧ tl Ech H fun _ H' => D.nx σ H')
      (ts := fun a0 cls d D σ H => (σ.length = 2 → σ[1]? = some (some (.ref a0))) ∧ cls = .ref (C.exc kd) ∧ ∃ (dd : Addr) (v : V), d = some dd ∧ H dd = some (.xd [(C.fld kd, v)]) ∧ D.rt v H)
      rfl rfl hnd rfl hle ⟨hgl, hde, .inl hm⟩ LamX.takes0 (fun W pn xe tk _ => ?_) (fun a0 oe cls d pn hz hf => ?_)) (pss_one (ps_ret pe_str)), ?_⟩
  · refine ⟨fun pins s' σ H' D I h' => ?_⟩
    obtain ⟨Ech, hW, h1, h2, h3⟩ := h'
    have hp := act W pn xe Ech p1 p2 tk hW
    have hq := pss_one (ps_expr (pos := p3) hp (hsw _))
    exact hq.run pins s' σ H' D I ⟨h1, h2, h3⟩
  · refine ⟨fun pins s' σ H' D I h' => ?_⟩
    obtain ⟨h1, h2, dd, v, h3, h4, h5⟩ := h'
    have hv : Vis Y.env.scope e := Or.inl hle
    have hq := pss_one (ps_ret (pos := p7) (pe_byX (pos := p6) (X := Y) (a := a0) (pn := pn) T' hz hf (pe_var (i := 1) (pos := p5) rfl hv hdn hcn) (hb _)))
    exact hq.run pins s' σ H' D I ⟨_, h1 I.len, rfl, h2, dd, v, h3, h4, h5⟩
  · refine ⟨_, fun cls d σ' H' hh => ?_, rfl, hc, h⟩
    obtain ⟨rfl, dd, v, rfl, hx, hq⟩ := hh
    refine ⟨true, te, fun _ a0 _ => ⟨fun hl => ?_, rfl, dd, v, rfl, hx, hq⟩, fun z => nomatch z⟩
    rw [List.getElem?_set_self]
    rw [List.length_set] at hl
    omega
end
end DL

set_option Elab.async false
set_option linter.all false
set_option maxRecDepth 100000
set_option maxHeartbeats 2000000
/-! DL18: _law_refused(lambda: e) as an expression. -/
namespace DL
open PySem PySem.Spec L2
/-- the def that runs has a table for its lambdas -/
def LamH (X : Cx) (C : Cfg) : Prop := ∃ c P, X.env.code = .ref c ∧ LamX.TabB X.base X.mg c P ∧ (P, X.env.qual ++ "<lambda>") ∈ C.T ∧ ∀ p ∈ C.T, p.1 = P → p.2 = X.env.qual ++ "<lambda>"
def kRef (f : Env → R S) : Env → R S := fun δ => match f δ with
  | .ok _ => .ok (.d (.str ""))
  | .exc 0 p => .ok (.d p)
  | _ => .bad
section
variable {X : Cx} {C : Cfg} {W : WX} {k j : Nat} {st : Stmt} {cdv : Value}
theorem de_refused {params : Arguments} {body : Expr} {scope : Scope} {f : Env → R S} {p lpos pos : Pos} (R : FactC X.K X.mg "_law_refused" st cdv) (Sg : FnScope ["call", "e"] ["call"] (defScope st)) (hbnd : BindP "_law_refused" st ["call"])
    (hG : ∀ (g : Addr) (q : Str), LamX.GivesTo X ["call", "e"] "_law_refused" (defScope st) g cdv (defBody st) "call" q (TTr C 0)) (hg : Gl X "_law_refused") (hl : LamH X C) (hr : Room j X.A) (hj : k + 2 ≤ j) (L : LamX.LamS X.env.scope scope)
    (hdef : defaultsOf params X.env = ([], [])) (hbind : ∀ (q : Str) (cl : List (Str × Addr)) (pm cv ctv : Value), bindArgs (PySem.W.kla_fn "<lambda>" q params body scope cl pm cv ctv) ⟨[], []⟩ = pure [])
    (hbody : ∀ (A : Around) (outer : List PySem.Env) (s : Shared) (H : Hp) (E : XK) (fl c' : Addr), Room k (A.deeper (LamX.lamEnv X scope s.heap.objs.size fl c')) → DE (LamX.lamCx X A outer s H E scope fl c') C (WF E) body f)
    (hva : Vis (defScope st) "call" := by first | exact Or.inl rfl | exact Or.inr (Or.inl rfl)) :
    DE X C W (.Call (.Name "_law_refused" p) [.Lambda params body scope lpos] [] pos) (kRef f) := by
  obtain ⟨fa, oc, od, kV, doc, pm, an, ct, osl, hm, lk, hcd, kp⟩ := R
  obtain ⟨c, P, hcode, TB, hmT, hu⟩ := hl
  have hb : L2.Binds X.K (PySem.W.fnOf "_law_refused" "_law_refused" (defArgs st) (defBody st) (defScope st) .none kV doc pm an cdv ct) ["call"] [] := .all (hbnd kV doc pm an cdv ct)
  refine PE.imp (LamX.pe_lamcall (T := C.T) (TT := TTr C 0) (t := fun E => tD X.K C (WF E) f) hg hm kp lk hcd hb Sg rfl hva (hG fa _) TB hcode hmT hu (hr.mono hj) L hdef hbind (fun A outer s H E fl c' hr' => hbody A outer s H E fl c' hr')) fun σ H Q ⟨δ, O, rep, w⟩ => ?_
  refine ⟨rep.tabs, fun H1 eN t1 => ?_⟩
  have sm : Sm C H H1 := ⟨eN, fun _ => t1⟩
  refine ⟨δ, O, rep.same sm, ?_⟩
  unfold kRef at w
  cases ef : f δ with
  | ok s => rw [ef] at w; exact fun v H' s1 bv fr => w _ H' (sm.trans s1) (.d (.str _)) trivial
  | bad => rw [ef] at w; exact w.elim
  | exc kd q =>
    rw [ef] at w
    cases kd with
    | succ n => exact w.elim
    | zero => exact fun v d H' s1 hx hd => ⟨rfl, d, v, rfl, hx, w v H' (sm.trans s1) (.d hd) trivial⟩
end
end DL

set_option Elab.async false
set_option linter.all false
set_option maxRecDepth 100000
set_option maxHeartbeats 2000000
/-! DL19: the making of an instance that stands still from then on: __init__ with self.f = e, at its end a list that is filled in a loop. -/
namespace DL
open PySem PySem.Spec L2

/-! ### no datum asks for an instance -/
section
variable {K : PySem.W.Frag} {H H' : Hp}
/-- a list, a tuple, frozen or not -/
def SqO : HO → Prop
  | .lst _ => True
  | .tup _ => True
  | .frz _ _ => True
  | _ => False
mutual
theorem dp_sq (e : ∀ a o, H a = some o → SqO o → H' a = some o) : ∀ {v : V} {x : PyData}, Dp K H v x → Dp K H' v x
  | _, _, .non => .non
  | _, _, .bl b => .bl b
  | _, _, .int i => .int i
  | _, _, .str z => .str z
  | _, _, .lst (.inl (.inl h)) r => .lst (.inl (.inl (e _ _ h trivial))) (dpa_sq e r)
  | _, _, .lst (.inl (.inr ⟨o, h⟩)) r => .lst (.inl (.inr ⟨o, e _ _ h trivial⟩)) (dpa_sq e r)
  | _, _, .lst (.inr h) r => .lst (.inr h) (dpa_sq e r)
  | _, _, .tup (.inl (.inl h)) r => .tup (.inl (.inl (e _ _ h trivial))) (dpa_sq e r)
  | _, _, .tup (.inl (.inr ⟨o, h⟩)) r => .tup (.inl (.inr ⟨o, e _ _ h trivial⟩)) (dpa_sq e r)
  | _, _, .tup (.inr h) r => .tup (.inr h) (dpa_sq e r)
theorem dpa_sq (e : ∀ a o, H a = some o → SqO o → H' a = some o) : ∀ {vs : List V} {xs : List PyData}, DpAll K H vs xs → DpAll K H' vs xs
  | _, _, .nil => .nil
  | _, _, .cons h r => .cons (dp_sq e h) (dpa_sq e r)
end
end
/-- an instance x that is being made: x is one's own place that no slot knows -/
structure Nw (K : PySem.W.Frag) (C : Cfg) (cn : Nat) (B : Hp) (O₀ : List Addr) (H : Hp) (O : List Addr) (δ : Env) (σ : St) (x dx : Addr) (vs : List (Str × V)) (gs : List (Str × PyData)) : Prop where
  rp : Rp K C (upd B x (.ins (C.cls cn) dx vs)) (x :: O₀) [] H O δ σ
  nb : Nn B x
  no : x ∉ O₀
  fs : FsAll K (C.fl cn) (Hm H O) vs gs
  self : σ[0]? = some (some (.ref x))
  empty : δ[0]? = some Option.none
section
variable {K : PySem.W.Frag} {C : Cfg} {cn : Nat} {B H H' : Hp} {O₀ O O' : List Addr} {δ : Env} {σ : St} {x dx : Addr} {vs : List (Str × V)} {gs : List (Str × PyData)}
theorem Nw.at (n : Nw K C cn B O₀ H O δ σ x dx vs gs) : H x = some (.ins (C.cls cn) dx vs) ∧ x ∈ O := ⟨n.rp.noD.1, n.rp.noD.2.1⟩
/-- the places without x -/
abbrev wo (O : List Addr) (x : Addr) : List Addr := O.filter fun b => decide (b ≠ x)
theorem mem_wo {b : Addr} : b ∈ wo O x ↔ b ∈ O ∧ b ≠ x := by simp
/-- the slots, self as an instance that stands still -/
theorem Nw.rep (n : Nw K C cn B O₀ H O δ σ x dx vs gs) : Rep K C H (wo O x) (δ.set 0 (some (.obj cn gs))) σ := by
  obtain ⟨hx, hO⟩ := n.at
  have r := (n.rp.unguard n.nb n.no trivial).same (.of hx_le)
  have sub : Same (Hm H O) (Hm H (wo O x)) := hm_sub fun b z => (mem_wo.mp z).1
  have bv : BV K C H (wo O x) (.ref x) (.obj cn gs) := .obj (hm_mk (fun z => (mem_wo.mp z).2 rfl) hx) (fs_same sub n.fs)
  exact (r.back1 (s := .obj cn gs) rfl bv n.self (fun p hp => by cases hp)).rep
/-- a datum that was read while self stood still -/
theorem Nw.dat (n : Nw K C cn B O₀ H O δ σ x dx vs gs) (e : Sm C H H') {v : V} {d : PyData} (h : Dp K (Hm H' (wo O x)) v d) : Dp K (Hm H' O) v d := by
  obtain ⟨hx, hO⟩ := n.at
  refine dp_sq (fun a o q s => ?_) h
  obtain ⟨m, q'⟩ := hm_some q
  have ne : a ≠ x := fun z => by
    subst z
    rw [e.at hx] at q'
    cases q'
    exact s
  exact hm_mk (fun z => m (mem_wo.mpr ⟨z, ne⟩)) q' (hm_nt q)
theorem Nw.same (n : Nw K C cn B O₀ H O δ σ x dx vs gs) (e : Sm C H H') : Nw K C cn B O₀ H' O δ σ x dx vs gs :=
  ⟨n.rp.same e, n.nb, n.no, fs_same (hm_same e) n.fs, n.self, n.empty⟩
theorem lookup_app {α β : Type} [BEq α] {f : α} {x : β} : ∀ {l : List (α × β)} {g : α} {y : β}, (l ++ [(g, y)]).lookup f = some x → l.lookup f = some x ∨ (l.lookup f = none ∧ (f == g) = true ∧ y = x)
  | [], g, y, h => by
    simp only [List.nil_append, List.lookup_cons] at h
    cases q : f == g with
    | true => rw [q] at h; simp at h; exact .inr ⟨rfl, rfl, h⟩
    | false => rw [q] at h; simp at h
  | (a, b) :: l, g, y, h => by
    simp only [List.cons_append, List.lookup_cons] at h ⊢
    cases q : f == a with
    | true => rw [q] at h; exact .inl h
    | false => rw [q] at h; exact lookup_app h
/-- self.f = v -/
theorem Nw.put (n : Nw K C cn B O₀ H O δ σ x dx vs gs) {f : Str} {v : V} {d : PyData} (h : Dp K (Hm H O) v d) (hf : gs.lookup f = none) (hfl : f ∈ C.fl cn) :
    Nw K C cn B O₀ (upd H x (.ins (C.cls cn) dx (putF f v vs))) O δ σ x dx (putF f v vs) (gs ++ [(f, d)]) := by
  obtain ⟨hx, hO⟩ := n.at
  refine ⟨n.rp.write trivial trivial, n.nb, n.no, ?_, n.self, n.empty⟩
  rw [hm_upd hO]
  refine ⟨fun g y e => ?_, fun g w e => ?_⟩
  rotate_left
  · rw [lookup_putF] at e
    by_cases z : g = f
    · rw [z]; exact hfl
    · rw [if_neg z] at e; exact n.fs.2 g w e
  rw [lookup_putF]
  rcases lookup_app e with q | ⟨q, q2, q3⟩
  · have ne : g ≠ f := fun z => by subst z; rw [hf] at q; cases q
    rw [if_neg ne]
    exact n.fs.1 g y q
  · subst q3
    have : g = f := by simpa using q2
    rw [if_pos this]
    exact ⟨v, rfl, h⟩
end

/-! ### the statements of such an __init__ -/
inductive NR where
  | next (δ : Env) (gs : List (Str × PyData))
  | bad
/-- what such a row of statements makes of the slots and of self's fields -/
def tNw (K : PySem.W.Frag) (C : Cfg) (cn : Nat) (f : Env → List (Str × PyData) → NR) : TS := fun D σ H => ∃ B O₀ δ O x dx vs gs, Nw K C cn B O₀ H O δ σ x dx vs gs ∧ vs.length ≤ gs.length ∧ match f δ gs with
  | .next δ' gs' => ∀ σ' H' O' vs', Stay H O H' O' → Nw K C cn B O₀ H' O' δ' σ' x dx vs' gs' → vs'.length ≤ gs'.length → D.nx σ' H'
  | .bad => False
abbrev NS (X : Cx) (C : Cfg) (cn : Nat) (s : Stmt) (f : Env → List (Str × PyData) → NR) : Prop := PS X s (tNw X.K C cn f)
abbrev NSs (X : Cx) (C : Cfg) (cn : Nat) (s : List Stmt) (f : Env → List (Str × PyData) → NR) : Prop := PSs X s (tNw X.K C cn f)
section
variable {X : Cx} {C : Cfg} {cn : Nat} {e : Expr} {f : Env → R S} {u w : Env → List (Str × PyData) → NR} {pos : Pos} {st : Stmt} {rest : List Stmt}
def nSeq (u w : Env → List (Str × PyData) → NR) : Env → List (Str × PyData) → NR := fun δ gs => match u δ gs with
  | .next δ' gs' => w δ' gs'
  | .bad => .bad
theorem nss_cons (h1 : NS X C cn st u) (h2 : NSs X C cn rest w) : NSs X C cn (st :: rest) (nSeq u w) := by
  refine PSs.imp (pss_cons h1 h2) fun D σ H ⟨B, O₀, δ, O, x, dx, vs, gs, n, hle, h⟩ => ⟨B, O₀, δ, O, x, dx, vs, gs, n, hle, ?_⟩
  unfold nSeq at h
  cases eu : u δ gs with
  | bad => rw [eu] at h; exact h.elim
  | next δ' gs' =>
    rw [eu] at h
    intro σ' H' O' vs' st n' hle'
    refine ⟨B, O₀, δ', O', x, dx, vs', gs', n', hle', ?_⟩
    cases ew : w δ' gs' with
    | bad => simp only [ew] at h
    | next δ2 gs2 => simp only [ew] at h; exact fun σ2 H2 O2 vs2 s2 n2 l2 => h σ2 H2 O2 vs2 (st.trans s2) n2 l2
theorem nss_one (h1 : NS X C cn st u) : NSs X C cn [st] u := pss_one h1
/-- self.f = e -/
def nSet (f : Str) (cn : Nat) (fe : Env → R S) : Env → List (Str × PyData) → NR := fun δ gs => match fe (δ.set 0 (some (.obj cn gs))) with
  | .ok s => (match s.arg with
    | .ok (.d d) => (match decide (gs.lookup f = none) && decide (gs.length < 10) with
      | true => .next δ (gs ++ [(f, d)])
      | false => .bad)
    | _ => .bad)
  | _ => .bad
theorem ns_set {x : Str} {fd : Str} {p p' : Pos} (hcl : Cls X.K (C.cls cn)) (hna : NoAttr X.K (C.cls cn) fd) (hfl : fd ∈ C.fl cn) (he : DE X C W0 e f) (hN : X.N[0]? = some x := by rfl) (hv : Vis X.env.scope x := by first | exact Or.inl rfl | exact Or.inr (Or.inl rfl) | exact Or.inr (Or.inr rfl)) (hd : (x == ("__debug__" : Str)) = false := by decide)
    (hcd : (x == ("__classdict__" : Str)) = false := by decide) (hs : swapsWith e (some (.Attribute (.Name x p) fd p')) pos.line X.env = pure false := by rfl) :
    NS X C cn (.Assign [.Attribute (.Name x p) fd p'] e pos) (nSet fd cn f) := by
  refine PS.imp (ps_fld (pe_var (i := 0) hN hv hd hcd) he hs) fun D σ H ⟨B, O₀, δ, O, x0, dx, vs, gs, n, hle, h⟩ => ?_
  refine ⟨δ.set 0 (some (.obj cn gs)), wo O x0, n.rep, ?_⟩
  unfold nSet at h
  cases ef : f (δ.set 0 (some (.obj cn gs))) with
  | exc k p => rw [ef] at h; exact h.elim
  | bad => rw [ef] at h; exact h.elim
  | ok s =>
    simp only [ef] at h
    intro v H1 s1 bv fr
    have n1 := n.same s1
    refine ⟨.ref x0, n.self, ?_⟩
    cases ea : s.arg with
    | exc k p => exact (arg_ne s k p ea).elim
    | bad => simp only [ea] at h
    | ok z =>
      simp only [ea] at h
      cases z with
      | d d =>
        cases ec : (decide (gs.lookup fd = none) && decide (gs.length < 10)) with
        | false => simp only [ec] at h
        | true =>
          simp only [ec] at h
          simp only [Bool.and_eq_true, decide_eq_true_eq] at ec
          have hdat : Dp X.K (Hm H1 O) v d := by
            have b2 := bv_arg bv ea
            cases b2 with
            | d q => exact n.dat s1 q
          have n2 := n1.put (f := fd) (d := d) hdat ec.1 hfl
          refine ⟨x0, C.cls cn, dx, vs, rfl, n1.at.1, hcl, hna, by omega, h σ _ O _ ?_ n2 (by have := length_putF fd v vs; simp; omega)⟩
          rw [Stay, hm_upd n1.at.2]
          exact hm_same s1
      | l m ds => exact h.elim
      | k m ds => exact h.elim
      | obj c fs => exact h.elim
end
section
variable {K : PySem.W.Frag} {C : Cfg} {B H H' : Hp} {O₀ O O' : List Addr} {pn : List (Nat × Addr)} {δ : Env} {σ : St} {x c : Addr} {u w : HO}
theorem upd_comm (h : x ≠ c) : L2.upd (L2.upd B x u) c w = L2.upd (L2.upd B c w) x u := by
  funext a
  by_cases h1 : a = x
  · subst h1; rw [upd_ne h, upd_same, upd_same]
  · by_cases h2 : a = c
    · subst h2; rw [upd_same, upd_ne h1, upd_same]
    · rw [upd_ne h2, upd_ne h1, upd_ne h1, upd_ne h2]
theorem Rp.swap (h : x ≠ c) (r : Rp K C (L2.upd (L2.upd B x u) c w) (c :: x :: O₀) pn H O δ σ) : Rp K C (L2.upd (L2.upd B c w) x u) (x :: c :: O₀) pn H O δ σ := by
  rw [upd_comm h] at r
  have mm : ∀ b, b ∈ x :: c :: O₀ ↔ b ∈ c :: x :: O₀ := fun b => by
    simp only [List.mem_cons]
    constructor
    · rintro (q | q | q)
      · exact .inr (.inl q)
      · exact .inl q
      · exact .inr (.inr q)
    · rintro (q | q | q)
      · exact .inr (.inl q)
      · exact .inl q
      · exact .inr (.inr q)
  exact ⟨r.len, r.slot, r.uniq, fun i a s h o e => ⟨(r.ownB i a s h o e).1, (r.ownB i a s h o e).2.imp id fun q z => q ((mm a).mp z)⟩, r.dom, r.base, fun a h => r.sub a ((mm a).mp h), fun a h => (r.new a h).imp (mm a).mpr id, r.pin, r.tabs⟩
/-- one place more of one's own -/
theorem Rp.plus (r : Rp K C B O₀ pn H O δ σ) (hc : H c = none) (hu : Mut (some u)) : Rp K C B O₀ pn (L2.upd H c u) (c :: O) δ σ := by
  refine ⟨r.len, fun i s h => ?_, r.uniq, r.ownB, fun b hb => ?_, r.base.trans (same_new hc), fun b hb => List.mem_cons_of_mem _ (r.sub b hb), fun b hb => ?_, r.pin, (same_new (C := C) hc).ts r.tabs⟩
  · obtain ⟨q, v, ev, bv⟩ := r.slot i s h
    exact ⟨q, v, ev, bv_more bv (same_new hc) (.of hc) q⟩
  · rcases List.mem_cons.mp hb with rfl | hb
    · exact ⟨_, upd_same, hu⟩
    · exact r.dom.same (same_new (C := C) hc) b hb
  · rcases List.mem_cons.mp hb with rfl | hb
    · exact .inr (r.base.free (.of hc))
    · exact r.new b hb
theorem Rp.noOwn (r : Rp K C B O₀ pn H O δ σ) (hc : H c = none) : ∀ (j : Nat) s, δ[j]? = some (some s) → s.own = true → σ[j]? ≠ some (some (.ref c)) := fun j s h o e => by
  obtain ⟨_, v, ev, bv⟩ := r.slot j s h
  rw [e] at ev
  cases ev
  obtain ⟨a, ha, _, w, hw⟩ := own_ref bv o
  cases ha
  rw [hc] at hw; cases hw
end
/-- the rows of the last list -/
def colsL (i cn : Nat) (gs : List (Str × PyData)) (fe : Env → R S) : List PyData → Env → R (List PyData × Env)
  | [], δ => .ok ([], δ)
  | d :: ds, δ => do
    let s ← fe ((δ.set i (some (.d d))).set 0 (some (.obj cn gs)))
    let y ← s.pd
    let (r, δ') ← colsL i cn gs fe ds (δ.set i (some (.d d)))
    .ok (y :: r, δ')
def nCols (fd : Str) (cn i : Nat) (fi : Env → R (List PyData)) (fe : Env → R S) : Env → List (Str × PyData) → NR := fun δ gs => match fi (δ.set 0 (some (.obj cn gs))) with
  | .ok ds => (match colsL i cn gs fe ds δ with
    | .ok (rs, δ') => (match decide (gs.lookup fd = none) && decide (gs.length < 10) && decide (ds.length ≤ 1000000) with
      | true => .next δ' (gs ++ [(fd, .list rs)])
      | false => .bad)
    | _ => .bad)
  | _ => .bad
section
variable {X : Cx} {C : Cfg} {cn : Nat} {e iter tg : Expr} {f : Env → R S} {fi : Env → R (List PyData)} {pos : Pos}
theorem nss_cols (i : Nat) {x : Str} {fd : Str} {p p' pl pos1 q1 q2 q3 q4 q5 q6 : Pos} (hp : PassesOwn (model X.prog X.w) X.A X.env X.xe) (hc : X.calm = true) (hcl : Cls X.K (C.cls cn)) (hna : NoAttr X.K (C.cls cn) fd) (hfl : fd ∈ C.fl cn) (hi : DI X C W0 true tg iter fi) (hg : DG X C [] [i] tg (gN i)) (he : DE X C W0 e f) (hi0 : i ≠ 0 := by decide)
    (hN : X.N[0]? = some x := by rfl) (hv : Vis X.env.scope x := by first | exact Or.inl rfl | exact Or.inr (Or.inl rfl) | exact Or.inr (Or.inr rfl)) (hd : (x == ("__debug__" : Str)) = false := by decide) (hcd : (x == ("__classdict__" : Str)) = false := by decide)
    (hs : swapsWith (.List [] pl) (some (.Attribute (.Name x p) fd p')) pos1.line X.env = pure false := by rfl) (hb : attributeBase (.Name x q1) fd X.env (eval (.Name x q1) X.env) = eval (.Name x q1) X.env := by rfl)
    (hbase : attributeBase (.Attribute (.Name x q1) fd q2) "append" X.env (eval (.Attribute (.Name x q1) fd q2) X.env) = eval (.Attribute (.Name x q1) fd q2) X.env := by rfl)
    (hfew : ((backTo q4 (starEach [e] X.env)).all (fun x => !x.1) && (backToKw q4 (keywordEach [] X.env)).all (fun x => x.1.isSome)
      && decide (([e] : List Expr).length + ([] : List Keyword).length + (if ([] : List Keyword).isEmpty then 0 else 1) < 30)) = true := by rfl)
    (hline : (q3.endLine == q4.line) = true := by rfl) (hst : starEach (e :: []) X.env = (false, eval e X.env) :: starEach [] X.env := by rfl) (hplain : (backTo q4 (starEach [] X.env)).any (·.1) = false := by rfl)
    (hsw : swapsWith (.Call (.Attribute (.Attribute (.Name x q1) fd q2) "append" q3) [e] [] q4) none q5.line X.env = pure false := by rfl) (hfs : ∀ x, foldedSetIterable iter X.env x = pure x := by intro _; rfl) :
    NSs X C cn [.Assign [.Attribute (.Name x p) fd p'] (.List [] pl) pos1, .For tg iter [.Expr (.Call (.Attribute (.Attribute (.Name x q1) fd q2) "append" q3) [e] [] q4) q5] [] q6] (nCols fd cn i fi f) := by
  have body := pss_one (ps_expr (pos := q5) (pe_bm PySem.F.plainAttrs_list PySem.F.slot_list_append PySem.F.type_list_append mt_append (pe_fld (pos := q2) (pe_var (i := 0) (pos := q1) hN hv hd hcd) hb) (pa_cons he pa_nil hst) hbase hfew hline hst hplain) hsw)
  refine PSs.imp (pss_cons (ps_fld (pe_var (i := 0) hN hv hd hcd) (pe_lst pa_nil) hs) (pss_one (ps_for hp hc hi hg body hfs))) fun D σ H ⟨B, O₀, δ, O, x0, dx, vs, gs, n, hle, h⟩ => ?_
  unfold nCols at h
  cases ef : fi (δ.set 0 (some (.obj cn gs))) with
  | exc k p => simp only [ef] at h
  | bad => simp only [ef] at h
  | ok ds =>
  simp only [ef] at h
  cases ecl : colsL i cn gs f ds δ with
  | exc k p => simp only [ecl] at h
  | bad => simp only [ecl] at h
  | ok pr =>
  obtain ⟨rs, δe⟩ := pr
  simp only [ecl] at h
  cases ec : (decide (gs.lookup fd = none) && decide (gs.length < 10) && decide (ds.length ≤ 1000000)) with
  | false => simp only [ec] at h
  | true =>
  simp only [ec] at h
  simp only [Bool.and_eq_true, decide_eq_true_eq] at ec
  obtain ⟨⟨hf, hg10⟩, hlen⟩ := ec
  refine ⟨by show 0 ≤ sizeLine; exact Nat.zero_le _, fun c hcn => ?_⟩
  obtain ⟨hx, hxO⟩ := n.at
  have nxc : x0 ≠ c := ne_of_none hx hcn
  have ncO : c ∉ O := not_mem_dom n.rp.dom hcn
  have ncO₀ : c ∉ O₀ := fun z => ncO (n.rp.sub c (List.mem_cons_of_mem _ z))
  have hx1 : (L2.upd H c (.lst [])) x0 = some (.ins (C.cls cn) dx vs) := by rw [upd_ne nxc]; exact hx
  have nBc : Nn (L2.upd B x0 (.ins (C.cls cn) dx vs)) c := n.rp.base.free (.of hcn)
  refine ⟨.ref x0, n.self, x0, C.cls cn, dx, vs, rfl, hx1, hcl, hna, by omega, ?_⟩
  have look : (putF fd (.ref c) vs).lookup fd = some (.ref c) := by rw [lookup_putF, if_pos rfl]
  have N1 : Nw X.K C cn (L2.upd B c (.lst [])) (c :: O₀) (L2.upd (L2.upd H c (.lst [])) x0 (.ins (C.cls cn) dx (putF fd (.ref c) vs))) (c :: O) δ σ x0 dx (putF fd (.ref c) vs) gs := by
    have r1 := n.rp.plus (u := .lst []) hcn trivial
    have r2 := r1.guard (D := c) nBc upd_same trivial List.mem_cons_self (n.rp.noOwn hcn)
    have r3 := (r2.swap nxc).write (u' := .ins (C.cls cn) dx (putF fd (.ref c) vs)) trivial trivial
    refine ⟨r3, fun o e => n.nb o (by rw [upd_ne nxc] at e; exact e), by simp [nxc, n.no], ⟨fun g y eg => ?_, fun g w e => ?_⟩, n.self, n.empty⟩
    rotate_left
    · rw [lookup_putF] at e
      by_cases z : g = fd
      · rw [z]; exact hfl
      · rw [if_neg z] at e; exact n.fs.2 g w e
    obtain ⟨v, e1, dp⟩ := n.fs.1 g y eg
    have ne : g ≠ fd := fun z => by subst z; rw [hf] at eg; cases eg
    refine ⟨v, by rw [lookup_putF, if_neg ne]; exact e1, ?_⟩
    rw [hm_upd (List.mem_cons_of_mem _ hxO)]
    exact dp_same (hm_new hcn) dp
  have st0 : Stay H O (L2.upd (L2.upd H c (.lst [])) x0 (.ins (C.cls cn) dx (putF fd (.ref c) vs))) (c :: O) := by
    rw [Stay, hm_upd (List.mem_cons_of_mem _ hxO)]
    exact hm_new hcn
  refine ⟨δ.set 0 (some (.obj cn gs)), wo (c :: O) x0, N1.rep, ?_⟩
  rw [ef]
  intro J H1 s1 wk
  have N1' := N1.same s1
  refine ⟨fun i0 m σ' H' => m = ds.length - i0 ∧ i0 ≤ ds.length ∧ ∃ acc ys rs' δ' O', Nw X.K C cn (L2.upd B c (.lst acc)) (c :: O₀) H' O' δ' σ' x0 dx (putF fd (.ref c) vs) gs ∧ Stay H1 (c :: O) H' O' ∧ DpAll X.K (Hm H' O') acc ys ∧ ys.length ≤ i0 ∧ colsL i cn gs f (ds.drop i0) δ' = .ok (rs', δe) ∧ rs = ys ++ rs',
    ⟨ds.length, by simp, Nat.zero_le _, [], [], rs, δ, c :: O, N1', Stay.refl _ _, .nil, Nat.le_refl _, by simpa using ecl, by simp⟩, ?_⟩
  rintro i0 m σ' H' ⟨rfl, hi1, acc, ys, rs', δ', O', N, st, da, hy, ecl', ers⟩
  obtain ⟨hx', hxO'⟩ := N.at
  have hbc : (L2.upd (L2.upd B c (.lst acc)) x0 (.ins (C.cls cn) dx (putF fd (.ref c) vs))) c = some (.lst acc) := by rw [upd_ne (Ne.symm nxc), upd_same]
  have hc' : H' c = some (.lst acc) := N.rp.base.at hbc
  have hcO' : c ∈ O' := N.rp.sub c (by simp)
  have stw : Stay H1 (wo (c :: O) x0) H' (wo O' x0) := fun b o q => by
    obtain ⟨m, q'⟩ := hm_some q
    by_cases z : b = x0
    · subst z
      rw [N1'.at.1] at q'
      cases q'
      exact hm_mk (fun z => (mem_wo.mp z).2 rfl) hx'
    · obtain ⟨m2, q2⟩ := stay_out st (fun y => m (mem_wo.mpr ⟨y, z⟩)) q' (hm_nt q)
      exact hm_mk (fun y => m2 (mem_wo.mp y).1) q2 (hm_nt q)
  obtain ⟨w1, w2⟩ := wk i0 H' (wo O' x0) ⟨stw, fun z => nomatch z⟩ (fun a h => N.rp.dom a (mem_wo.mp h).1)
  have la := dpa_length da
  by_cases hlt : i0 < ds.length
  · obtain ⟨go, yl⟩ := w1 ds[i0] (List.getElem?_eq_getElem hlt)
    rw [List.drop_eq_getElem_cons hlt] at ecl'
    simp only [colsL] at ecl'
    obtain ⟨s, es, ecl'⟩ := bind_ok ecl'
    obtain ⟨y, ey, ecl'⟩ := bind_ok ecl'
    obtain ⟨⟨rs2, δ2⟩, er, ecl'⟩ := bind_ok ecl'
    cases ecl'
    refine .inr ⟨go, fun σ2 H2 => ∃ acc ys rs' δ' O', Nw X.K C cn (L2.upd B c (.lst acc)) (c :: O₀) H2 O' δ' σ2 x0 dx (putF fd (.ref c) vs) gs ∧ Stay H1 (c :: O) H2 O' ∧ DpAll X.K (Hm H2 O') acc ys ∧ ys.length ≤ i0 + 1 ∧ colsL i cn gs f (ds.drop (i0 + 1)) δ' = .ok (rs', δ2) ∧ rs = ys ++ rs',
      fun σ2 H2 q => ⟨_, by omega, rfl, hlt, q⟩, fun xv H3 yv => ?_⟩
    obtain ⟨s3, dp⟩ := yl xv H3 yv
    have N3 := N.same s3
    refine ⟨_, _, [], δ', O', ds[i0], rfl, N3.rp, N.dat s3 dp, ?_⟩
    intro σ2 rp2 hw
    have hσ : σ2[0]? = some (some (.ref x0)) := by
      have := hw [i] (fun j hj => hj)
      have q : (wipe σ2 [i])[0]? = (wipe σ' [i])[0]? := by rw [this]
      rw [wipe_get (by simp; omega), wipe_get (by simp; omega)] at q
      rw [q]; exact N.self
    have N4 : Nw X.K C cn (L2.upd B c (.lst acc)) (c :: O₀) H3 O' (δ'.set i (some (.d ds[i0]))) σ2 x0 dx (putF fd (.ref c) vs) gs :=
      ⟨rp2, N3.nb, N3.no, N3.fs, hσ, by rw [List.getElem?_set_ne hi0]; exact N3.empty⟩
    refine ⟨.ref x0, hσ, x0, C.cls cn, dx, putF fd (.ref c) vs, .ref c, rfl, N4.at.1, hcl, hna, look, .inl ⟨rfl, _, SqL.of (s3.at hc')⟩, ?_⟩
    refine ⟨_, wo O' x0, N4.rep, ?_⟩
    rw [es]
    intro v H5 s5 bv fr
    have N5 := N4.same s5
    have hc5 : H5 c = some (.lst acc) := s5.at (s3.at hc')
    refine ⟨c, acc, v, rfl, rfl, hc5, small_lineS (by omega), acc ++ [v], ys ++ [y], rs2, _, O', ?_, ?_, ?_, by simp; omega, er, by simp [ers]⟩
    · have r := ((N5.rp.swap (Ne.symm nxc)).write (u' := .lst (acc ++ [v])) trivial trivial).swap nxc
      refine ⟨r, fun o e => n.nb o (by rw [upd_ne nxc] at e; exact e), N5.no, ?_, N5.self, N5.empty⟩
      rw [hm_upd hcO']
      exact N5.fs
    · rw [Stay, hm_upd hcO']
      exact st.trans (Stay.of (s3.trans s5))
    · rw [hm_upd hcO']
      exact dpa_app (dpa_same (hm_same (s3.trans s5)) da) (.cons (N4.dat s5 (bv_pd bv ey)) .nil)
  · have e : i0 = ds.length := by omega
    refine .inl ⟨w2 e, ?_⟩
    subst e
    rw [List.drop_length] at ecl'
    cases ecl'
    rw [List.append_nil] at ers
    subst ers
    have nBc' : Nn (L2.upd B x0 (.ins (C.cls cn) dx (putF fd (.ref c) vs))) c := fun o e => by
      rw [upd_ne (Ne.symm nxc)] at e
      exact nBc o (by rw [upd_ne (Ne.symm nxc)]; exact e)
    have r := ((N.rp.swap (Ne.symm nxc)).unguard nBc' (by simp [Ne.symm nxc, ncO₀]) trivial).same (.of hx_le)
    have sub : Same (Hm H' O') (Hm H' (wo O' c)) := hm_sub fun b z => (mem_wo.mp z).1
    refine h σ' H' (wo O' c) _ (((st0.trans (Stay.of s1)).trans st).trans sub) ⟨r, n.nb, n.no, ⟨fun g y eg => ?_, N.fs.2⟩, N.self, N.empty⟩ (by have := length_putF fd (.ref c) vs; simp; omega)
    rcases lookup_app eg with q | ⟨q, q2, q3⟩
    · exact (fs_same sub N.fs).1 g y q
    · subst q3
      have : g = fd := by simpa using q2
      subst this
      exact ⟨.ref c, look, .lst (.inl (.inl (hm_mk (fun z => (mem_wo.mp z).2 rfl) hc'))) (dpa_same sub da)⟩
end
end DL

set_option Elab.async false
set_option linter.all false
set_option maxRecDepth 100000
set_option maxHeartbeats 2000000
/-! DL20: C(..) for an instance that stands still from then on; its methods. -/
namespace DL
open PySem PySem.Spec L2
def allD : List S → Bool
  | [] => true
  | .d _ :: r => allD r
  | _ => false
theorem allD_mem : ∀ {ss : List S}, allD ss = true → ∀ s ∈ ss, ∃ x, s = .d x
  | [], _, s, h => by cases h
  | t :: r, e, s, h => by
    unfold allD at e
    split at e
    · contradiction
    · rename_i x r' q
      cases q
      rcases List.mem_cons.mp h with rfl | h
      · exact ⟨_, rfl⟩
      · exact allD_mem e s h
    · cases e
/-- the promise of such an __init__ with n parameters beside self -/
def spI (K : PySem.W.Frag) (C : Cfg) (cn n : Nat) (m : List S → R (List (Str × PyData))) : Sp := fun vs H Q E => ∃ x dx as ss O, vs = .ref x :: as ∧ H x = some (.ins (C.cls cn) dx []) ∧ Dom H O ∧ x ∉ O ∧ LamX.Tabs C.T H ∧ as.length = n ∧ allD ss = true ∧ BVs K C H O as ss ∧ match m ss with
  | .ok gs => ∀ H' vs', (∀ a o, a ≠ x → H a = some o → NT o → H' a = some o) → LamX.Tabs C.T H' → H' x = some (.ins (C.cls cn) dx vs') → FsAll K (C.fl cn) (Hm H' O) vs' gs → Q .non H'
  | _ => False
def finN : NR → R (List (Str × PyData))
  | .next _ gs => .ok gs
  | .bad => .bad
def entryN (n : Nat) (as : List S) : Env := none :: (as.map some ++ List.replicate (n - 1 - as.length) none)
theorem init_core {K : PySem.W.Frag} {C : Cfg} {cn n : Nat} {N : List Str} {body : Env → List (Str × PyData) → NR} {vs : List V} {H : Hp} {Q : VK} {E : XK} (h : spI K C cn n (fun as => finN (body (entryN N.length as) [])) vs H Q E) (hn : n + 1 ≤ N.length) :
    tNw K C cn body { nx := fun _ H' => Q .non H', rt := Q } (L2.start N vs) H := by
  obtain ⟨x, dx, as, ss, O, rfl, hx, hd, hxO, htb, hl, hall, bvs, post⟩ := h
  have ls := bvs_length bvs
  have el : L2.start N (.ref x :: as) = some (.ref x) :: (as.map some ++ List.replicate (N.length - 1 - as.length) none) := by
    show (V.ref x :: as).map some ++ List.replicate (N.length - (V.ref x :: as).length) none = _
    simp [Nat.sub_sub, Nat.add_comm]
  have get : ∀ (i : Nat) s, (entryN N.length ss)[i]? = some (some s) → (∃ d, s = .d d) ∧ ∃ v, (L2.start N (.ref x :: as))[i]? = some (some v) ∧ BV K C H O v s := by
    intro i s h
    cases i with
    | zero => simp [entryN] at h
    | succ i =>
      simp only [entryN, List.getElem?_cons_succ] at h
      by_cases hi : i < ss.length
      · rw [List.getElem?_append_left (by simpa using hi), List.getElem?_map] at h
        cases e : ss[i]? with
        | none => rw [e] at h; cases h
        | some s' =>
          rw [e] at h
          cases h
          obtain ⟨v, ev, bv⟩ := bvs_get bvs e
          refine ⟨allD_mem hall _ (List.mem_of_getElem? e), v, ?_, bv⟩
          rw [el, List.getElem?_cons_succ, List.getElem?_append_left (by simp; omega), List.getElem?_map, ev]
          rfl
      · rw [List.getElem?_append_right (by simpa using hi), List.getElem?_replicate] at h
        split at h <;> cases h
  have hB : L2.upd (Hx H [x]) x (.ins (C.cls cn) dx []) = H := by
    funext a
    by_cases z : a = x
    · subst z; rw [upd_same, hx]
    · rw [upd_ne z, hx_out (by simp [z])]
  have rp : Rp K C (L2.upd (Hx H [x]) x (.ins (C.cls cn) dx [])) (x :: O) [] H (x :: O) (entryN N.length ss) (L2.start N (.ref x :: as)) := by
    rw [hB]
    refine ⟨?_, fun i s h => ?_, fun i j a s t h1 h2 o1 o2 e1 e2 => ?_, fun i a s h o e => ?_, fun b hb => ?_, Sm.refl H, fun a h => h, fun a h => .inl h, fun p hp => (by cases hp), htb⟩
    · rw [el]; simp [entryN, ls]
    · obtain ⟨⟨d, rfl⟩, v, ev, bv⟩ := get i s h
      refine ⟨.inl rfl, v, ev, ?_⟩
      cases bv with
      | d q =>
        refine .d (dp_sq (fun a o e sq => ?_) q)
        obtain ⟨m, e'⟩ := hm_some e
        have ne : a ≠ x := fun z => by subst z; rw [hx] at e'; cases e'; exact sq
        exact hm_mk (by simp [ne, m]) e' (hm_nt e)
    · obtain ⟨⟨d, rfl⟩, _⟩ := get i s h1; cases o1
    · obtain ⟨⟨d, rfl⟩, _⟩ := get i s h; cases o
    · rcases List.mem_cons.mp hb with rfl | hb
      · exact ⟨_, hx, trivial⟩
      · exact hd b hb
  refine ⟨Hx H [x], O, _, x :: O, x, dx, [], [], ⟨rp, .of (hx_in (by simp)), hxO, ⟨fun f y e => (by cases e), fun f v e => (by cases e)⟩, by rw [el]; rfl, rfl⟩, Nat.le_refl _, ?_⟩
  have post : match finN (body (entryN N.length ss) []) with
    | .ok gs => ∀ H' vs', (∀ a o, a ≠ x → H a = some o → NT o → H' a = some o) → LamX.Tabs C.T H' → H' x = some (.ins (C.cls cn) dx vs') → FsAll K (C.fl cn) (Hm H' O) vs' gs → Q .non H'
    | _ => False := post
  cases eb : body (entryN N.length ss) [] with
  | bad => rw [eb] at post; exact post.elim
  | next δ' gs' =>
    rw [eb] at post
    intro σ' H' O' vs' st n' _
    refine post H' vs' (fun a o ne e nt => n'.rp.base.kp a o (by rw [upd_ne ne, hx_out (by simp [ne])]; exact e) nt) n'.rp.tabs n'.at.1 (fs_same (hm_sub fun b z => n'.rp.sub b (List.mem_cons_of_mem _ z)) n'.fs)
/-- the class x: how its instances are made -/
def CalI (P : Program) (w : World) (K : PySem.W.Frag) (mg : Str → Option Value) (base : Heap) (C : Cfg) (k cn : Nat) (x : Str) (ps : List Str) (sp : Sp) : Prop :=
  ∃ f fd, Mk K (C.cls cn) f ∧ mg x = some (.ref (C.cls cn)) ∧ FnOk P w K mg base (L2.CX P w) k f fd ps sp ∧ Binds K fd ps []
theorem cali_of {P : Program} {w : World} {K : PySem.W.Frag} {mg : Str → Option Value} {base : Heap} {C : Cfg} {cn : Nat} {x qual : Str} {st : Stmt} {f : Addr} {fd : FuncData} {N ps : List Str} {self : Str} {k : Nat} {body : Env → List (Str × PyData) → NR} (M : Mk K (C.cls cn) f) (hm : mg x = some (.ref (C.cls cn))) (F : L2.Fun K "__init__" qual st f fd)
    (hb : ∀ (kV doc pm : Value) (an : Option Addr) (cdv ct : Value) (us : List Value), us.length = (self :: ps).length → bindArgs (PySem.W.fnOf "__init__" qual (defArgs st) (defBody st) (defScope st) .none kV doc pm an cdv ct) ⟨us, []⟩ = pure ((self :: ps).zip us))
    (Sc : FnScope N (self :: ps) (defScope st))
    (hbody : ∀ (cdv : Value) (A : Around) (outer : List PySem.Env) (s : Shared) (H : Hp) (E : XK), Room k (A.deeper (PyProof.Rows.envOfC qual (defScope st) s.heap.objs.size f cdv)) →
      NSs (cxOf (L2.CX P w) P w K mg base N qual (defScope st) f cdv A outer s H E) C cn (defBody st) body) :
    CalI P w K mg base C (k + 1) cn x (self :: ps) (spI K C cn ps.length fun as => finN (body (entryN N.length as) [])) := by
  have hn : ps.length + 1 ≤ N.length := by
    have := congrArg List.length Sc.pre
    simp at this
    omega
  refine ⟨f, fd, M, hm, F.okX Sc (fun vs H Q E h => ?_) (fun cdv A outer s H vs Q E hr h => ⟨_, hbody cdv A outer s H E hr, init_core h hn⟩), F.binds hb⟩
  obtain ⟨x, dx, as, ss, O, rfl, _, _, _, _, hl, _⟩ := h
  simp [hl]
section
variable {X : Cx} {C : Cfg} {W : WX} {io : List Nat} {e o : Expr} {es : List Expr} {fo : Env → R S} {fs : Env → R (List S)} {xa : XA} {pos p : Pos} {k j n cn : Nat} {x : Str} {ps : List Str} {m : List S → R (List (Str × PyData))}
def kMake (cn n : Nat) (m : List S → R (List (Str × PyData))) (fs : Env → R (List S)) : Env → R S := fun δ => do
  let ss ← fs δ
  let as ← argsS ss
  chk (decide (as.length = n) && allD as) (do let gs ← noX (m as); .ok (.obj cn gs))
theorem passE0 : Passes (L2.CX X.prog X.w) X E0 := passes_call takes0 fun _ _ _ _ h => h
theorem de_make (c : CalI X.prog X.w X.K X.mg X.base C k cn x ps (spI X.K C cn n m)) (hr : Room j X.A) (hj : k + 1 ≤ j) (hg : Gl X x) (ha : DA X C W (e :: es) fs) (hdb : (x == ("__debug__" : Str)) = false := by decide)
    (he : starEach (e :: es) X.env = (false, eval e X.env) :: starEach es X.env := by rfl) (hpl : (backTo pos (starEach es X.env)).any (·.1) = false := by rfl) : DE X C W (.Call (.Name x p) (e :: es) [] pos) (kMake cn n m fs) := by
  obtain ⟨f, fd, M, hm, F, hb⟩ := c
  refine PE.imp (pe_make M F (hr.mono hj) hg hm hb .nil passE0 ha hdb he hpl) fun σ H Q ⟨δ, O, rep, w⟩ => ?_
  refine seqA (PQ := Post X.K C W σ H O Q) rep w (fun k p q => q) (fun q => q) fun ss e q vs H1 s1 bvs => ?_
  cases es : argsS ss with
  | exc k p => exact (args_ne ss k p es).elim
  | bad => rw [es] at q; exact q.elim
  | ok as =>
    rw [es] at q
    simp only [R.ok_bind] at q
    cases ec : (decide (as.length = n) && allD as) with
    | false => rw [ec] at q; exact q.elim
    | true =>
      rw [ec, chk_true] at q
      simp only [Bool.and_eq_true, decide_eq_true_eq] at ec
      have b2 := bvs_args bvs es
      intro x0 dx hx hdx hne
      rw [List.append_nil]
      have rep1 := rep.same s1
      have sd : Same H1 (L2.upd (L2.upd H1 dx (.own x0)) x0 (.ins (C.cls cn) dx [])) := fun a o q => by
        rw [upd_ne (ne_of_none q hx), upd_ne (ne_of_none q hdx)]; exact q
      have s2 : Sm C H1 (L2.upd (L2.upd H1 dx (.own x0)) x0 (.ins (C.cls cn) dx [])) := .of sd
      refine ⟨x0, dx, vs, as, O, rfl, upd_same, rep1.dom.same s2, not_mem_dom rep1.dom hx, s2.ts rep1.tabs, (bvs_length b2).trans ec.1, ec.2, bvs_same s2 b2, ?_⟩
      cases em : m as with
      | exc k p => rw [em] at q; exact q.elim
      | bad => rw [em] at q; exact q.elim
      | ok gs =>
        rw [em] at q
        intro H' vs' hk ht hx' hf
        refine ⟨rfl, q _ H' (s1.trans ⟨fun a o q n => hk a o (ne_of_none q hx) (sd a o q) n, fun _ => ht⟩) (.obj (hm_mk (not_mem_dom rep1.dom hx) hx') hf) trivial⟩

/-! ### methods of an instance that stands still -/
def CalM (P : Program) (w : World) (K : PySem.W.Frag) (mg : Str → Option Value) (base : Heap) (C : Cfg) (k cn : Nat) (m : Str) (ps : List Str) (sp : Sp) : Prop :=
  ∃ f fd, Meth K (C.cls cn) m f ∧ FnOk P w K mg base (L2.CX P w) k f fd ps sp ∧ Binds K fd ps []
theorem calm_of {P : Program} {w : World} {K : PySem.W.Frag} {mg : Str → Option Value} {base : Heap} {C : Cfg} {cn : Nat} {m qual : Str} {st : Stmt} {f : Addr} {fd : FuncData} {N ps : List Str} {k : Nat} {body : Env → SR} (M : Meth K (C.cls cn) m f) (F : L2.Fun K m qual st f fd)
    (hb : ∀ (kV doc pm : Value) (an : Option Addr) (cdv ct : Value) (us : List Value), us.length = ps.length → bindArgs (PySem.W.fnOf m qual (defArgs st) (defBody st) (defScope st) .none kV doc pm an cdv ct) ⟨us, []⟩ = pure (ps.zip us)) (Sc : FnScope N ps (defScope st))
    (hbody : ∀ (cdv : Value) (A : Around) (outer : List PySem.Env) (s : Shared) (H : Hp) (E : XK), Room k (A.deeper (PyProof.Rows.envOfC qual (defScope st) s.heap.objs.size f cdv)) →
      DSs (cxOf (L2.CX P w) P w K mg base N qual (defScope st) f cdv A outer s H E) C (WF E) [] (defBody st) body) :
    CalM P w K mg base C (k + 1) cn m ps (spD K C ps.length fun as => fin (body (entry N.length as))) := ⟨f, fd, M, def_ok F Sc hbody, F.binds hb⟩
def kMeth (cn n : Nat) (mm : List S → R S) (fo : Env → R S) (fs : Env → R (List S)) : Env → R S := fun δ => do
  let s ← fo δ
  match s with
  | .obj c gs => chk (decide (c = cn)) (do
    let ss ← fs δ
    let as ← argsS ss
    chk (decide (as.length + 1 = n)) (noX (mm (.obj c gs :: as))))
  | _ => .bad
theorem de_meth {mt : Str} {apos : Pos} {mm : List S → R S} {pl : Sem Bool} (c : CalM X.prog X.w X.K X.mg X.base C k cn mt ps (spD X.K C n mm)) (hcl : Cls X.K (C.cls cn)) (hfl : mt ∉ C.fl cn) (hr : Room j X.A) (hj : k ≤ j) (ho : DE X C W o fo) (ha : DA X C W (e :: es) fs)
    (hst : starEach (e :: es) X.env = (false, eval e X.env) :: starEach es X.env := by rfl) (hpl : (backTo pos (starEach es X.env)).any (·.1) = false := by rfl)
    (ht : eval (.Call (.Attribute o mt apos) (e :: es) [] pos) X.env = (do
      let ov ← eval o X.env
      standAt apos.atName
      let (f, first) ← holding [ov] (getMethod ov mt pl)
      callWith pos f first (backTo pos (starEach (e :: es) X.env)) (backToKw pos (keywordEach [] X.env))) := by rfl) : DE X C W (.Call (.Attribute o mt apos) (e :: es) [] pos) (kMeth cn n mm fo fs) := by
  obtain ⟨f, fd, M, F, hb⟩ := c
  refine PE.imp (pe_meth ho hcl M F (hr.mono hj) hb .nil passE0 ha hst hpl ht) fun σ H Q ⟨δ, O, rep, w⟩ => ?_
  refine seq1 (PQ := Post X.K C W σ H O Q) rep w (fun k p q => q) (fun q => q) fun s e q v H1 s1 bv fr => ?_
  cases s with
  | d x => exact q.elim
  | l m ds => exact q.elim
  | k m ds => exact q.elim
  | obj c gs =>
    simp only at q
    cases ecn : decide (c = cn) with
    | false => rw [ecn] at q; exact q.elim
    | true =>
      rw [ecn, chk_true] at q
      have := of_decide_eq_true ecn
      subst this
      have bv0 := bv
      cases bv with
      | @obj a dx _ vs _ h1 h2 =>
        have nf : vs.lookup mt = none := by
          cases q : vs.lookup mt with
          | none => rfl
          | some v => exact (hfl (h2.2 mt v q)).elim
        refine ⟨a, dx, vs, rfl, hm_le _ _ h1, nf, ?_⟩
        refine seqA (PQ := Post X.K C W σ H1 O Q) (rep.same s1) (g := fun ss => (do let as ← argsS ss; chk (decide (as.length + 1 = n)) (noX (mm (.obj c gs :: as))))) (post_mono s1 q) (fun k p q => q) (fun q => q) fun ss e' q' ws H2 s2 bvs => ?_
        cases es : argsS ss with
        | exc k p => exact (args_ne ss k p es).elim
        | bad => rw [es] at q'; exact q'.elim
        | ok as =>
          rw [es] at q'
          simp only [R.ok_bind] at q'
          cases ec : decide (as.length + 1 = n) with
          | false => rw [ec] at q'; exact q'.elim
          | true =>
            rw [ec, chk_true] at q'
            have b2 := bvs_args bvs es
            have rep2 := (rep.same s1).same s2
            rw [List.append_nil]
            refine ⟨.obj c gs :: as, O, rep2.dom, rep2.tabs, by have := of_decide_eq_true ec; have := bvs_length b2; simp; omega, fun s h => ?_, .cons (bv_same s2 bv0) b2, ?_⟩
            · rcases List.mem_cons.mp h with rfl | h
              · rfl
              · exact args_still es s h
            · cases em : mm (.obj c gs :: as) with
              | exc k p => rw [em] at q'; exact q'.elim
              | bad => rw [em] at q'; exact q'.elim
              | ok z => rw [em] at q'; exact fun v H' a b c => q' v H' (s2.trans a) b (c.back s2)
end
end DL
namespace DL
open PySem PySem.Spec L2
/-- the def x hosts lambdas: its code object, its table -/
def HostL (base : Heap) (mg : Str → Option Value) (C : Cfg) (x : Str) (cdv : Value) : Prop := ∃ c P, cdv = .ref c ∧ LamX.TabB base mg c P ∧ (P, x ++ ".<locals>." ++ "<lambda>") ∈ C.T ∧ ∀ p ∈ C.T, p.1 = P → p.2 = x ++ ".<locals>." ++ "<lambda>"
end DL

set_option Elab.async false
set_option linter.all false
set_option maxRecDepth 100000
set_option maxHeartbeats 1000000
/-! DL21: xs[::-1] of tuples and lists. -/
namespace DL
open PySem PySem.Spec L2 PyProof PyProof.Rows
section
variable {prog : Program} {w : World} {A : Around} {E : Value → Shared → Prop} {s : Shared}
theorem filterMap_on {α β : Type} {f g : α → Option β} : ∀ {l : List α}, (∀ x ∈ l, f x = g x) → l.filterMap f = l.filterMap g
  | [], _ => rfl
  | x :: l, h => by
    simp only [List.filterMap_cons, h x List.mem_cons_self, filterMap_on (fun y hy => h y (List.mem_cons_of_mem _ hy))]
theorem pick_back (xs : Array Value) : ((List.range xs.size).filterMap fun (m : Nat) => xs[(((xs.size : Int) - 1) + (m : Int) * (-1)).toNat]?).toArray = xs.toList.reverse.toArray := by
  have e : (List.range xs.size).filterMap (fun (m : Nat) => xs[(((xs.size : Int) - 1) + (m : Int) * (-1)).toNat]?) = (List.range xs.size).filterMap ((xs[·]?) ∘ fun k => xs.size - 1 - k) := by
    refine filterMap_on fun m hm => ?_
    have hm := List.mem_range.mp hm
    have : (((xs.size : Int) - 1) + (m : Int) * (-1)).toNat = xs.size - 1 - m := by omega
    rw [this]; rfl
  rw [e, ← List.filterMap_map, PySem.W.krv_range, List.filterMap_reverse, PySem.W.krv_all]
theorem rev_applied {sl : Addr} {vs : Value} {n : Nat} {Q : Int × Int × Nat → Shared → Prop} (hs : s.heap.IsSliceOf sl .none .none vs) (ps : IsPart vs (some (-1)))
    (h : Q ((n : Int) - 1, -1, n) s) : wpAny (model prog w) A (Builtin.Slice.sliceApplied (.ref sl) (pure (n : Int))) Q E s := by
  obtain ⟨os, hos, hcs, hds⟩ := id hs
  unfold Builtin.Slice.sliceApplied Builtin.Slice.sliceFields
  refine wpAny_bind (wpAny_bind (wpAny_field hos hds (x := .none) rfl (wpAny_bind (wpAny_field hos hds (x := .none) rfl (wpAny_bind (wpAny_field hos hds (x := vs) rfl (wpAny_pure ?_)))))))
  refine wpAny_bind (HT.slicePart_ ps ?_)
  show wpAny _ _ (if ((-1 : Int) == 0) = true then _ else _) _ _ s
  rw [if_neg (by decide)]
  refine wpAny_bind (PyProof.Rows.slicePart_none (wpAny_bind (PyProof.Rows.slicePart_none (wpAny_bind (wpAny_pure ?_)))))
  show wpAny _ _ (match Builtin.Slice.sliceAdjust none none (-1) (n : Int) with | (lo, hi) => pure (lo, (-1 : Int), Builtin.Slice.slicePlaces lo hi (-1))) _ _ s
  have e1 : Builtin.Slice.sliceAdjust none none (-1) (n : Int) = ((n : Int) - 1, -1) := rfl
  rw [e1]
  show wpAny _ _ (pure ((n : Int) - 1, (-1 : Int), Builtin.Slice.slicePlaces ((n : Int) - 1) (-1) (-1))) _ _ s
  have e2 : Builtin.Slice.slicePlaces ((n : Int) - 1) (-1) (-1) = n := by
    unfold Builtin.Slice.slicePlaces
    have h1 : ¬ ((-1 : Int) > 0) := by omega
    have h2 : ((n : Int) - 1 - -1 - 1) / (- -1) = (n : Int) - 1 := by rw [show (- -1 : Int) = 1 by decide, Int.ediv_one]; omega
    simp only [h1, if_false, h2]
    split <;> omega
  rw [e2]
  exact wpAny_pure h
theorem getItem_tuple_back {t sl : Addr} {items : Array Value} {vs : Value} {Q : Value → Shared → Prop} (ht : IsTup s.heap t items) (hs : s.heap.IsSliceOf sl .none .none vs) (ps : IsPart vs (some (-1)))
    (h : Q (.ref s.heap.objs.size) { s with heap := s.heap.push { cls := .type "tuple", data := .seq items.toList.reverse.toArray } })
    (hsz : items.size ≤ sizeLine) : wpAny (model prog w) A (getItem (.ref t) (.ref sl)) Q E s := by
  have htake : sizeOk (.seq items.toList.reverse.toArray) := by
    show items.toList.reverse.toArray.size ≤ sizeLine
    rw [List.size_toArray, List.length_reverse, Array.length_toList]
    exact hsz
  obtain ⟨os, hos, hcs, hds⟩ := id hs
  have hTs : s.TypeIs (.ref sl) "slice" := ⟨os, hos, hcs⟩
  unfold getItem
  try with_reducible refine wpAny_holding ?_
  first | refine wpAny_bind (wpAny_pure ?_) | skip
  refine wpAny_bind (wpAny_sequenceKey ht.typeIs (by decide) ?_)
  refine wpAny_bind (wpAny_callSpecial?_slot (name := Str.ofString "__getitem__") ht.typeIs PyProof.Rows.slot_tuple_getitem
    (wpAny_call_entry PyProof.Rows.slot_tuple_getitem ht.typeIs PyProof.Rows.entry_tuple_getitem ?_ (PyProof.Rows.args_tuple_getitem _ _)))
  show wpAny _ _ (Builtin.Tuple.tupleItemsOf (.ref t) >>= _) _ _ s
  refine wpAny_bind (PyProof.Rows.tupleItemsOf_ ht ?_)
  refine wpAny_bind (wpAny_typeOf hTs ?_)
  rw [if_pos (by decide)]
  refine wpAny_bind (rev_applied hs ps ?_)
  show wpAny _ _ (if ((items.size : Int) - 1 == 0 && (-1 : Int) == 1 && items.size == items.size) = true then _ else _) _ _ s
  rw [show ((items.size : Int) - 1 == 0 && (-1 : Int) == 1 && items.size == items.size) = false by simp, if_neg Bool.false_ne_true, pick_back]
  first
    | exact wpAny_bind (m := Builtin.Tuple.tupleExact _) (wpAny_newObj_type (wpAny_pure ⟨_, rfl, wpAny_pure h⟩) htake)
    | exact wpAny_bind (m := Builtin.Tuple.tupleExact _) (wpAny_newObj_type (wpAny_bind (wpAny_pure (wpAny_pure ⟨_, rfl, wpAny_pure h⟩))) htake)
    | exact wpAny_bind (wpAny_bind (m := Builtin.Tuple.tupleExact _) (wpAny_newObj_type (wpAny_pure (wpAny_pure ⟨_, rfl, wpAny_pure h⟩)) htake))
    | exact wpAny_bind (wpAny_bind (m := Builtin.Tuple.tupleExact _) (wpAny_newObj_type (wpAny_pure ⟨_, rfl, wpAny_pure h⟩) htake))
end
section
variable {X : Cx} {C : Cfg} {W : WX} {a : Expr} {f : Env → R S} {pos : Pos}
def tRevA (K : PySem.W.Frag) (te : TE) : TE := fun σ H Q => te σ H fun x H1 => ∃ a xs, x = .ref a ∧
  ((SqL K H1 a xs ∧ ∀ p, H1 p = none → Q (.ref p) (L2.upd H1 p (.lst xs.reverse))) ∨ (SqT K H1 a xs ∧ ∀ p, H1 p = none → Q (.ref p) (L2.upd H1 p (.tup xs.reverse))))
theorem pe_revA {e : Expr} {te : TE} {k : Nat} {p1 p2 p3 pos : Pos} (he : PE X e te) : PE X (.Subscript e (.Slice none none (some (.UnaryOp .USub (.Constant (.int 1) k p1) p2)) p3) pos) (tRevA X.K te) := by
  refine ⟨fun pins s σ H Q I h => ?_⟩
  refine Subscript_ (thn (he.run pins s σ H _ I h) fun v s1 ⟨x, H1, I1, r1, q1⟩ => ?_)
  obtain ⟨a, xs, ex, q⟩ := q1
  subst ex
  cases r1
  have hst : PO X (some (.UnaryOp .USub (.Constant (.int 1) k p1) p2)) (tPart (tUn (rU fun i => .int (-i)) (tC (.int 1)))) := po_some (pe_un un_neg pe_int)
  refine wpAny_Slice (thn (po_none.run pins s1 σ H1 (fun o H2 => o = none ∧ H2 = H1) I1 ⟨rfl, rfl⟩) fun vl s2 ⟨l, H2, I2, pl, el, e2⟩ => ?_)
  subst el e2
  refine thn (po_none.run pins s2 σ H2 (fun o H3 => o = none ∧ H3 = H2) I2 ⟨rfl, rfl⟩) fun vu s3 ⟨u, H3, I3, pu, eu, e3⟩ => ?_
  subst eu e3
  refine thn (hst.run pins s3 σ H3 (fun o H4 => o = some (-1) ∧ H4 = H3) I3 ⟨1, rfl, -1, rfl, rfl, rfl⟩) fun vs s4 ⟨o, H4, I4, ps, eo, e4⟩ => ?_
  subst eo e4
  cases pl
  cases pu
  have I5 : Inv X pins σ H4 { s4 with heap := s4.heap.push { cls := .type "slice", data := .fields #[.none, .none, vs] } } := I4.kept (t' := s4.toks) fun b ob q => Heap.get?_push_of_some _ q
  show wpAny (model X.prog X.w) X.A (subscriptTail e (.Slice none none (some (.UnaryOp .USub (.Constant (.int 1) k p1) p2)) p3) (.ref a) (.ref s4.heap.objs.size)) (EP X pins σ Q) X.xe { s4 with heap := s4.heap.push { cls := .type "slice", data := .fields #[.none, .none, vs] } }
  rcases q with ⟨hx, q⟩ | ⟨hx, q⟩
  · obtain ⟨its, r, ht, hz⟩ := I5.list hx
    have hlen := r.length
    refine tail_any (ops := [.ref a, .ref s4.heap.objs.size]) ht.isList.typeIs (slot_list_getitem.lookup) ?_ (by with_unfolding_all rfl)
    refine wpAny_getItem_list_slice ht.isList (Heap.IsSliceOf.new _ .none .none vs) .none .none ps (by decide) ?_ (by rw [List.size_toArray]; omega)
    rw [PySem.W.krv_pick]
    refine ⟨.ref _, _, I5.laid (t' := s4.toks) (o := .lst xs.reverse) (fun b ob q => Heap.get?_push_of_some _ q) (Nat.le_refl _) ?_, rfl, q _ (I5.hok.fresh (Nat.le_refl _))⟩
    exact ⟨by rw [List.length_reverse]; exact hz, _, 0, r.reverse, Heap.get?_push_size _ rfl⟩
  · obtain ⟨its, r, ht, hz⟩ := I5.tuple hx
    have hlen := r.length
    refine tail_any (ops := [.ref a, .ref s4.heap.objs.size]) ht.typeIs (PyProof.Rows.slot_tuple_getitem.lookup) ?_ (by with_unfolding_all rfl)
    refine getItem_tuple_back ht (Heap.IsSliceOf.new _ .none .none vs) ps ?_ (by rw [List.size_toArray]; omega)
    refine ⟨.ref _, _, I5.laid (t' := s4.toks) (o := .tup xs.reverse) (fun b ob q => Heap.get?_push_of_some _ q) (Nat.le_refl _) ?_, rfl, q _ (I5.hok.fresh (Nat.le_refl _))⟩
    exact ⟨by rw [List.length_reverse]; exact hz, _, r.reverse, IsTup.new _ _⟩
def revA (s : S) : R S := match s with
  | .d (.tuple ds) => .ok (.d (.tuple ds.reverse))
  | s => revS s
theorem de_rev {k : Nat} {p1 p2 p3 : Pos} (ha : DE X C W a f) : DE X C W (.Subscript a (.Slice none none (some (.UnaryOp .USub (.Constant (.int 1) k p1) p2)) p3) pos) (kU revA f) := by
  refine PE.imp (pe_revA ha) fun σ H Q ⟨δ, O, rep, w⟩ => ?_
  refine seq1 (PQ := Post X.K C W σ H O Q) rep w (fun k p q => q) (fun q => q) fun s e q v H1 s1 bv fr => ?_
  by_cases hs : ∃ ds, s = .d (.tuple ds)
  · obtain ⟨ds, rfl⟩ := hs
    obtain ⟨a, xs, rfl, h, _, r⟩ := bv_tup bv
    exact ⟨a, xs, rfl, .inr ⟨h, fun p hp => q _ _ (s1.trans (same_new hp)) (bv_newT (rep.same s1).dom hp (dpa_rev r)) trivial⟩⟩
  · have e : revA s = revS s := by
      unfold revA
      split
      · exact (hs ⟨_, rfl⟩).elim
      · rfl
    rw [e] at q
    unfold revS at q
    cases er : s.lst with
    | exc k p => exact (lst_ne s k p er).elim
    | bad => rw [er] at q; exact q.elim
    | ok ds =>
      rw [er] at q
      obtain ⟨a, xs, rfl, h, r⟩ := bv_lst bv er
      exact ⟨a, xs, rfl, .inl ⟨h, fun p hp => q _ _ (s1.trans (same_new hp)) (bv_newL (rep.same s1).dom hp (dpa_rev r)) ⟨p, rfl, s1.free (.of hp)⟩⟩⟩
end
end DL

set_option Elab.async false
set_option linter.all false
set_option maxRecDepth 100000
set_option maxHeartbeats 1000000
/-! DL22: comprehensions of two clauses. -/
namespace DL
open PySem PySem.Spec L2
def compL2 (g : PyData → Env → R Env) (t : Env → R Bool) (fi1 : Env → R (List PyData)) (g1 : PyData → Env → R Env) (t1 : Env → R Bool) (f : Env → R S) (vs1 : List Nat) (δ : Env) : List PyData → R (List PyData)
  | [] => .ok []
  | d :: ds => do
    let δ1 ← g d δ
    let c ← t δ1
    if c then do
      let es ← fi1 δ1
      let xs ← compL g1 t1 f (wipeD δ1 vs1) es
      let r ← compL2 g t fi1 g1 t1 f vs1 δ ds
      .ok (xs ++ r)
    else compL2 g t fi1 g1 t1 f vs1 δ ds
def kComp2 (fi : Env → R (List PyData)) (g : PyData → Env → R Env) (t : Env → R Bool) (fi1 : Env → R (List PyData)) (g1 : PyData → Env → R Env) (t1 : Env → R Bool) (f : Env → R S) (vs vs1 : List Nat) : Env → R S := fun δ => do
  let ds ← fi δ
  let xs ← noX (compL2 g t fi1 g1 t1 f vs1 (wipeD δ vs) ds)
  chk (decide (xs.length ≤ 1000000)) (.ok (.l .fr xs))
section
variable {X : Cx} {C : Cfg} {W : WX} {fi fi1 : Env → R (List PyData)} {g g1 : PyData → Env → R Env} {t t1 : Env → R Bool} {f : Env → R S}
/-- wiped: what is wiped of a guarded state -/
theorem Rp.wipedG {K : PySem.W.Frag} {B H : Hp} {O₀ O : List Addr} {δ : Env} {σ : St} (r : Rp K C B O₀ [] H O δ σ) (ws : List Nat) : Rp K C B O₀ [] H O (wipeD δ ws) (wipe σ ws) := r.wiped ws
theorem lc2_coreD {K : PySem.W.Frag} {vs us vs1 us1 : List Nat} {σ : St} {H : Hp} {Q : VK} (hus : ∀ i ∈ us, i ∈ vs) (hus1 : ∀ i ∈ us1, i ∈ vs1) (h : tD K C W (kComp2 fi g t fi1 g1 t1 f vs vs1) σ H Q) :
    tLc2 (tI K C W false fi) (tG K C [] us g) (tDT K C W0 t) (tI K C W0 true fi1) (tG K C [] us1 g1) (tDT K C W0 t1) (tD K C W0 f) vs vs1 σ H Q := by
  obtain ⟨δ, O, rep, h⟩ := h
  refine ⟨δ, O, rep, ?_⟩
  unfold kComp2 at h
  cases ef : fi δ with
  | exc k p => rw [ef] at h; exact h
  | bad => rw [ef] at h; exact h.elim
  | ok ds =>
    rw [ef] at h
    simp only [R.ok_bind] at h
    cases ex : noX (compL2 g t fi1 g1 t1 f vs1 (wipeD δ vs) ds) with
    | exc k p => exact (noX_ne _ k p ex).elim
    | bad => rw [ex] at h; exact h.elim
    | ok xs =>
      rw [ex] at h
      simp only [R.ok_bind] at h
      cases ec : decide (xs.length ≤ 1000000) with
      | false => rw [ec] at h; exact h.elim
      | true =>
        rw [ec, chk_true] at h
        have hlen := of_decide_eq_true ec
        have ex' := noX_inv ex
        intro J H1 s1 wk D hD
        have rep1 := rep.same s1
        have hDO : D ∉ O := not_mem_dom rep1.dom hD
        refine ⟨fun i m H' => m = ds.length - i ∧ i ≤ ds.length ∧ ∃ acc ys rs, H' D = some (.lst acc) ∧ Sm C H1 H' ∧ DpAll K (Hm H' (D :: O)) acc ys ∧ compL2 g t fi1 g1 t1 f vs1 (wipeD δ vs) (ds.drop i) = .ok rs ∧ xs = ys ++ rs,
          ⟨ds.length, by simp, Nat.zero_le _, [], [], xs, upd_same, same_new hD, .nil, by simpa using ex', by simp⟩, ?_⟩
        rintro i m H' ⟨rfl, hi, acc, ys, rs, hDa, sm, da, ec', exs⟩
        have rp0 : Rp K C (fun _ => none) [] [] H' (D :: O) δ σ := Rp.more rep1 sm (.of hD) ⟨_, hDa, trivial⟩
        have hnD : ∀ (j : Nat) s, δ[j]? = some (some s) → s.own = true → σ[j]? ≠ some (some (.ref D)) := fun j s h o e => by
          obtain ⟨q, v, ev, b⟩ := rep1.slot j s h
          rw [e] at ev; cases ev
          cases b with
          | d _ => cases o
          | fl => cases o
          | fk => cases o
          | obj _ _ => cases o
          | ol g1 _ _ => exact hDO g1
          | ok g1 _ _ => exact hDO g1
        have rp : Rp K C (L2.upd (fun _ => none) D (.lst acc)) [D] [] H' (D :: O) δ σ := rp0.guard (.of rfl) hDa trivial List.mem_cons_self hnD
        have rw0 := rp.wiped vs
        have st : Stay H1 O H' (D :: O) := fun b o q => by
          obtain ⟨m, q'⟩ := hm_some q
          exact hm_mk (by simp [ne_of_none q' hD, m]) (sm.kp _ _ q' (hm_nt q)) (hm_nt q)
        obtain ⟨w1, w2⟩ := wk i H' (D :: O) ⟨st, fun _ => sm⟩ rp.dom
        by_cases hlt : i < ds.length
        · obtain ⟨go, yl⟩ := w1 ds[i] (List.getElem?_eq_getElem hlt)
          rw [List.drop_eq_getElem_cons hlt] at ec'
          simp only [compL2] at ec'
          obtain ⟨δ1, eg, ec'⟩ := bind_ok ec'
          obtain ⟨c, et, ec'⟩ := bind_ok ec'
          refine .inr ⟨go, fun H2 => ∃ acc ys rs, H2 D = some (.lst acc) ∧ Sm C H1 H2 ∧ DpAll K (Hm H2 (D :: O)) acc ys ∧ compL2 g t fi1 g1 t1 f vs1 (wipeD δ vs) (ds.drop (i + 1)) = .ok rs ∧ xs = ys ++ rs,
            fun H2 q => ⟨_, by omega, rfl, hlt, q⟩, fun x H3 y => ?_⟩
          obtain ⟨s3, dp⟩ := yl x H3 y
          refine ⟨_, _, [], wipeD δ vs, D :: O, ds[i], rfl, rw0.same s3, dp, ?_⟩
          rw [eg]
          intro σ2 rp2 hw
          refine ⟨by rw [hw vs hus]; exact wipe_twice σ vs, δ1, D :: O, rp2.rep, ?_⟩
          rw [et]
          intro H4 s4
          cases c with
          | false =>
            rw [if_neg Bool.false_ne_true]
            rw [if_neg Bool.false_ne_true] at ec'
            exact ⟨acc, ys, rs, s4.at (s3.at hDa), sm.trans (s3.trans s4), dpa_same (hm_same (s3.trans s4)) da, ec', exs⟩
          | true =>
            rw [if_pos rfl]
            rw [if_pos rfl] at ec'
            obtain ⟨es, ee, ec'⟩ := bind_ok ec'
            obtain ⟨qs, eq, ec'⟩ := bind_ok ec'
            obtain ⟨rs', er, ec'⟩ := bind_ok ec'
            refine ⟨δ1, D :: O, (rp2.same s4).rep, ?_⟩
            rw [ee]
            intro J1 H5 s5 wk1
            have s35 := s3.trans (s4.trans s5)
            refine ⟨fun j k H' => k = es.length - j ∧ j ≤ es.length ∧ ∃ acc ys qs, H' D = some (.lst acc) ∧ Sm C H1 H' ∧ DpAll K (Hm H' (D :: O)) acc ys ∧ Stay H5 (D :: O) H' (D :: O) ∧ Rp K C (L2.upd (fun _ => none) D (.lst acc)) [D] [] H' (D :: O) δ1 σ2 ∧
                compL g1 t1 f (wipeD δ1 vs1) (es.drop j) = .ok qs ∧ xs = ys ++ (qs ++ rs'),
              ⟨es.length, by simp, Nat.zero_le _, acc, ys, qs, s35.at hDa, sm.trans s35, dpa_same (hm_same s35) da, Stay.refl _ _, (rp2.same s4).same s5, by simpa using eq, by cases ec'; simp [exs]⟩, ?_⟩
            rintro j k H6 ⟨rfl, hj, acc, ys, qs, hDa, sm6, da6, st6, rp6, ec6, exs6⟩
            obtain ⟨v1, v2⟩ := wk1 j H6 (D :: O) ⟨st6, fun z => nomatch z⟩ rp6.dom
            by_cases hlt1 : j < es.length
            · obtain ⟨go1, yl1⟩ := v1 es[j] (List.getElem?_eq_getElem hlt1)
              rw [List.drop_eq_getElem_cons hlt1] at ec6
              simp only [compL] at ec6
              obtain ⟨δ2, eg2, ec6⟩ := bind_ok ec6
              obtain ⟨c2, et2, ec6⟩ := bind_ok ec6
              refine .inr ⟨go1, fun H' => ∃ acc ys qs, H' D = some (.lst acc) ∧ Sm C H1 H' ∧ DpAll K (Hm H' (D :: O)) acc ys ∧ Stay H5 (D :: O) H' (D :: O) ∧ Rp K C (L2.upd (fun _ => none) D (.lst acc)) [D] [] H' (D :: O) δ1 σ2 ∧
                compL g1 t1 f (wipeD δ1 vs1) (es.drop (j + 1)) = .ok qs ∧ xs = ys ++ (qs ++ rs'), fun H' q => ⟨_, by omega, rfl, hlt1, q⟩, fun x1 H7 y1 => ?_⟩
              obtain ⟨s7, dp7⟩ := yl1 x1 H7 y1
              refine ⟨_, _, [], wipeD δ1 vs1, D :: O, es[j], rfl, (rp6.wiped vs1).same s7, dp7, ?_⟩
              rw [eg2]
              intro σ3 rp3 hw3
              refine ⟨by rw [hw3 vs1 hus1]; exact wipe_twice σ2 vs1, δ2, D :: O, rp3.rep, ?_⟩
              rw [et2]
              intro H8 s8
              cases c2 with
              | false =>
                rw [if_neg Bool.false_ne_true]
                rw [if_neg Bool.false_ne_true] at ec6
                have s78 := s7.trans s8
                exact ⟨acc, ys, qs, s78.at hDa, sm6.trans s78, dpa_same (hm_same s78) da6, st6.trans (Stay.of s78), (rp6.same s7).same s8, ec6, exs6⟩
              | true =>
                rw [if_pos rfl]
                rw [if_pos rfl] at ec6
                obtain ⟨s, es', ec6⟩ := bind_ok ec6
                obtain ⟨z, ez, ec6⟩ := bind_ok ec6
                obtain ⟨qs', er', ec6⟩ := bind_ok ec6
                refine ⟨δ2, D :: O, rp3.rep.same s8, ?_⟩
                rw [es']
                intro v H9 s9 bv fr
                have s79 := s7.trans (s8.trans s9)
                have la := dpa_length da6
                have hz : xs.length = ys.length + (qs.length + rs'.length) := by rw [exs6]; simp
                have hq : qs = z :: qs' := by cases ec6; rfl
                refine ⟨acc, s79.at hDa, small_lineS (by rw [hq] at hz; simp at hz; omega), acc ++ [v], ys ++ [z], qs', upd_same, ?_, ?_, ?_, ?_, er', by rw [exs6, hq]; simp⟩
                · exact sm_upd (sm6.trans s79) (.of hD) (s79.at hDa) trivial
                · rw [hm_upd List.mem_cons_self]
                  exact dpa_app (dpa_same (hm_same s79) da6) (.cons (bv_pd bv ez) .nil)
                · exact st6.trans (by rw [Stay, hm_upd List.mem_cons_self]; exact hm_same s79)
                · exact (((rp6.same s7).same s8).same s9).write trivial trivial
            · have e : j = es.length := by omega
              refine .inl ⟨v2 e, ?_⟩
              subst e
              rw [List.drop_length] at ec6
              cases ec6
              exact ⟨acc, ys, rs', hDa, sm6, da6, er, by rw [exs6]; simp⟩
        · have e : i = ds.length := by omega
          refine .inl ⟨w2 e, ?_⟩
          subst e
          rw [List.drop_length] at ec'
          cases ec'
          rw [List.append_nil] at exs
          subst exs
          exact h _ H' (s1.trans sm) (.fl hDO hDa da) ⟨D, rfl, s1.free (.of hD)⟩
variable {tg iter tg1 iter1 elt : Expr} {ifs ifs1 : List Expr} {scope : Scope} {us vs us1 vs1 : List Nat} {pos : Pos}
theorem de_lc2W (own : List (Str × Nat)) (hc : X.calm = true) (hN : X.N.Nodup) (hi : DI X C W false tg iter fi) (ok : BlkOk X.N X.env.scope scope own)
    (hg : ∀ (s : Shared) (H : Hp) (Ca : Addr) (cl : List (Str × Addr)) (fp : List Addr), DG (X.blk s H scope (PySem.compEnvC scope cl Ca X.env) fp) C [] us tg g)
    (ht : ∀ (s : Shared) (H : Hp) (Ca : Addr) (cl : List (Str × Addr)) (fp : List Addr), PTs (X.blk s H scope (PySem.compEnvC scope cl Ca X.env) fp) ifs (tDT X.K C W0 t))
    (hi1 : ∀ (s : Shared) (H : Hp) (Ca : Addr) (cl : List (Str × Addr)) (fp : List Addr), DI (X.blk s H scope (PySem.compEnvC scope cl Ca X.env) fp) C W0 true tg1 iter1 fi1)
    (hg1 : ∀ (s : Shared) (H : Hp) (Ca : Addr) (cl : List (Str × Addr)) (fp : List Addr), DG (X.blk s H scope (PySem.compEnvC scope cl Ca X.env) fp) C [] us1 tg1 g1)
    (ht1 : ∀ (s : Shared) (H : Hp) (Ca : Addr) (cl : List (Str × Addr)) (fp : List Addr), PTs (X.blk s H scope (PySem.compEnvC scope cl Ca X.env) fp) ifs1 (tDT X.K C W0 t1))
    (he : ∀ (s : Shared) (H : Hp) (Ca : Addr) (cl : List (Str × Addr)) (fp : List Addr), DE (X.blk s H scope (PySem.compEnvC scope cl Ca X.env) fp) C W0 elt f)
    (hov : own.map (·.2) = vs := by rfl) (hv : vs1.all (fun i => (own.map (·.2)).contains i) = true := by rfl) (hus : us.all (fun i => (own.map (·.2)).contains i) = true := by rfl) (hus1 : us1.all (fun i => vs1.contains i) = true := by rfl) (hs : ∀ x, foldedSetIterable iter X.env x = pure x := by intro _; rfl) (hs1 : ∀ env x, foldedSetIterable iter1 env x = pure x := by intro _ _; rfl) :
    DE X C W (.ListComp elt [⟨tg, iter, ifs, 0⟩, ⟨tg1, iter1, ifs1, 0⟩] scope pos) (kComp2 fi g t fi1 g1 t1 f vs vs1) := by
  subst hov
  exact PE.imp (pe_lc2 hc hN hi ok (fun i hi => List.contains_iff_mem.mp (List.all_eq_true.mp hv i hi)) hg ht hi1 hg1 ht1 he hs hs1) fun σ H Q h => lc2_coreD (fun i hi => List.contains_iff_mem.mp (List.all_eq_true.mp hus i hi)) (fun i hi => List.contains_iff_mem.mp (List.all_eq_true.mp hus1 i hi)) h
theorem ds_asgLc2W (i : Nat) {y : Str} {py spos : Pos} {io : List Nat} (own : List (Str × Nat)) (hc : X.calm = true) (hN : X.N.Nodup) (hi : DI X C W false tg iter fi) (ok : BlkOk X.N X.env.scope scope own)
    (hg : ∀ (s : Shared) (H : Hp) (Ca : Addr) (cl : List (Str × Addr)) (fp : List Addr), DG (X.blk s H scope (PySem.compEnvC scope cl Ca X.env) fp) C [] us tg g)
    (ht : ∀ (s : Shared) (H : Hp) (Ca : Addr) (cl : List (Str × Addr)) (fp : List Addr), PTs (X.blk s H scope (PySem.compEnvC scope cl Ca X.env) fp) ifs (tDT X.K C W0 t))
    (hi1 : ∀ (s : Shared) (H : Hp) (Ca : Addr) (cl : List (Str × Addr)) (fp : List Addr), DI (X.blk s H scope (PySem.compEnvC scope cl Ca X.env) fp) C W0 true tg1 iter1 fi1)
    (hg1 : ∀ (s : Shared) (H : Hp) (Ca : Addr) (cl : List (Str × Addr)) (fp : List Addr), DG (X.blk s H scope (PySem.compEnvC scope cl Ca X.env) fp) C [] us1 tg1 g1)
    (ht1 : ∀ (s : Shared) (H : Hp) (Ca : Addr) (cl : List (Str × Addr)) (fp : List Addr), PTs (X.blk s H scope (PySem.compEnvC scope cl Ca X.env) fp) ifs1 (tDT X.K C W0 t1))
    (he : ∀ (s : Shared) (H : Hp) (Ca : Addr) (cl : List (Str × Addr)) (fp : List Addr), DE (X.blk s H scope (PySem.compEnvC scope cl Ca X.env) fp) C W0 elt f)
    (hov : own.map (·.2) = vs := by rfl) (hv : vs1.all (fun i => (own.map (·.2)).contains i) = true := by rfl) (hio : io.contains i = false := by rfl) (hy : X.N[i]? = some y := by rfl) (hyl : X.env.scope.names.lookup y = some .local := by rfl)
    (hsw : swapsWith (.ListComp elt [⟨tg, iter, ifs, 0⟩, ⟨tg1, iter1, ifs1, 0⟩] scope pos) (some (.Name y py)) spos.line X.env = pure true := by exact sw_true rfl rfl rfl (by kernel_rfl))
    (hus : us.all (fun i => (own.map (·.2)).contains i) = true := by rfl) (hus1 : us1.all (fun i => vs1.contains i) = true := by rfl) (hs : ∀ x, foldedSetIterable iter X.env x = pure x := by intro _; rfl) (hs1 : ∀ env x, foldedSetIterable iter1 env x = pure x := by intro _ _; rfl) :
    DS X C W io (.Assign [.Name y py] (.ListComp elt [⟨tg, iter, ifs, 0⟩, ⟨tg1, iter1, ifs1, 0⟩] scope pos) spos) (sAsg i (kComp2 fi g t fi1 g1 t1 f vs vs1)) := by
  subst hov
  exact PS.imp (ps_setLc2 hc hN hy hyl hsw hi ok (fun i hi => List.contains_iff_mem.mp (List.all_eq_true.mp hv i hi)) hg ht hi1 hg1 ht1 he hs hs1) fun D σ H h => lc2_coreD (fun i hi => List.contains_iff_mem.mp (List.all_eq_true.mp hus i hi)) (fun i hi => List.contains_iff_mem.mp (List.all_eq_true.mp hus1 i hi)) (asg_core hio h)
end
end DL

set_option Elab.async false
set_option linter.all false
set_option maxRecDepth 100000
set_option maxHeartbeats 3200000
/-! DL23: sorted(set(..)) of ints. -/
namespace DL
open PySem PySem.Spec L2 PyProof PyProof.Rows
section
variable {P : Program} {w : World} {A : Around} {E : Value → Shared → Prop} {s : Shared}
/-- a set that holds nothing yet -/
abbrev bareSet (w : World) : Obj := { cls := .type "set", dict := none, data := .set #[] 0 (.fresh 0 0 (!w.params.followText "set-order")) }
/-- s with the bare set -/
abbrev withSet (w : World) (s : Shared) : Shared := { s with heap := s.heap.push (bareSet w) }
/-- what filling it from a list of ints leaves -/
def FilledI (w : World) (s : Shared) (ns : List Int) (s2 : Shared) : Prop := ∃ hp k c, s2 = { s with heap := hp, toks := k } ∧ SetR w hp s.heap.objs.size (fun j => decide (j ∈ ns)) c ∧ c ≤ ns.length ∧ ∀ b u, s.heap.get? b = some u → hp.get? b = some u
theorem fill_list {l : Addr} {xs : Array Value} {ns : List Int} (hh : A.handled = none) (hl : s.heap.IsList l xs) (hx : IntsAre xs.toList ns) (hb : ns.length + 1 < scanBound) :
    codeAny (model P w) A (.call (.builtin "set.__init__") ⟨[.ref s.heap.objs.size, .ref l], []⟩) (wants (fun r s2 => r = .none ∧ FilledI w s ns s2) E) (withSet w s) := by
  have own : (withSet w s).heap.get? s.heap.objs.size = some (bareSet w) := Heap.get?_push_size _ rfl
  have len : xs.size = ns.length := by
    have q := IntsAre.length hx
    rw [Array.length_toList] at q
    exact q
  refine codeAny_call_builtin F.called_set.init.plain F.entry_set_init (check_set_init_1 ⟨_, own, rfl⟩ ?_)
  have far : l < s.heap.objs.size := by obtain ⟨u, hu, _⟩ := hl; exact Heap.lt_size hu
  have hl1 : (withSet w s).heap.IsList l xs := hl.push _
  obtain ⟨u, hu, hc, n, hd⟩ := id hl1
  obtain ⟨uc, ud, ux, us⟩ := u
  simp only at hc hd
  subst hc; subst hd
  have t1 := F.sub_list_set
  have t2 := F.sub_list_frozenset
  have t3 : (Value.type "list" == Value.type "dict") = false := by decide
  unfold Builtin.«set.__init__» noKeywords Builtin.Frozenset.updateFrom
  generalize hPI : pyIter = PI
  wp_walk
  subst hPI
  refine wpAny_pyIter_list hl1 (wpAny_bind (wpAny_runValue ?_))
  have sz : (withSet w s).heap.objs.size = s.heap.objs.size + 1 := Heap.size_push ..
  refine set_update_ints (Walks.list (A := A.in1.in1) (by simp [hh]) (withSet w s).heap.objs.size l (Nat.ne_of_lt (by rw [sz]; exact Nat.lt_succ_of_lt far)) xs).toS s.heap.objs.size
    (by simp only [List.mem_cons, List.not_mem_nil, or_false, not_or]; exact ⟨Nat.ne_of_lt (by rw [sz]; exact Nat.lt_succ_self _), Nat.ne_of_gt far⟩) ns len hb
    (fun i v hv => ?_) (xs.size - 0) 0 _ (by omega) (Nat.zero_le _) ?_ ?_ fun s' c' hm hc' hS' => ?_
  · have hi : i < ns.length := by rw [← len]; exact (Array.getElem?_eq_some_iff.mp hv).1
    obtain ⟨t, e⟩ := PyProof.Rows.IntsAre.int_at hx i v (by rw [Array.getElem?_toList]; exact hv)
    refine ⟨ns[i], t, List.getElem?_eq_getElem hi, ?_⟩
    rw [e, List.getD_eq_getElem?_getD, List.getElem?_eq_getElem hi] <;> rfl
  · exact ⟨⟨_, Heap.get?_push_size _ rfl, rfl, rfl⟩, hl1.push _⟩
  · exact ⟨0, Nat.le_refl 0, setR_new_at (Heap.get?_push_of_some _ own)⟩
  · obtain ⟨hp, g2, d2, k2, o2⟩ := s'
    have eg : g2 = s.gens := hm.gens
    have ed : d2 = s.drawn := hm.drawn
    have eo : o2 = s.os := hm.os
    subst eg; subst ed; subst eo
    refine wpAny_pure ?_
    show wpAny _ _ (ret Value.none) _ _ _
    refine wpAny_pure ⟨rfl, hp, k2, c', rfl, hS', len ▸ hc', fun b o e => ?_⟩
    have hb0 : b < s.heap.objs.size := Heap.lt_size e
    exact hm.heap b o (by simp only [List.mem_cons, List.not_mem_nil, or_false, not_or]; exact ⟨Nat.ne_of_lt hb0, Nat.ne_of_lt (by rw [sz]; exact Nat.lt_succ_of_lt hb0)⟩) (Heap.get?_push_of_some _ (Heap.get?_push_of_some _ e))
theorem call_set_listI {l : Addr} {xs : Array Value} {ns : List Int} {Q : Value → Shared → Prop} (hh : A.handled = none) (hl : s.heap.IsList l xs) (hx : IntsAre xs.toList ns) (hb : ns.length + 1 < scanBound)
    (h : ∀ s2, FilledI w s ns s2 → Q (.ref s.heap.objs.size) s2) : wpAny (model P w) A (call (.type "set") [.ref l]) Q E s := by
  obtain ⟨c, tl, hmro⟩ := F.called_set.mro
  have g1 := F.called_set.made
  have g2 := F.called_set.sub
  refine wpAny_call (codeAny_of_tree ?_)
  show wpAny _ _ (callAny (.type "set") _) _ _ _
  refine wpAny_pure ⟨Code.quiet_builtin _ (by decide +kernel), codeAny_builtin F.entry_type_call ?_⟩
  rw [Around.under_plain (weight_type_call_type "set" [.ref l] []) rfl]
  have g3 := F.called_set.notType
  have g4 := F.called_set.canCreate
  have g5 := F.typeCall_set_1 (.ref l)
  repeat (any_goals (first | assumption | wp_step))
  refine codeAny_mono (code_set_led1 (.ref l) (E := E) (Q₁ := fun v s1 => v = .ref s.heap.objs.size ∧ s1 = withSet w s) ⟨rfl, rfl⟩) fun r s1 hr => ?_
  cases r with
  | error e => exact hr
  | ok fl =>
    cases fl with
    | ret v =>
      obtain ⟨rfl, rfl⟩ := hr
      have hT : (withSet w s).TypeIs (.ref s.heap.objs.size) "set" := ⟨_, Heap.get?_push_size _ rfl, rfl⟩
      have g6 := F.called_set.init.lookup
      have g7 := F.called_set.init.bind (.ref s.heap.objs.size)
      repeat (any_goals (first | assumption | wp_step))
      refine codeAny_mono (fill_list (E := E) (by simp [hh]) hl hx hb) fun r2 s2 hr2 => ?_
      cases r2 with
      | error e => exact hr2
      | ok fl2 =>
        cases fl2 with
        | ret r =>
          obtain ⟨rfl, hp, k, c2, rfl, q1, q2, q3⟩ := hr2
          repeat (any_goals (first | assumption | wp_step))
          exact h _ ⟨hp, k, c2, rfl, q1, q2, q3⟩
        | _ => exact hr2.elim
    | _ => exact hr.elim
end
end DL

set_option Elab.async false
set_option linter.all false
set_option maxRecDepth 100000
set_option maxHeartbeats 1000000
/-! DL24: sorted(set(xs)), len(set(xs)), xs a list or a tuple of ints. -/
namespace DL
open PySem PySem.Spec L2
/-- x in its place, once -/
def insU (x : Int) : List Int → List Int
  | [] => [x]
  | y :: l => if x < y then x :: y :: l else if x = y then y :: l else y :: insU x l
/-- ascending, each once -/
def sortU (ns : List Int) : List Int := ns.foldr insU []
theorem mem_insU (x z : Int) : ∀ l : List Int, z ∈ insU x l ↔ z = x ∨ z ∈ l
  | [] => by simp [insU]
  | y :: l => by
    unfold insU
    split
    · simp
    · split
      · rename_i e; subst e; simp
      · simp only [List.mem_cons, mem_insU x z l]
        constructor
        · rintro (h | h | h) <;> simp [h]
        · rintro (h | h | h) <;> simp [h]
theorem mem_sortU (z : Int) : ∀ ns : List Int, z ∈ sortU ns ↔ z ∈ ns
  | [] => by simp [sortU]
  | x :: l => by
    show z ∈ insU x (sortU l) ↔ _
    rw [mem_insU, mem_sortU z l, List.mem_cons]
theorem insU_asc (x : Int) : ∀ l : List Int, l.Pairwise (· < ·) → (insU x l).Pairwise (· < ·)
  | [], _ => by simp [insU]
  | y :: l, h => by
    obtain ⟨h1, h2⟩ := List.pairwise_cons.mp h
    unfold insU
    split
    · rename_i hx
      refine List.pairwise_cons.mpr ⟨fun z hz => ?_, h⟩
      rcases List.mem_cons.mp hz with rfl | hz
      · exact hx
      · have := h1 z hz; omega
    · split
      · exact h
      · refine List.pairwise_cons.mpr ⟨fun z hz => ?_, insU_asc x l h2⟩
        rcases (mem_insU x z l).mp hz with rfl | hz
        · omega
        · exact h1 z hz
theorem sortU_asc : ∀ ns : List Int, (sortU ns).Pairwise (· < ·)
  | [] => List.Pairwise.nil
  | x :: l => insU_asc x _ (sortU_asc l)
/-- ascending lists with the same members are the same -/
theorem asc_eq : ∀ {a b : List Int}, a.Pairwise (· < ·) → b.Pairwise (· < ·) → (∀ z, z ∈ a ↔ z ∈ b) → a = b
  | [], [], _, _, _ => rfl
  | [], y :: b, _, _, h => by have := (h y).mpr List.mem_cons_self; cases this
  | x :: a, [], _, _, h => by have := (h x).mp List.mem_cons_self; cases this
  | x :: a, y :: b, ha, hb, h => by
    obtain ⟨a1, a2⟩ := List.pairwise_cons.mp ha
    obtain ⟨b1, b2⟩ := List.pairwise_cons.mp hb
    have e : x = y := by
      rcases List.mem_cons.mp ((h x).mp List.mem_cons_self) with e | m
      · exact e
      · rcases List.mem_cons.mp ((h y).mpr List.mem_cons_self) with e | m2
        · exact e.symm
        · have := b1 x m; have := a1 y m2; omega
    subst e
    have : a = b := asc_eq a2 b2 fun z => ⟨fun m => by
      rcases List.mem_cons.mp ((h z).mp (List.mem_cons_of_mem _ m)) with e | m2
      · have := a1 z m; omega
      · exact m2, fun m => by
      rcases List.mem_cons.mp ((h z).mpr (List.mem_cons_of_mem _ m)) with e | m2
      · have := b1 z m; omega
      · exact m2⟩
    rw [this]
theorem sortU_of {a ns : List Int} (h : a.Pairwise (· < ·)) (m : ∀ z, z ∈ a ↔ z ∈ ns) : a = sortU ns := asc_eq h (sortU_asc ns) fun z => (m z).trans (mem_sortU z ns).symm
section
variable {X : Cx} {C : Cfg} {W : WX} {a : Expr} {f : Env → R S} {pos : Pos} {ta : TE}
/-- a list or a tuple of these ints -/
def IntSq (K : PySem.W.Frag) (H : Hp) (l : Addr) (ns : List Int) : Prop := SqL K H l (ns.map V.int) ∨ SqT K H l (ns.map V.int)
def tSetI (K : PySem.W.Frag) (hn : Nat) (ta : TE) (G : List Int → VK → Hp → Prop) : TE := fun σ H Q => ta σ H fun x H1 => ∃ (l : Addr) (ns : List Int), x = V.ref l ∧ IntSq K H1 l ns ∧ ns.length < hn ∧ G ns Q H1
theorem set_made (hc : X.calm = true) {pins : List (Addr × Obj)} {s : Shared} {σ : St} {H : Hp} {l : Addr} {ns : List Int} {E' : Value → Shared → Prop} {Q : Value → Shared → Prop} (I : Inv X pins σ H s) (h : IntSq X.K H l ns) (hn : ns.length < 64)
    (k : ∀ s2 v c, SetR X.w s2.heap v (fun j => decide (j ∈ ns)) c → c ≤ ns.length → Inv X pins σ H s2 → Q (.ref v) s2) : wpAny (model X.prog X.w) X.A (call (.type "set") [.ref l]) Q E' s := by
  have hd := I.ok.hd hc
  rcases h with h | h
  · obtain ⟨its, r, pl, hz⟩ := I.list h
    refine call_set_listI hd pl.isList (show PyProof.Rows.IntsAre its.toArray.toList ns from ints_of_vals r) (by unfold scanBound; omega) fun s2 ⟨hp, tk, c, e, q1, q2, q3⟩ => ?_
    subst e
    exact k _ _ c q1 q2 (I.kept q3)
  · obtain ⟨its, r, pt, hz⟩ := I.tuple h
    exact call_set_tupI ns hd (show s.heap.IsTuple l its.toArray from pt) (show PyProof.Rows.IntsAre its.toArray.toList ns from ints_of_vals r) (by unfold scanBound; omega) fun hp tk c q1 q2 q3 => k _ _ c q1 q2 (I.kept q3)
theorem pe_sortSet {p p2 q pos : Pos} (hc : X.calm = true) (hg : Gl X "sorted") (hm : X.mg "sorted" = none) (hg2 : Gl X "set") (hm2 : X.mg "set" = none) (ha : PE X a ta)
    (na : starEach [a] X.env = (false, eval a X.env) :: starEach [] X.env := by rfl) : PE X (.Call (.Name "sorted" p) [.Call (.Name "set" p2) [a] [] q] [] pos) (tSetI X.K 64 ta fun ns Q H1 => ∀ p, H1 p = none → Q (.ref p) (L2.upd H1 p (.lst ((sortU ns).map V.int)))) := by
  refine ⟨fun pins s σ H Q I h => ?_⟩
  refine PyProof.Rows.Call_ (ld_blt I hg hm (by boot_by_name) (PyProof.Rows.callWith_builtin1 (PyProof.Rows.args_cons (PyProof.Rows.Call_ (ld_blt I hg2 hm2 PyProof.Rows.boot_set (PyProof.Rows.callWith_type1 (PyProof.Rows.args_cons (thn (ha.run pins s σ H _ I h) fun v s1 ⟨x, H1, I1, r1, q1⟩ => PyProof.Rows.args_nil ?_) na) na rfl))) rfl) rfl rfl))
  obtain ⟨l, ns, rfl, hq, hn, q1⟩ := q1
  cases r1
  refine set_made hc I1 hq hn fun s2 v c R hcn I2 => PyProof.Rows.args_nil ?_
  refine sorted_set R (I2.ok.hd hc) (by omega) fun s' p out c ns' k g o hp hg hi hs hm hlen => ?_
  have e : ns' = sortU ns := sortU_of hs fun z => (hm z).trans (by simp)
  have lc : ns'.length < 64 := by rw [hlen]; omega
  have hv : Vals (ns'.map V.int) out.toList := by
    clear hg hm hs e lc hlen
    generalize out.toList = us at hi
    induction hi with
    | nil => exact .nil
    | cons k t _ ih => exact .cons ⟨t, rfl⟩ ih
  have J : Inv X pins σ (L2.upd H1 p (.lst (ns'.map V.int))) s' := by
    have e2 : s' = { s2 with heap := s'.heap, gens := s'.gens, drawn := s'.drawn, toks := s'.toks } := by cases s'; cases s2; cases o; rfl
    rw [e2]
    exact I2.call (ch := []) (Un.laid k hp (I2.hok.fresh hp)) (I2.hok.laid k hp ⟨by rw [List.length_map, sizeLine_eq]; omega, out.toList, c, hv, hg⟩) (by rw [g]; exact I2.bare) (fun _ z => nomatch z)
  subst e
  exact ⟨.ref p, _, J, rfl, q1 p (I2.hok.fresh hp)⟩
/-- a list's or a tuple's items -/
def S.seq2 : S → R (List PyData)
  | .d (.str _) => .bad
  | s => s.itsI false
theorem seq2_ne (s : S) : ∀ k p, s.seq2 ≠ .exc k p := by
  intro k p
  unfold S.seq2
  split
  · exact bad_ne k p
  · exact itsI_ne false s k p
def ints2 (s : S) : R (List Int) := do let ds ← s.seq2; intsR ds
theorem ints2_ne (s : S) : ∀ k p, ints2 s ≠ .exc k p := bind_ne (seq2_ne s) fun _ => intsR_ne _
theorem dpa_intsV {K : PySem.W.Frag} {H : Hp} : ∀ {ns : List Int} {xs : List V}, DpAll K H xs (ns.map .int) → xs = ns.map V.int
  | [], _, .nil => rfl
  | n :: ns, _, .cons h r => by
    cases h
    rw [dpa_intsV r]; rfl
theorem intSq_of {K : PySem.W.Frag} {H : Hp} {O : List Addr} {v : V} {s : S} {ns : List Int} (b : BV K C H O v s) (e : ints2 s = .ok ns) : ∃ l, v = .ref l ∧ IntSq K H l ns := by
  obtain ⟨ds, e1, e2⟩ := bind_ok e
  have nz : ∀ z, s ≠ .d (.str z) := fun z h => by subst h; cases e1
  have e3 : S.itsI false s = .ok ds := by
    unfold S.seq2 at e1
    split at e1
    · cases e1
    · exact e1
  obtain ⟨l, rfl, sr⟩ := src_of b e3 nz
  obtain ⟨xs, h1, h2⟩ := sr.ex
  rw [intsR_eq e2] at h2
  rw [dpa_intsV h2] at h1
  cases ek : s.kd with
  | true => rw [ek] at h1; exact ⟨l, rfl, .inr h1⟩
  | false => rw [ek] at h1; exact ⟨l, rfl, .inl h1⟩
def srtSet (s : S) : R S := do let ns ← ints2 s; chk (decide (ns.length < 64)) (.ok (.l .fr ((sortU ns).map .int)))
theorem dpa_mapI {K : PySem.W.Frag} {H : Hp} : ∀ (ns : List Int), DpAll K H (ns.map V.int) (ns.map .int)
  | [] => .nil
  | n :: ns => .cons (.int n) (dpa_mapI ns)
/-- sorted(set(xs)) -/
theorem de_sortSet {p p2 q pos : Pos} (hc : X.calm = true) (hg : Gl X "sorted") (hm : X.mg "sorted" = none) (hg2 : Gl X "set") (hm2 : X.mg "set" = none) (ha : DE X C W a f)
    (na : starEach [a] X.env = (false, eval a X.env) :: starEach [] X.env := by rfl) : DE X C W (.Call (.Name "sorted" p) [.Call (.Name "set" p2) [a] [] q] [] pos) (kU srtSet f) := by
  refine PE.imp (pe_sortSet hc hg hm hg2 hm2 ha na) fun σ H Q ⟨δ, O, rep, w⟩ => ?_
  refine seq1 (PQ := Post X.K C W σ H O Q) rep w (fun k p q => q) (fun q => q) fun s e q v H1 s1 bv fr => ?_
  unfold srtSet at q
  cases ei : ints2 s with
  | exc k p => exact (ints2_ne s k p ei).elim
  | bad => rw [ei] at q; exact q.elim
  | ok ns =>
    rw [ei] at q
    cases ec : decide (ns.length < 64) with
    | false => simp only [R.ok_bind, ec, chk_false] at q; exact q.elim
    | true =>
      simp only [R.ok_bind, ec, chk_true] at q
      obtain ⟨l, rfl, hq⟩ := intSq_of bv ei
      exact ⟨l, ns, rfl, hq, of_decide_eq_true ec, fun p hp => q _ _ (s1.trans (same_new hp)) (bv_newL (rep.same s1).dom hp (dpa_mapI _)) ⟨p, rfl, s1.free (.of hp)⟩⟩
end
end DL

set_option Elab.async false
set_option linter.all false
set_option maxRecDepth 100000
set_option maxHeartbeats 2000000
/-! DL25: a lambda with parameters that takes nothing from outside, called. -/
namespace DL
open PySem PySem.Spec L2
section
variable {CX : CXT} {P : Program} {w : World} {K : PySem.W.Frag} {mg : Str → Option Value} {base : Heap}
theorem lam_run {k : Nat} {f c' : Addr} {qual : Str} {params : Arguments} {body : Expr} {scope : Scope} {pm ctv : Value} {N ps : List Str} {A : Around} {outer : List PySem.Env} {s : Shared} {H : Hp} {E : XK} {us : List Value} {vs : List V} {Q : VK} {t : TE}
    (hr : Room (k + 1) A) (e0 : Env0 P w K mg base A outer s H) (of : s.heap.get? f = some (PySem.W.kla_obj "<lambda>" qual params body scope [] pm c' ctv)) (hc : H c' = some (LamX.CodeO c' qual)) (S : FnScope N ps scope)
    (hb : bindArgs (PySem.W.kla_fn "<lambda>" qual params body scope [] pm (.ref c') ctv) ⟨us, []⟩ = pure (ps.zip us)) (hl : vs.length = ps.length) (r : Vals vs us)
    (hbody : Room k (A.deeper (PyProof.Rows.envOfC qual scope s.heap.objs.size f (.ref c'))) → PE (cxOf CX P w K mg base N qual scope f (.ref c') A outer s H E) body t) (h : t (start N vs) H Q) :
    codeAny (model P w) A (.call (.ref f) ⟨us, []⟩) (CR CX outer P w H s Q E) s := by
  have lim : s.heap.NoLimit := e0.mod.nolimit.keeps fun b o e => (e0.bs b o e).1
  have hkind : ∀ y ∈ ps.zip us, scope.names.lookup y.1 = some .local ∨ (scope.names.lookup y.1 = some .cell ∧ ((cellsFrom (s.heap.objs.size + 1) scope.names []).lookup y.1).isSome = true) := fun ⟨n, v⟩ hy => by
    rcases S.par n (List.of_mem_zip hy).1 with q | q
    · exact .inl q
    · exact .inr ⟨q, PySem.W.cellsFrom_some _ _ _ (.inl q)⟩
  obtain ⟨⟨oc, cs, tk, hoc, hdc, hvc⟩, _, _⟩ := e0.hok c' _ hc
  refine PySem.W.kla_callFunE hr.depth of rfl S.co S.gen rfl ⟨c', oc, cs, tk, rfl, hoc, hdc, hvc⟩ ?_
  rw [hb]
  refine wpAny_pure (wpAny_newFunctionEnv_cells S.kind hkind fun env he s1 x => ?_)
  subst he
  refine ⟨lim.keeps x.toInCall.keep, ?_⟩
  have I : Inv (cxOf CX P w K mg base N qual scope f (.ref c') A outer s H E) [] (start N vs) H s1 := inv_start S hr.hd e0 hl r x
  refine PySem.W.kla_codeExpr (wpAny_mono ((hbody (hr.deeper _)).run [] s1 (start N vs) H Q I h) (fun v s' hq => ?_) fun e s' hq => hq)
  obtain ⟨x', H', J, rv, q⟩ := hq
  exact ⟨x', H', J.os, J.bare, J.base, J.hok, rv, q⟩
end
end DL

set_option Elab.async false
set_option linter.all false
set_option maxRecDepth 100000
set_option maxHeartbeats 2000000
/-! DL26: sorting by a key that a lambda gives. -/
namespace DL
open PySem PySem.Spec L2
section
variable {X : Cx} {C : Cfg} {W : WX} {pins : List (Addr × Obj)} {σ : L2.St} {s s' s'' : Shared} {H H' H'' : Hp}
/-- s' stands behind s: what s has and nobody follows is kept -/
structure Beh (X : Cx) (C : Cfg) (s : Shared) (H : Hp) (s' : Shared) (H' : Hp) : Prop where
  os : s'.os = s.os
  bare : PyProof.Rows.AllBare s'.gens
  un : Un (frs X.stack) [] H H' s.heap s'.heap
  hok : HOk X.prog X.w H' s'.heap
  sm : Sm C H H'
theorem Beh.start (I : Inv X pins σ H s) : Beh X C s H s H := ⟨rfl, I.bare, Un.refl, I.hok, Sm.refl H⟩
theorem Beh.inv (I : Inv X pins σ H s) (b : Beh X C s H s' H') : Inv X pins σ H' s' := I.call' b.os b.un b.hok b.bare fun _ z => nomatch z
theorem Beh.trans (a : Beh X C s H s' H') (b : Beh X C s' H' s'' H'') : Beh X C s H s'' H'' := ⟨b.os.trans a.os, b.bare, a.un.trans b.un, b.hok, a.sm.trans b.sm⟩
/-- objects are written that s does not have and nobody follows -/
theorem Beh.put {h2 : Heap} {t : Nat} (b : Beh X C s H s' H') (k : ∀ c u, ((∃ o, s.heap.get? c = some o) ∨ H' c ≠ none) → s'.heap.get? c = some u → h2.get? c = some u) : Beh X C s H { s' with heap := h2, toks := t } H' where
  os := b.os
  bare := b.bare
  un := ⟨fun c o e n f x => k c o (.inl ⟨o, e⟩) (b.un.keep c o e n f x), fun c o e n f x => let ⟨sl, q⟩ := b.un.slot c o e n f x; ⟨sl, k c _ (.inl ⟨o, e⟩) q⟩, b.un.free,
    fun c o e x => let ⟨o', q⟩ := b.un.there c o e x; ⟨o', k c _ (.inl ⟨o, e⟩) q⟩, b.un.tups, b.un.frzs, b.un.tbls⟩
  hok := fun a o e => (b.hok a o e).stay (fun c u hc q => k c u (.inr (by
    rcases hc with rfl | hc
    · rw [e]; exact fun z => nomatch z
    · rw [hc]; exact fun z => nomatch z)) q) (fun _ q => q) fun _ _ q => q
  sm := b.sm
theorem room_in2 {k : Nat} {A : Around} (r : Room (k + 1) A) : Room k A.in1.in1 :=
  ⟨by have := r.hd; simp [this], by have := r.dp; simp only [Around.in1_depth]; omega, by have := r.un; simp only [Around.in1_units]; omega⟩
/-- the value of one slot -/
def entry1 (n : Nat) (d : PyData) : Env := some (.d d) :: List.replicate (n - 1) none
/-- the lambda that gives the keys, as it stands -/
structure KeyL (X : Cx) (C : Cfg) (H : Hp) (s : Shared) (f : Addr) (k : Nat) (kf : Env → R S) (n : Nat) : Prop where
  run : ∀ (s' : Shared) (H' : Hp) (O : List Addr) (u : Value) (v : V) (d : PyData) (Q : VK), Beh X C s H s' H' → Dom H' O → RelV v u → Dp X.K (Hm H' O) v d → Room k X.A.in1.in1 → Env0 X.prog X.w X.K X.mg X.base X.A.in1.in1 X.stack s' H' →
    Post X.K C W0 [] H' O Q (kf (entry1 n d)) → codeAny (model X.prog X.w) X.A.in1.in1 (.call (.ref f) ⟨[u], []⟩) (CR (fun _ _ _ _ _ _ => False) X.stack X.prog X.w H' s' Q (fun _ _ _ => False)) s'
theorem key_turn {O : List Addr} {f : Addr} {k n : Nat} {kf : Env → R S} {u : Value} {v : V} {d kd : PyData} {z : S} {F : Value → Shared → Prop} (I : Inv X pins σ H s) (L : KeyL X C H s f k kf n) (hr : Room (k + 1) X.A) (b : Beh X C s H s' H') (hd : Dom H' O)
    (rv : RelV v u) (dv : Dp X.K (Hm H' O) v d) (hk : kf (entry1 n d) = .ok z) (hz : z.pd = .ok kd) :
    wpAny (model X.prog X.w) X.A.in1.in1 (call (.ref f) [u]) (fun w s2 => ∃ H2 x, Beh X C s' H' s2 H2 ∧ RelV x w ∧ Dp X.K (Hm H2 O) x kd) F s' := by
  have e0 := (b.inv I).env0
  refine wpAny_call (codeAny_mono (L.run s' H' O u v d (fun x H2 => Sm C H' H2 ∧ Dp X.K (Hm H2 O) x kd) b hd rv dv (room_in2 hr) ⟨e0.frames, e0.mod, e0.bs, e0.bsz, e0.funs, e0.frf, e0.hok, e0.bare⟩ (by
    rw [hk]; exact fun x H2 s1 bv fr => ⟨s1, bv_pd bv hz⟩)) fun r s2 hq => ?_)
  cases r with
  | error e => exact False.elim hq
  | ok fl =>
    cases fl with
    | ret w => obtain ⟨x, H2, os, bare, un, hok, r, q1, q2⟩ := hq; exact ⟨H2, x, ⟨os, bare, un, hok, q1⟩, r, q2⟩
    | next => exact False.elim hq
    | brk => exact False.elim hq
    | cont => exact False.elim hq
/-- a list that nobody followed is followed from now on -/
theorem Beh.track {a : Addr} {xs : List V} (b : Beh X C s H s' H') (hs : s.heap.get? a = none) (hn : H' a = none) (new : ObjOk X.prog X.w (L2.upd H' a (.lst xs)) s'.heap a (.lst xs)) : Beh X C s H s' (L2.upd H' a (.lst xs)) where
  os := b.os
  bare := b.bare
  un := ⟨b.un.keep, b.un.slot, fun c o e n x => by
      rw [upd_ne (fun z => by rw [z, hs] at e; cases e)]; exact b.un.free c o e n x, b.un.there,
    fun c ys q => by rw [upd_ne (ne_of_none (b.un.tups c ys q) hn)]; exact b.un.tups c ys q, fun c o u q => by rw [upd_ne (ne_of_none (b.un.frzs c o u q) hn)]; exact b.un.frzs c o u q,
    fun c ps q => let ⟨m, r⟩ := b.un.tbls c ps q; ⟨m, by rw [upd_ne (ne_of_none r hn)]; exact r⟩⟩
  hok := fun c o e => by
    by_cases hc : c = a
    · subst hc; rw [upd_same] at e; cases e; exact new
    · rw [upd_ne hc] at e
      exact (b.hok c o e).stay (fun _ _ _ q => q) (fun x q => by rw [upd_ne (ne_of_none q hn)]; exact q) fun x ys q => by rw [upd_ne (ne_of_none q hn)]; exact q
  sm := b.sm.trans (same_new hn)
theorem new_frs (I : Inv X pins σ H s) {b : Addr} (hb : s.heap.objs.size ≤ b) : b ∉ frs X.stack := fun z => by
  rcases List.mem_cons.mp (I.stkSub _ z) with e | e
  · have h1 := I.lt
    rw [← e] at h1
    exact Nat.lt_irrefl _ (Nat.lt_of_lt_of_le h1 hb)
  · exact I.nofs hb e
open PySem.W PyProof.Rows in
theorem keyJ_rest {O : List Addr} {f a kS : Addr} {k n e1 : Nat} {kf : Env → R S} {vs : List Value} {bs : List PyData} {kk : PyData → PyData} {P : PySem.Fin → Shared → Prop} {F : Value → Shared → Prop} (I : L2.Inv X pins σ H s) (L : KeyL X C H s f k kf n) (hr : Room (k + 1) X.A) (hd : Dom H O)
    (hs : EachIs (fun u d => ∃ v, L2.RelV v u ∧ Dp X.K (Hm H O) v d) vs bs) (hkk : ∀ d ∈ bs, ∃ z, kf (entry1 n d) = .ok z ∧ z.pd = .ok (kk d)) (hZ : bs.length ≤ sizeLine) (hal : AllAlike (bs.map kk)) (hsk : Sortable (bs.map kk)) (hu : ∀ d ∈ bs, X.A.units + 2 + (kk d).depth < cLine)
    (hkS : s.heap.objs.size ≤ kS) (ha : s.heap.objs.size ≤ a) (hka : kS ≠ a) {s1 : Shared} (b1 : Beh X C s H s1 H) (nk : s1.heap.get? kS = some (seqObj "list" #[] 0)) (na : s1.heap.get? a = some (seqObj "list" #[] e1))
    (h : ∀ s2 H2 xs, Beh X C s H s2 (L2.upd H2 a (.lst xs)) → Sm C H H2 → H2 a = none → DpAll X.K (Hm H2 O) xs (bs.mergeSort (dataLe false kk)) → P (.done (.ret .none)) s2) :
    wpAny (model X.prog X.w) X.A.in1.in1 (ksk_rest a (.ref f) false vs.toArray e1 (.ref kS)) P F s1 := by
  have hvl : vs.length = bs.length := hs.length
  have old : ∀ {b : Addr} {o : Obj}, s.heap.get? b = some o → b ≠ kS ∧ b ≠ a := fun {b o} e => ⟨fun z => absurd (Heap.lt_size e) (by rw [z]; exact Nat.not_lt_of_le hkS), fun z => absurd (Heap.lt_size e) (by rw [z]; exact Nat.not_lt_of_le ha)⟩
  unfold ksk_rest
  refine wpAny_bind (wpAny_rule ?_)
  first
    | rw [List.forIn_toArray]
    | (rw [← Array.forIn_toList]; simp only [List.toList_toArray])
    | rw [← Array.forIn_toList]
  refine wpAny_bind (ksk_fold (fun i s' => ∃ H' kA e, Beh X C s H s' H' ∧ s'.heap.get? kS = some (seqObj "list" kA e) ∧ s'.heap.get? a = some (seqObj "list" #[] e1) ∧ H' kS = none ∧ H' a = none ∧
      EachIs (fun w d => ∃ v, L2.RelV v w ∧ Dp X.K (Hm H' O) v d) kA.toList ((bs.map kk).take i)) vs 0 s1 ⟨H, #[], 0, b1, nk, na, I.hok.fresh hkS, I.hok.fresh ha, by rw [List.take_zero]; exact EachIs.nil⟩ ?step ?done)
  case step =>
    rintro j x s' hx ⟨H', kA, e, b, nk', na', nK, nA, hk⟩
    simp only [Nat.zero_add] at hk ⊢
    have hj : j < vs.length := (List.getElem?_eq_some_iff.mp hx).1
    have hb : bs[j]? = some (bs[j]'(by omega)) := List.getElem?_eq_getElem (by omega)
    generalize bs[j]'(by omega) = d at hb
    obtain ⟨v, rv, dv⟩ := hs.zip (x, d) (List.mem_of_getElem? (i := j) (by rw [List.getElem?_zip_eq_some]; exact ⟨hx, hb⟩))
    obtain ⟨z, ez, ep⟩ := hkk d (List.mem_of_getElem? hb)
    have hz : kA.size ≤ vs.length := by
      have h1 := hk.length
      rw [Array.length_toList, List.length_take] at h1
      omega
    refine wpAny_bind (wpAny_attempt (wpAny_mono (key_turn (F := fun _ _ => False) I L hr b (hd.same b.sm) rv (dp_same (hm_same b.sm) dv) ez ep) (fun w s'' he => ?_) fun _ _ hF => hF.elim))
    obtain ⟨H2, y, b2, ry, dy⟩ := he
    have nk2 : s''.heap.get? kS = some (seqObj "list" kA e) := b2.un.keep _ _ nk' nK (new_frs I hkS) (by simp)
    have na2 : s''.heap.get? a = some (seqObj "list" #[] e1) := b2.un.keep _ _ na' nA (new_frs I ha) (by simp)
    have nK2 : H2 kS = none := b2.un.free _ _ nk' nK (by simp)
    have nA2 : H2 a = none := b2.un.free _ _ na' nA (by simp)
    have s1' := Heap.SameBut.update s''.heap kS (Obj.mapSeq (·.push w))
    obtain ⟨c2, hc2⟩ : ∃ c2, (s''.heap.update kS (Obj.mapSeq (·.push w))).get? kS = some (seqObj "list" (kA.push w) c2) := ⟨_, get?_update_seq nk2 (·.push w)⟩
    refine wpAny_bind (listUpdate_at nk2 rfl ?_ (by omega) (Nat.le_trans (Nat.le_of_eq (Array.size_push ..)) (by omega)))
    have ek : (bs.map kk).take (j + 1) = (bs.map kk).take j ++ [kk d] := by rw [List.take_add_one, List.getElem?_map, hb]; simp
    have ea : (kA.push w).toList = kA.toList ++ [w] := by simp
    refine wpAny_pure ⟨rfl, H2, kA.push w, c2, (b.trans b2).put (fun c u hc q => (s1'.2 c (fun z => ?_)).trans q), hc2, (s1'.2 a hka.symm).trans na2, nK2, nA2, ?_⟩
    · subst z
      rcases hc with ⟨o, e⟩ | hc
      · exact (old e).1 rfl
      · exact hc nK2
    · rw [ea, ek]
      exact each_snoc (R := fun (w : Value) (d : PyData) => ∃ v, L2.RelV v w ∧ Dp X.K (Hm H2 O) v d) ⟨y, ry, dy⟩ (hk.mono fun u d' ⟨v', r', q'⟩ => ⟨v', r', dp_same (hm_same b2.sm) q'⟩)
  case done =>
    rintro s' ⟨H', kA, e, b, nk', na', nK, nA, hk⟩
    have e3 : (bs.map kk).take (0 + vs.length) = bs.map kk := List.take_of_length_le (by rw [List.length_map]; omega)
    rw [e3] at hk
    have I' : L2.Inv X pins σ H' s' := Beh.inv I b
    have hk' : EachIs (fun v k => ∃ as, Reads s'.heap v k as) kA.toList (bs.map kk) := hk.mono fun u d ⟨v, r, q⟩ => Dp.reads I' d v u (dp_same hm_le q) r
    have hsz : kA.size = vs.length := by
      have h1 := hk'.length
      rw [Array.length_toList, List.length_map] at h1
      omega
    refine wpAny_bind (listItems_at nk' rfl ?_)
    refine keyH_end (κ := dataKind s'.heap (bs.map kk)) (h₁ := hideAll s'.heap [kS]) (fun c o hc q => of_hideAll _ q) (hideAll_none _ (by simp)) nk' na' hka
      (SortsAt.data hk' hal hsk fun d hd' => ?_) hsz (by omega) fun h3 tk3 c k3 n3 => ?_
    · obtain ⟨d0, hd0, rfl⟩ := List.mem_map.mp hd'
      have := hu d0 hd0
      simp only [Around.in1_units]
      omega
    · have hE : EachIs (fun u d => ∃ v, L2.RelV v u ∧ Dp X.K (Hm H' O) v d) (sortVals (dataKind s'.heap (bs.map kk)) false kA.toList vs) (bs.mergeSort (dataLe false kk)) :=
        keyedOut_each (rev := false) kk ⟨s'.heap, kA.toList, hal, rfl, hk'⟩ (hs.mono fun u d ⟨v, r, q⟩ => ⟨v, r, dp_same (hm_same b.sm) q⟩)
      obtain ⟨xs, rx, dx⟩ := each_dpa hE
      have b3 : Beh X C s H { s' with heap := h3, toks := tk3 } H' := b.put fun c' u hc q => by
        have n1 : c' ≠ a := fun z => by
          subst z
          rcases hc with ⟨o, e⟩ | hc
          · exact (old e).2 rfl
          · exact hc nA
        have n2 : c' ≠ kS := fun z => by
          subst z
          rcases hc with ⟨o, e⟩ | hc
          · exact (old e).1 rfl
          · exact hc nK
        exact k3 c' u n1 (hideAll_get _ q (by simpa using n2))
      have lx : xs.length ≤ sizeLine := by
        rw [rx.length, EachIs.length hE, List.length_mergeSort]; exact hZ
      exact h _ H' xs (b3.track (Heap.get?_none_of_le ha) nA ⟨lx, _, c, rx, n3⟩) b.sm nA dx
end
end DL

set_option Elab.async false
set_option linter.all false
set_option maxRecDepth 100000
set_option maxHeartbeats 2000000
/-! DL27: sorted(xs, key=lambda y: e). -/
namespace DL
open PySem PySem.Spec L2
section
variable {X : Cx} {C : Cfg} {W : WX} {pins : List (Addr × Obj)} {σ : L2.St} {s s' s'' : Shared} {H H' H'' : Hp}
/-- what is known of the things that are sorted and of their keys -/
structure KeyOk (X : Cx) (H : Hp) (O : List Addr) (kf : Env → R S) (n : Nat) (kk : PyData → PyData) (vs : List Value) (bs : List PyData) : Prop where
  each : PySem.W.EachIs (fun u d => ∃ v, L2.RelV v u ∧ Dp X.K (Hm H O) v d) vs bs
  key : ∀ d ∈ bs, ∃ z, kf (entry1 n d) = .ok z ∧ z.pd = .ok (kk d)
  few : bs.length ≤ sizeLine
  alike : PySem.W.AllAlike (bs.map kk)
  sort : PySem.W.Sortable (bs.map kk)
  flat : ∀ d ∈ bs, X.A.units + 2 + (kk d).depth < cLine
open PySem.W PyProof.Rows in
theorem keyJ_sort {O : List Addr} {f a m : Nat} {k n : Nat} {kf : Env → R S} {vs : List Value} {bs : List PyData} {kk : PyData → PyData} {P : PySem.Fin → Shared → Prop} {F : Value → Shared → Prop} (I : L2.Inv X pins σ H s) (L : KeyL X C H s f k kf n) (hr : Room (k + 1) X.A) (hd : Dom H O)
    (ko : KeyOk X H O kf n kk vs bs) (ha : s.heap.objs.size ≤ a) {s2 : Shared} (b : Beh X C s H s2 H) (na : s2.heap.get? a = some (seqObj "list" vs.toArray m))
    (h : ∀ s3 H2 xs, Beh X C s H s3 (L2.upd H2 a (.lst xs)) → Sm C H H2 → H2 a = none → DpAll X.K (Hm H2 O) xs (bs.mergeSort (dataLe false kk)) → P (.done (.ret .none)) s3) :
    wpAny (model X.prog X.w) X.A.in1.in1 (ksk_tree a (.ref f) false) P F s2 := by
  have hZ : vs.length ≤ sizeLine := by rw [ko.each.length]; exact ko.few
  have l2 : a < s2.heap.objs.size := Heap.lt_size na
  have old : ∀ {c : Addr} {o : Obj}, s.heap.get? c = some o → c ≠ a := fun {c o} e z => absurd (Heap.lt_size e) (by rw [z]; exact Nat.not_lt_of_le ha)
  obtain ⟨e1, ho1⟩ : ∃ e1, (s2.heap.update a (Obj.mapSeq fun _ => (#[] : Array Value))).get? a = some (seqObj "list" #[] e1) := ⟨_, get?_update_seq na fun _ => #[]⟩
  have sz : ((s2.heap.update a (Obj.mapSeq fun _ => (#[] : Array Value))).push (seqObj "tuple" vs.toArray 0)).objs.size = s2.heap.objs.size + 1 := by rw [size_push', Heap.size_update]
  unfold ksk_tree
  refine wpAny_bind (listItems_at na rfl ?_)
  refine wpAny_bind (listUpdate_at na rfl ?_ (by rw [List.size_toArray]; exact hZ) (Nat.zero_le _))
  refine wpAny_bind (seqEpoch_at ho1 rfl ?_)
  refine wpAny_bind (wpAny_newTuple ?_ (by show vs.length ≤ _; exact hZ))
  refine wpAny_bind (wpAny_newList ?_ (Nat.zero_le _))
  refine wpAny_holding ?_
  have b3 : Beh X C s H { s2 with heap := sortingHeap s2.heap a vs, toks := s2.toks } H := b.put fun c u hc q => by
    refine sortingHeap_old (fun z => ?_) q
    rcases hc with ⟨o, e⟩ | hc
    · exact old e z
    · rw [z] at hc; exact hc (I.hok.fresh ha)
  exact keyJ_rest (s1 := { s2 with heap := sortingHeap s2.heap a vs }) I L hr hd ko.each ko.key ko.few ko.alike ko.sort ko.flat (Nat.le_trans (Nat.le_trans ha (Nat.le_of_lt l2)) (by rw [sz]; exact Nat.le_succ _)) ha (by rw [sz]; exact Nat.ne_of_gt (Nat.lt_succ_of_lt l2)) b3 (Heap.get?_push_size _ rfl)
    (Heap.get?_push_of_some _ (Heap.get?_push_of_some _ ho1)) h
open PySem.W PyProof.Rows in
/-- sorted(l, key=f), l a list -/
theorem sorted_list {O : List Addr} {f l : Addr} {k n : Nat} {kf : Env → R S} {vs : List Value} {bs : List PyData} {kk : PyData → PyData} {Q : Value → Shared → Prop} {F : Value → Shared → Prop} (I : L2.Inv X pins σ H s) (L : KeyL X C H s f k kf n) (hr : Room (k + 1) X.A) (hd : Dom H O)
    (ko : KeyOk X H O kf n kk vs bs) (hl : s.heap.IsList l vs.toArray)
    (h : ∀ s3 H2 xs a, Beh X C s H s3 (L2.upd H2 a (.lst xs)) → Sm C H H2 → H2 a = none → DpAll X.K (Hm H2 O) xs (bs.mergeSort (dataLe false kk)) → Q (.ref a) s3) :
    wpAny (model X.prog X.w) X.A (call (.builtin "sorted") [.ref l] [(Str.ofString "key", .ref f)]) Q F s := by
  refine sorted_of_sort hl (by rw [ko.each.length]; exact ko.few) (ksk_s1 _ _) (fun _ => ksk_l1 _ _) fun E' => ?_
  rw [ksk_t1]
  refine keyJ_sort I L hr hd ko (Nat.le_succ _) ((Beh.start I).put (t := s.toks) fun c u _ q => copyHeap_old q) (copyHeap_at s.heap vs) fun s3 H2 xs b sm n q => ⟨rfl, h s3 H2 xs _ b sm n q⟩
theorem KeyL.later {f : Addr} {k n : Nat} {kf : Env → R S} (L : KeyL X C H s f k kf n) (b : Beh X C s H s' H) : KeyL X C H s' f k kf n := ⟨fun s2 H2 O u v d Q b2 => L.run s2 H2 O u v d Q (b.trans b2)⟩
open PySem.W PyProof.Rows in
/-- sorted(r, key=f), r a range from 0 -/
theorem sorted_range {O : List Addr} {f r : Addr} {k n : Nat} {kf : Env → R S} {j : Nat} {t u v : Tok} {kk : PyData → PyData} {Q : Value → Shared → Prop} {F : Value → Shared → Prop} (I : L2.Inv X pins σ H s) (L : KeyL X C H s f k kf n) (hr : Room (k + 1) X.A) (hd : Dom H O)
    (ko : ∀ vs, Vals (rgV 0 (j : Int)) vs → KeyOk X H O kf n kk vs (rgI 0 (j : Int))) (hl : IsRange s.heap r 0 (j : Int) 1 t u v) (hj : j ≤ 1000000)
    (h : ∀ s3 H2 xs a, Beh X C s H s3 (L2.upd H2 a (.lst xs)) → Sm C H H2 → H2 a = none → DpAll X.K (Hm H2 O) xs ((rgI 0 (j : Int)).mergeSort (dataLe false kk)) → Q (.ref a) s3) :
    wpAny (model X.prog X.w) X.A (call (.builtin "sorted") [.ref r] [(Str.ofString "key", .ref f)]) Q F s := by
  refine call_function_entry_kw kind_sorted plain_sorted entry_sorted (ksk_s1 _ _) ?_
  unfold Builtin.«sorted»
  refine wpAny_bind (m := checkCount "sorted" 1 1 _) (wpAny_pure ?_)
  have e0 : ((j : Int) - 0).toNat = j := by omega
  refine wpAny_bind (L2.collect_range (n := ((j : Int) - 0).toNat) (by have := hr.hd; simp [this]) hl (small_one (by omega) (by omega) (by omega) (by omega)) (rangeSize_nat 0 _) (by omega) fun h1 tk acc kp hi => ?_)
  have hv := L2.vals_rg hi
  have lv : acc.toList.length ≤ sizeLine := by rw [(ko _ hv).each.length]; exact (ko _ hv).few
  have b1 : Beh X C s H { s with heap := h1, toks := tk } H := (Beh.start I).put fun c u _ q => kp c u q
  refine wpAny_bind (wpAny_newList ?_ (by simpa using lv))
  have I1 : L2.Inv X pins σ H { s with heap := h1, toks := tk } := Beh.inv I b1
  have hoL : (h1.push (seqObj "list" acc.toList.toArray 0)).get? h1.objs.size = some (seqObj "list" acc.toList.toArray 0) := Heap.get?_push_size _ rfl
  have b2 : Beh X C { s with heap := h1, toks := tk } H { s with heap := h1.push (seqObj "list" acc.toList.toArray 0), toks := tk } H := (Beh.start I1).put fun c u _ q => Heap.get?_push_of_some _ q
  refine wpAny_bind (wpAny_holding (wpAny_call_entry_kw slot_list_sort ⟨_, hoL, rfl⟩ entry_list_sort ?_ (ksk_l1 _ _)))
  rw [ksk_t1]
  refine keyJ_sort (s := { s with heap := h1, toks := tk }) I1 (L.later b1) hr hd (ko _ hv) (Nat.le_refl _) b2 hoL fun s3 H2 xs b3 sm n q => ⟨_, rfl, ?_⟩
  exact wpAny_pure ⟨_, rfl, h s3 H2 xs _ (b1.trans b3) sm n q⟩
end
end DL

set_option Elab.async false
set_option linter.all false
set_option maxRecDepth 100000
set_option maxHeartbeats 2000000
/-! DL28: sorted(.., key=lambda y: e) as an expression. -/
namespace DL
open PySem PySem.Spec L2
section
variable {X : Cx} {C : Cfg} {W : WX} {pins : List (Addr × Obj)} {σ : L2.St} {s s' s'' : Shared} {H H' H'' : Hp}
theorem post_any {K : PySem.W.Frag} {σ σ' : L2.St} {O : List Addr} {Q : VK} {r : R S} (h : Post K C W0 σ H O Q r) : Post K C W0 σ' H O Q r := by
  cases r with
  | ok s => exact h
  | exc k p => exact h
  | bad => exact h
theorem rep_one {K : PySem.W.Frag} {O : List Addr} {N : List Str} {v : V} {d : PyData} (hd : Dom H O) (ht : LamX.Tabs C.T H) (hN : 1 ≤ N.length) (h : Dp K (Hm H O) v d) : Rep K C H O (entry1 N.length d) (L2.start N [v]) := by
  have e : ∀ (i : Nat) s, (entry1 N.length d)[i]? = some (some s) → i = 0 ∧ s = .d d := by
    intro i s h
    unfold entry1 at h
    cases i with
    | zero => cases h; exact ⟨rfl, rfl⟩
    | succ i =>
      rw [List.getElem?_cons_succ, List.getElem?_replicate] at h
      split at h <;> cases h
  refine ⟨?_, fun i s h' => ?_, fun i j a s t h1 h2 o1 o2 e1 e2 => ?_, hd, ht⟩
  · show (some (S.d d) :: List.replicate (N.length - 1) none).length = ([v].map some ++ List.replicate (N.length - [v].length) none).length
    simp
  · obtain ⟨rfl, rfl⟩ := e i s h'
    exact ⟨.inl rfl, v, rfl, .d h⟩
  · obtain ⟨_, rfl⟩ := e i s h1
    cases o1
theorem keyL_of {k : Nat} {f c' : Addr} {params : Arguments} {body : Expr} {scope : Scope} {pm ctv : Value} {N : List Str} {y q : Str} {kf : Env → R S} (ht : LamX.Tabs C.T H) (of : s.heap.get? f = some (PySem.W.kla_obj "<lambda>" q params body scope [] pm c' ctv)) (hfn : H f = none) (hfr : f ∉ frs X.stack)
    (hc : H c' = some (LamX.CodeO c' q)) (Sc : FnScope N [y] scope) (hN : 1 ≤ N.length) (hb : ∀ (pm ctv u : Value) (c' : Addr), bindArgs (PySem.W.kla_fn "<lambda>" q params body scope [] pm (.ref c') ctv) ⟨[u], []⟩ = pure [(y, u)])
    (hbody : ∀ (A : Around) (outer : List PySem.Env) (s : Shared) (H : Hp) (E : XK) (f c' : Addr), Room k (A.deeper (PyProof.Rows.envOfC q scope s.heap.objs.size f (.ref c'))) → DE (cxOf (fun _ _ _ _ _ _ => False) X.prog X.w X.K X.mg X.base N q scope f (.ref c') A outer s H E) C W0 body kf) :
    KeyL X C H s f (k + 1) kf N.length := ⟨fun s2 H2 O u v d Q b hd rv dv hr e0 post => by
  have of2 := b.un.keep f _ of hfn hfr (by simp)
  have hc2 : H2 c' = some (LamX.CodeO c' q) := b.sm.kp _ _ hc LamX.codeO_ne
  exact lam_run hr e0 of2 hc2 Sc (hb pm ctv u c') (vs := [v]) rfl (.cons rv .nil) (fun hr' => hbody _ _ _ _ _ _ _ hr') ⟨_, O, rep_one hd (b.sm.ts ht) hN dv, post_any post⟩⟩
/-- the keys -/
def kkR (kf : Env → R S) (n : Nat) (d : PyData) : R PyData := do let z ← kf (entry1 n d); z.pd
def mapR (g : PyData → R PyData) : List PyData → R (List PyData)
  | [] => .ok []
  | d :: ds => do let x ← g d; let r ← mapR g ds; .ok (x :: r)
def kkOf (kf : Env → R S) (n : Nat) (d : PyData) : PyData := match kkR kf n d with
  | .ok x => x
  | _ => .none
theorem mapR_ok {g : PyData → R PyData} : ∀ {ds xs : List PyData}, mapR g ds = .ok xs → (∀ d ∈ ds, ∃ x, g d = .ok x) ∧ xs = ds.map fun d => match g d with | .ok x => x | _ => .none
  | [], xs, h => by cases h; exact ⟨fun _ h => (by cases h), rfl⟩
  | d :: ds, xs, h => by
    unfold mapR at h
    obtain ⟨x, e1, h⟩ := bind_ok h
    obtain ⟨r, e2, h⟩ := bind_ok h
    cases h
    obtain ⟨q1, q2⟩ := mapR_ok e2
    refine ⟨fun z hz => ?_, ?_⟩
    · rcases List.mem_cons.mp hz with rfl | hz
      · exact ⟨x, e1⟩
      · exact q1 z hz
    · rw [List.map_cons, e1, ← q2]
theorem keyOk_of {O : List Addr} {kf : Env → R S} {n : Nat} {vs : List Value} {bs ks : List PyData} (hu : X.A.units + 64 < cLine) (he : PySem.W.EachIs (fun u d => ∃ v, L2.RelV v u ∧ Dp X.K (Hm H O) v d) vs bs) (hk : mapR (kkR kf n) bs = .ok ks) (hc : srtC ks = true) : KeyOk X H O kf n (kkOf kf n) vs bs := by
  obtain ⟨q1, q2⟩ := mapR_ok hk
  have q2 : ks = bs.map (kkOf kf n) := q2
  subst q2
  obtain ⟨c1, c2, c3, c4⟩ := srtC_inv hc
  refine ⟨he, fun d hd => ?_, small_line (by simpa using c1), c2, c3, fun d hd => ?_⟩
  · obtain ⟨x, e⟩ := q1 d hd
    have e2 : kkOf kf n d = x := by unfold kkOf; rw [e]
    obtain ⟨z, e3, e4⟩ := bind_ok e
    exact ⟨z, e3, e2 ▸ e4⟩
  · have := c4 _ (List.mem_map.mpr ⟨d, hd, rfl⟩)
    omega
section
variable {a : Expr} {ta : TE} {k : Nat} {params : Arguments} {body : Expr} {scope : Scope} {N : List Str} {y : Str} {kf : Env → R S} {p p2 kpos lpos pos pos2 : Pos} {f : Env → R S}
/-- the lambda of a key: one parameter, nothing from outside -/
structure KeyLam (X : Cx) (C : Cfg) (k : Nat) (params : Arguments) (body : Expr) (scope : Scope) (N : List Str) (y : Str) (kf : Env → R S) : Prop where
  sc : FnScope N [y] scope
  len : 1 ≤ N.length
  clo : ∀ cells : List (Str × Addr), cloFrom cells scope.names [] = []
  def_ : defaultsOf params X.env = ([], [])
  bind : ∀ (q : Str) (pm ctv u : Value) (c' : Addr), bindArgs (PySem.W.kla_fn "<lambda>" q params body scope [] pm (.ref c') ctv) ⟨[u], []⟩ = pure [(y, u)]
  body : ∀ (q : Str) (A : Around) (outer : List PySem.Env) (s : Shared) (H : Hp) (E : XK) (f c' : Addr), Room k (A.deeper (PyProof.Rows.envOfC q scope s.heap.objs.size f (.ref c'))) → DE (cxOf (fun _ _ _ _ _ _ => False) X.prog X.w X.K X.mg X.base N q scope f (.ref c') A outer s H E) C W0 body kf
/-- the lambda made -/
theorem key_made (Kl : KeyLam X C k params body scope N y kf) (hl : LamH X C) (I : Inv X pins σ H s) (hT : LamX.Tabs C.T H) {F : Value → Shared → Prop} {Q : Value → Shared → Prop}
    (h : ∀ (f : Addr) (H1 : Hp) (s1 : Shared), Inv X pins σ H1 s1 → Sm C H H1 → KeyL X C H1 s1 f (k + 1) kf N.length → Q (.ref f) s1) : wpAny (model X.prog X.w) X.A (eval (.Lambda params body scope lpos) X.env) Q F s := by
  obtain ⟨c, P, hcode, TB, hmT, hu⟩ := hl
  refine LamX.lam_make2 I TB hcode hmT hu hT Kl.def_ (fun z hz e => (Kl.sc.nofree z hz e).elim) fun f c' pm ctv H1 s1 I1 eN T1 of hfn hfr hco => ?_
  rw [Kl.clo] at of
  exact h f H1 s1 I1 ⟨eN, fun _ => T1⟩ (keyL_of T1 of hfn hfr hco Kl.sc Kl.len (fun pm ctv u c' => Kl.bind _ pm ctv u c') (Kl.body _))
def tKeyL (X : Cx) (C : Cfg) (kf : Env → R S) (n : Nat) (ta : TE) : TE := fun σ H Q => ta σ H fun x H1 => ∃ O l ds ks, x = V.ref l ∧ (∀ H2, Sm C H1 H2 → ∃ xs, SqL X.K H2 l xs ∧ DpAll X.K (Hm H2 O) xs ds) ∧ Dom H1 O ∧ LamX.Tabs C.T H1 ∧ mapR (kkR kf n) ds = .ok ks ∧ srtC ks = true ∧
  ∀ p H2 ys, Sm C H1 H2 → H2 p = none → DpAll X.K (Hm H2 O) ys (isort (dLe (kkOf kf n)) ds) → Q (.ref p) (L2.upd H2 p (.lst ys))
theorem pe_sortKeyL (Kl : KeyLam X C k params body scope N y kf) (hl : LamH X C) (hr : Room (k + 2) X.A) (hg : Gl X "sorted") (hm : X.mg "sorted" = none) (ha : PE X a ta)
    (he : backTo pos (starEach [a] X.env) = (false, eval a X.env) :: backTo pos (starEach [] X.env) := by rfl) (hpl : (backTo pos (starEach [a] X.env)).any (·.1) = false := by rfl) :
    PE X (.Call (.Name "sorted" p) [a] [⟨some "key", .Lambda params body scope lpos, kpos⟩] pos) (tKeyL X C kf N.length ta) := by
  refine ⟨fun pins s σ H Q I h => ?_⟩
  refine wpAny_Call_Name_kw (ld_blt I hg hm (by boot_by_name) ?_)
  refine PyProof.Rows.callWith_kw ?_ he hpl rfl rfl
  rw [he]
  refine Calls.spliced_cons (thn (ha.run pins s σ H _ I h) fun v s1 ⟨x, H1, I1, r1, q1⟩ => Calls.spliced_nil ?_)
  obtain ⟨O, l, ds, ks, rfl, hsq, hd, hT, hk, hc, q⟩ := q1
  cases r1
  refine wpAny_evalAll_cons (wpAny_bind (key_made Kl hl I1 hT fun f H2 s2 I2 sm KL => wpAny_bind (wpAny_standAt (wpAny_pure (wpAny_evalAll_nil ?_)))))
  obtain ⟨xs, hq, dx⟩ := hsq H2 sm
  obtain ⟨its, rv, pl, hz⟩ := I2.list hq
  have ko := keyOk_of (n := N.length) (by have := hr.un; omega) (dpa_each (R := fun _ _ _ => True) dx rv) hk hc
  refine sorted_list (k := k + 1) I2 KL hr (hd.same sm) ko pl.isList fun s3 H3 ys b3 B sm3 hn dy => ?_
  rw [dLe_sort] at dy
  exact ⟨.ref b3, _, Beh.inv I2 B, rfl, q b3 H3 ys (sm.trans sm3) hn dy⟩
def srtK (kf : Env → R S) (n : Nat) (s : S) : R S := do
  let ds ← s.lst
  let ks ← noX (mapR (kkR kf n) ds)
  chk (srtC ks) (.ok (.l .fr (isort (dLe (kkOf kf n)) ds)))
/-- sorted(xs, key=lambda y: e), xs a list -/
theorem de_sortKeyL (Kl : KeyLam X C k params body scope N y kf) (hl : LamH X C) (hr : Room (k + 2) X.A) (hg : Gl X "sorted") (hm : X.mg "sorted" = none) (ha : DE X C W a f)
    (he : backTo pos (starEach [a] X.env) = (false, eval a X.env) :: backTo pos (starEach [] X.env) := by rfl) (hpl : (backTo pos (starEach [a] X.env)).any (·.1) = false := by rfl) :
    DE X C W (.Call (.Name "sorted" p) [a] [⟨some "key", .Lambda params body scope lpos, kpos⟩] pos) (kU (srtK kf N.length) f) := by
  refine PE.imp (pe_sortKeyL Kl hl hr hg hm ha he hpl) fun σ H Q ⟨δ, O, rep, w⟩ => ?_
  refine seq1 (PQ := Post X.K C W σ H O Q) rep w (fun k p q => q) (fun q => q) fun s e q v H1 s1 bv fr => ?_
  unfold srtK at q
  cases el : s.lst with
  | exc k p => exact (lst_ne s k p el).elim
  | bad => rw [el] at q; exact q.elim
  | ok ds =>
    rw [el] at q
    simp only [R.ok_bind] at q
    cases ek : noX (mapR (kkR kf N.length) ds) with
    | exc k p => exact (noX_ne _ k p ek).elim
    | bad => rw [ek] at q; exact q.elim
    | ok ks =>
      rw [ek] at q
      simp only [R.ok_bind] at q
      cases ec : srtC ks with
      | false => rw [ec] at q; exact q.elim
      | true =>
        rw [ec, chk_true] at q
        obtain ⟨l, xs, rfl, _, _⟩ := bv_lst bv el
        refine ⟨O, l, ds, ks, rfl, fun H2 sm => ?_, (rep.same s1).dom, (rep.same s1).tabs, noX_inv ek, ec, fun p H2 ys sm hp dy => ?_⟩
        · obtain ⟨l', xs', e', h1, h2⟩ := bv_lst (bv_same sm bv) el
          cases e'
          exact ⟨xs', h1, h2⟩
        · exact q _ _ (s1.trans (sm.trans (same_new hp))) (bv_newL ((rep.same s1).same sm).dom hp dy) ⟨p, rfl, (s1.trans sm).free (.of hp)⟩
end
end
end DL

set_option Elab.async false
set_option linter.all false
set_option maxRecDepth 100000
set_option maxHeartbeats 1000000
/-! DL29: sorted(range(n), key=lambda y: e). -/
namespace DL
open PySem PySem.Spec L2
section
variable {X : Cx} {C : Cfg} {W : WX} {a : Expr} {ta : TE} {k : Nat} {params : Arguments} {body : Expr} {scope : Scope} {N : List Str} {y : Str} {kf : Env → R S} {p p2 kpos lpos pos pos2 : Pos} {f : Env → R S}
def tRngO (ta : TE) : TE := fun σ H Q => ta σ H fun x H1 => ∃ n, x = V.int n ∧ ∀ q, H1 q = none → Q (.ref q) (L2.upd H1 q (.rng 0 n))
theorem pe_rngO (hg : Gl X "range") (hm : X.mg "range" = none) (ha : PE X a ta) (na : starEach [a] X.env = (false, eval a X.env) :: starEach [] X.env := by rfl) : PE X (.Call (.Name "range" p) [a] [] pos) (tRngO ta) := by
  refine ⟨fun pins s σ H Q I h => ?_⟩
  refine PyProof.Rows.Call_ (ld_blt I hg hm PyProof.Rows.boot_range (PyProof.Rows.callWith_type1 (PyProof.Rows.args_cons (thn (ha.run pins s σ H _ I h) fun v s2 ⟨x, H2, I2, r, q⟩ => PyProof.Rows.args_nil ?_) na) na))
  obtain ⟨n, rfl, q⟩ := q
  obtain ⟨t, rfl⟩ := r
  exact call_range_1 ⟨.ref s2.heap.objs.size, _, I2.laid (o := .rng 0 n) (fun b u e => Heap.get?_push_of_some _ e) (Nat.le_refl _) ⟨_, _, _, Heap.get?_push_size _ rfl⟩, rfl, q _ (I2.hok.fresh (Nat.le_refl _))⟩
def tKeyR (X : Cx) (C : Cfg) (kf : Env → R S) (n : Nat) (ta : TE) : TE := fun σ H Q => tRngO ta σ H fun x H1 => ∃ (H0 : Hp) (r : Addr) (j : Nat) (O : List Addr) (ks : List PyData), x = V.ref r ∧ H0 r = none ∧ H1 = L2.upd H0 r (.rng 0 (j : Int)) ∧ j ≤ 1000000 ∧ Dom H0 O ∧ LamX.Tabs C.T H0 ∧ mapR (kkR kf n) (rgI 0 (j : Int)) = .ok ks ∧ srtC ks = true ∧
  ∀ p H2 ys, Sm C H0 H2 → H2 p = none → DpAll X.K (Hm H2 O) ys (isort (dLe (kkOf kf n)) (rgI 0 (j : Int))) → Q (.ref p) (L2.upd H2 p (.lst ys))
theorem pe_sortKeyR (Kl : KeyLam X C k params body scope N y kf) (hl : LamH X C) (hr : Room (k + 2) X.A) (hg : Gl X "sorted") (hm : X.mg "sorted" = none) (hg2 : Gl X "range") (hm2 : X.mg "range" = none) (ha : PE X a ta)
    (na : starEach [a] X.env = (false, eval a X.env) :: starEach [] X.env := by rfl)
    (he : backTo pos (starEach [.Call (.Name "range" p2) [a] [] pos2] X.env) = (false, eval (.Call (.Name "range" p2) [a] [] pos2) X.env) :: backTo pos (starEach [] X.env) := by rfl) (hpl : (backTo pos (starEach [.Call (.Name "range" p2) [a] [] pos2] X.env)).any (·.1) = false := by rfl) :
    PE X (.Call (.Name "sorted" p) [.Call (.Name "range" p2) [a] [] pos2] [⟨some "key", .Lambda params body scope lpos, kpos⟩] pos) (tKeyR X C kf N.length ta) := by
  refine ⟨fun pins s σ H Q I h => ?_⟩
  refine wpAny_Call_Name_kw (ld_blt I hg hm (by boot_by_name) ?_)
  refine PyProof.Rows.callWith_kw ?_ he hpl rfl rfl
  rw [he]
  refine Calls.spliced_cons (thn ((pe_rngO (pos := pos2) hg2 hm2 ha na).run pins s σ H _ I h) fun v s1 ⟨x, H1, I1, r1, q1⟩ => Calls.spliced_nil ?_)
  obtain ⟨H0, r, j, O, ks, rfl, hn, rfl, hj, hd, hT, hk, hc, q⟩ := q1
  cases r1
  have sm0 : Sm C H0 (L2.upd H0 r (.rng 0 (j : Int))) := same_new hn
  refine wpAny_evalAll_cons (wpAny_bind (key_made Kl hl I1 (sm0.ts hT) fun f H2 s2 I2 sm KL => wpAny_bind (wpAny_standAt (wpAny_pure (wpAny_evalAll_nil ?_)))))
  obtain ⟨t, u, w, hrg⟩ := I2.hok r _ (sm.kp r _ upd_same (by intro _ z; cases z))
  refine sorted_range (k := k + 1) (O := O) I2 KL hr ((hd.same sm0).same sm) (fun vs hv => keyOk_of (n := N.length) (by have := hr.un; omega) (dpa_each (R := fun _ _ _ => True) (dpa_rg 0 (j : Int)) hv) hk hc) hrg hj fun s3 H3 ys b3 B sm3 hn3 dy => ?_
  rw [dLe_sort] at dy
  exact ⟨.ref b3, _, Beh.inv I2 B, rfl, q b3 H3 ys (sm0.trans (sm.trans sm3)) hn3 dy⟩
def srtKR (kf : Env → R S) (n : Nat) (s : S) : R S := do
  let j ← s.i
  chk (decide (0 ≤ j) && decide (j ≤ 1000000)) (do
    let ks ← noX (mapR (kkR kf n) (rgI 0 j))
    chk (srtC ks) (.ok (.l .fr (isort (dLe (kkOf kf n)) (rgI 0 j)))))
theorem de_sortKeyR (Kl : KeyLam X C k params body scope N y kf) (hl : LamH X C) (hr : Room (k + 2) X.A) (hg : Gl X "sorted") (hm : X.mg "sorted" = none) (hg2 : Gl X "range") (hm2 : X.mg "range" = none) (ha : DE X C W a f)
    (na : starEach [a] X.env = (false, eval a X.env) :: starEach [] X.env := by rfl)
    (he : backTo pos (starEach [.Call (.Name "range" p2) [a] [] pos2] X.env) = (false, eval (.Call (.Name "range" p2) [a] [] pos2) X.env) :: backTo pos (starEach [] X.env) := by rfl) (hpl : (backTo pos (starEach [.Call (.Name "range" p2) [a] [] pos2] X.env)).any (·.1) = false := by rfl) :
    DE X C W (.Call (.Name "sorted" p) [.Call (.Name "range" p2) [a] [] pos2] [⟨some "key", .Lambda params body scope lpos, kpos⟩] pos) (kU (srtKR kf N.length) f) := by
  refine PE.imp (pe_sortKeyR Kl hl hr hg hm hg2 hm2 ha na he hpl) fun σ H Q ⟨δ, O, rep, w⟩ => ?_
  refine seq1 (PQ := Post X.K C W σ H O Q) rep w (fun k p q => q) (fun q => q) fun s e q v H1 s1 bv fr => ?_
  unfold srtKR at q
  cases ei : s.i with
  | exc k p => exact (i_ne s k p ei).elim
  | bad => rw [ei] at q; exact q.elim
  | ok j =>
    rw [ei] at q
    simp only [R.ok_bind] at q
    cases eb : (decide (0 ≤ j) && decide (j ≤ 1000000)) with
    | false => rw [eb] at q; exact q.elim
    | true =>
      rw [eb, chk_true] at q
      rw [Bool.and_eq_true] at eb
      have j0 := of_decide_eq_true eb.1
      have j1 := of_decide_eq_true eb.2
      cases ek : noX (mapR (kkR kf N.length) (rgI 0 j)) with
      | exc k p => exact (noX_ne _ k p ek).elim
      | bad => rw [ek] at q; exact q.elim
      | ok ks =>
        rw [ek] at q
        simp only [R.ok_bind] at q
        cases ec : srtC ks with
        | false => rw [ec] at q; exact q.elim
        | true =>
          rw [ec, chk_true] at q
          rw [S.i_eq ei] at bv
          have ej : ((j.toNat : Nat) : Int) = j := Int.toNat_of_nonneg j0
          refine ⟨j, bv_int bv, fun r hr => ⟨H1, r, j.toNat, O, ks, rfl, hr, by rw [ej], by omega, (rep.same s1).dom, (rep.same s1).tabs, by rw [ej]; exact noX_inv ek, ec, fun p H2 ys sm hp dy => ?_⟩⟩
          rw [ej] at dy
          exact q _ _ (s1.trans (sm.trans (same_new hp))) (bv_newL ((rep.same s1).same sm).dom hp dy) ⟨p, rfl, (s1.trans sm).free (.of hp)⟩
end
end DL

set_option Elab.async false
set_option linter.all false
set_option maxRecDepth 100000
set_option maxHeartbeats 2000000
/-! DL30: sorted(d, key=f), d a dict. -/
namespace DL
open PySem PySem.Spec L2
section
open PyProof PyProof.Rows
variable {prog : Program} {w : World} {A : Around} {E : Value → Shared → Prop} {s : Shared}
/-- the list of what is walked -/
theorem collect_kdl {ty : String} {r d : Addr} {n : Nat} {It : Nat → Value → Prop} {Ok : Heap → Prop} {Q : List Value → Shared → Prop} (Src : PySem.W.KdlSrc prog w ty r d n It Ok) (hh : A.handled = none) (ok : Ok s.heap) (hn : n ≤ sizeLine)
    (hQ : ∀ (g : Heap) (k : Nat) (xs : Array Value), (∀ b u, s.heap.get? b = some u → g.get? b = some u) → ItemsOf It xs n → Q xs.toList { s with heap := g, toks := k }) : wpAny (model prog w) A (collect (.ref r)) Q E s := by
  have far := Src.there _ ok
  unfold collect
  refine wpAny_bind (wpAny_runValue (codeAny_builtin F.entry_proto_collect ?_))
  rw [Around.under_plainId F.plain_proto_collect _]
  refine wpAny_bind (m := newList []) (wpAny_newObj_type (wpAny_pure ⟨plainId_quiet F.plain_list_iadd _, codeAny_builtin F.entry_list_iadd ?_⟩))
  rw [Around.under_plainId F.plain_list_iadd _]
  have bare : (s.heap.push { cls := .type "list", data := .seq ([] : List Value).toArray }).get? s.heap.objs.size = some { cls := .type "list", data := .seq #[] 0 } := Heap.get?_push_size _ rfl
  show wpAny _ A.in1 (Builtin.List.listExtendWith (.ref s.heap.objs.size) (.ref r) (.ref s.heap.objs.size)) _ _ { s with heap := s.heap.push { cls := .type "list", data := .seq ([] : List Value).toArray } }
  let Got : Result → Shared → Prop := fun q z => q = .ok (.ret (.ref s.heap.objs.size)) ∧ ∃ (g : Heap) (k : Nat) (xs : Array Value) (c : Nat), z = { s with heap := g, toks := k } ∧ (∀ b u, s.heap.get? b = some u → g.get? b = some u) ∧ g.get? s.heap.objs.size = some { cls := .type "list", dict := none, data := .seq xs c, slots := #[] } ∧ ItemsOf It xs n
  refine wpAny_mono (PySem.W.kdl_extend (A := A) (R := Got) Src hh (Src.keep _ _ ok fun b _ u q => Heap.get?_push_of_some _ q) s.heap.objs.size (Nat.ne_of_gt far.1) (Nat.ne_of_gt far.2) (.ref s.heap.objs.size) 0 bare
    (fun g k xs c hk hS hi => ⟨rfl, g, k, xs, c, rfl, fun b u q => hk b u (Nat.ne_of_lt (Heap.lt_size q)) (Heap.get?_push_of_some _ q), hS, hi⟩) hn) (fun fl z hz => ?_) fun e z hz => ?_
  · cases fl with
    | done q =>
      obtain ⟨e, g, k, xs, c, rfl, hk, hS, hi⟩ := hz
      cases e
      exact wpAny_bind (wpAny_load hS (wpAny_pure (hQ g k xs hk hi)))
    | again c1 =>
      refine ⟨hz.1, codeAny_mono hz.2 fun q z' hz' => ?_⟩
      obtain ⟨rfl, g, k, xs, c, rfl, hk, hS, hi⟩ := hz'
      exact wpAny_bind (wpAny_load hS (wpAny_pure (hQ g k xs hk hi)))
  · exact absurd hz.1 (by simp)
end
section
variable {X : Cx} {C : Cfg} {W : WX} {pins : List (Addr × Obj)} {σ : L2.St} {s s' s'' : Shared} {H H' H'' : Hp}
open PySem.W PyProof.Rows in
/-- sorted(v, key=f), v anything that can be walked -/
theorem sorted_src {O : List Addr} {f : Addr} {v : Value} {k n : Nat} {kf : Env → R S} {bs : List PyData} {kk : PyData → PyData} {Q : Value → Shared → Prop} {F : Value → Shared → Prop} (I : L2.Inv X pins σ H s) (L : KeyL X C H s f k kf n) (hr : Room (k + 1) X.A) (hd : Dom H O)
    (col : ∀ (A : Around) (E' : Value → Shared → Prop) (Q' : List Value → Shared → Prop), A.handled = none → (∀ g t us, (∀ b u, s.heap.get? b = some u → g.get? b = some u) → KeyOk X H O kf n kk us bs → Q' us { s with heap := g, toks := t }) → wpAny (model X.prog X.w) A (collect v) Q' E' s)
    (h : ∀ s3 H2 xs a, Beh X C s H s3 (L2.upd H2 a (.lst xs)) → Sm C H H2 → H2 a = none → DpAll X.K (Hm H2 O) xs (bs.mergeSort (dataLe false kk)) → Q (.ref a) s3) :
    wpAny (model X.prog X.w) X.A (call (.builtin "sorted") [v] [(Str.ofString "key", .ref f)]) Q F s := by
  refine call_function_entry_kw kind_sorted plain_sorted entry_sorted (ksk_s1 _ _) ?_
  unfold Builtin.«sorted»
  refine wpAny_bind (m := checkCount "sorted" 1 1 _) (wpAny_pure ?_)
  refine wpAny_bind (col _ _ _ (by have := hr.hd; simp [this]) fun g t us kp ko => ?_)
  have lv : us.length ≤ sizeLine := by rw [ko.each.length]; exact ko.few
  have b1 : Beh X C s H { s with heap := g, toks := t } H := (Beh.start I).put fun c u _ q => kp c u q
  refine wpAny_bind (wpAny_newList ?_ lv)
  have I1 : L2.Inv X pins σ H { s with heap := g, toks := t } := Beh.inv I b1
  have here : (g.push (seqObj "list" us.toArray 0)).get? g.objs.size = some (seqObj "list" us.toArray 0) := Heap.get?_push_size _ rfl
  have b2 : Beh X C { s with heap := g, toks := t } H { s with heap := g.push (seqObj "list" us.toArray 0), toks := t } H := (Beh.start I1).put fun c u _ q => Heap.get?_push_of_some _ q
  refine wpAny_bind (wpAny_holding (wpAny_call_entry_kw slot_list_sort ⟨_, here, rfl⟩ entry_list_sort ?_ (ksk_l1 _ _)))
  rw [ksk_t1]
  refine keyJ_sort (s := { s with heap := g, toks := t }) I1 (L.later b1) hr hd ko (Nat.le_refl _) b2 here fun s3 H2 xs b3 sm m q => ⟨_, rfl, ?_⟩
  exact wpAny_pure ⟨_, rfl, h s3 H2 xs _ (b1.trans b3) sm m q⟩
/-- a key as data -/
def keyP : Key → PyData
  | .inl i => .int i
  | .inr x => .str x
theorem dp_key {K : PySem.W.Frag} {H : Hp} : ∀ k : Key, Dp K H (L2.kV k) (keyP k)
  | .inl i => .int i
  | .inr x => .str x
theorem dpa_keys {K : PySem.W.Frag} {H : Hp} {β : Type} : ∀ kvs : List (Key × β), DpAll K H (kvs.map fun kv => L2.kV kv.1) (kvs.map fun kv => keyP kv.1)
  | [] => .nil
  | kv :: r => .cons (dp_key kv.1) (dpa_keys r)
open PySem.W PyProof.Rows in
/-- sorted(d, key=f), d a dict -/
theorem sorted_dict {O : List Addr} {f d : Addr} {k n : Nat} {kf : Env → R S} {kvs : List (Key × V)} {kk : PyData → PyData} {Q : Value → Shared → Prop} {F : Value → Shared → Prop} (I : L2.Inv X pins σ H s) (L : KeyL X C H s f k kf n) (hr : Room (k + 1) X.A) (hd : Dom H O)
    (hk : H d = some (.dK kvs)) (ko : ∀ vs, Vals (kvs.map fun kv => L2.kV kv.1) vs → KeyOk X H O kf n kk vs (kvs.map fun kv => keyP kv.1))
    (h : ∀ s3 H2 xs a, Beh X C s H s3 (L2.upd H2 a (.lst xs)) → Sm C H H2 → H2 a = none → DpAll X.K (Hm H2 O) xs ((kvs.map fun kv => keyP kv.1).mergeSort (dataLe false kk)) → Q (.ref a) s3) :
    wpAny (model X.prog X.w) X.A (call (.builtin "sorted") [.ref d] [(Str.ofString "key", .ref f)]) Q F s := by
  refine sorted_src I L hr hd (fun A E' Q' hh q' => ?_) h
  obtain ⟨z, lo, vs, rk, hat⟩ := (show ObjOk X.prog X.w H s.heap d (.dK kvs) from I.hok d _ hk)
  obtain ⟨ep, hat⟩ := hat.dictAt
  have hl : kvs.length = vs.length := Paired.length rk
  refine collect_kdl (PySem.W.kdl_dict (knd := mixKind X.prog X.w) (kvs := vs) (ep := ep) lo) hh hat (by rw [← hl]; exact z) fun g t xs kp hi => q' g t _ kp (ko _ ?_)
  have el : xs.toList.length = xs.size := by simp
  refine L2.vals_of_at (by rw [List.length_map, el, hi.1, hl]) fun j x w h1 h2 => ?_
  obtain ⟨c, y, e1, e2⟩ := hi.2 j w (by rw [← Array.getElem?_toList]; exact h2)
  have e3 : (kvs.map (·.1))[j]? = some c := by
    rw [L2.KV.keys rk, List.getElem?_map, e1] <;> rfl
  rw [List.getElem?_map] at h1 e3
  cases e4 : kvs[j]? with
  | none => rw [e4] at e3; cases e3
  | some kv =>
    rw [e4] at h1 e3
    cases h1
    cases e3
    exact L2.keyIs_rel e2
end
end DL

set_option Elab.async false
set_option linter.all false
set_option maxRecDepth 100000
set_option maxHeartbeats 1000000
/-! DL31: a def called without arguments. -/
namespace DL
open PySem PySem.Spec L2
section
variable {X : Cx} {C : Cfg} {W : WX} {x : Str} {p pos : Pos} {st : Stmt} {ps : List Str} {k j n : Nat} {m : List S → R S}
def kCall0 (n : Nat) (m : List S → R S) : Env → R S := fun _ => chk (decide (0 = n)) (noX (m []))
theorem de_callC0 (c : Cal X.prog X.w X.K X.mg X.base k x st ps (spD X.K C n m)) (hb : BindP x st ps) (hr : Room j X.A) (hj : k ≤ j) (hg : Gl X x) (hdb : (x == ("__debug__" : Str)) = false := by decide) : DE X C W (.Call (.Name x p) [] [] pos) (kCall0 n m) := by
  obtain ⟨_, _, hm, hF, F⟩ := c
  refine PE.imp (pe_call0 (E := fun _ _ _ => False) F (hr.mono hj) hg hm hF.kp (hF.binds hb) .nil (fun _ _ _ _ _ _ _ q => ?_) hdb) fun σ H Q ⟨δ, O, rep, w⟩ => ?_
  · obtain ⟨_, _, _, _, _, _, _, _, _, _, _, _, h⟩ := q
    exact h.elim
  unfold kCall0 at w
  cases ec : decide (0 = n) with
  | true =>
    rw [ec, chk_true] at w
    refine ⟨[], O, rep.dom, rep.tabs, of_decide_eq_true ec, (fun s h => by cases h), .nil, ?_⟩
    cases em : m [] with
    | ok z => rw [em] at w; exact w
    | exc k p => rw [em] at w; exact w.elim
    | bad => rw [em] at w; exact w.elim
  | false => rw [ec, chk_false] at w; exact w.elim
end
end DL

set_option Elab.async false
set_option linter.all false
set_option maxRecDepth 100000
set_option maxHeartbeats 1000000
/-! DL32: dict(pairs), and sorted(d, key=lambda y: e). -/
namespace DL
open PySem PySem.Spec L2
def keyOf? : PyData → Option Key
  | .int i => some (.inl i)
  | .str x => some (.inr x)
  | _ => none
def pairR : List PyData → R (List (Key × PyData))
  | [] => .ok []
  | .tuple [k, v] :: r => match keyOf? k with
    | some q => do let z ← pairR r; .ok ((q, v) :: z)
    | none => .bad
  | _ :: _ => .bad
theorem pairR_ne : ∀ ds k p, pairR ds ≠ .exc k p
  | [], k, p => by intro h; cases h
  | d :: r, k, p => by
    unfold pairR
    split
    · rename_i h; cases h
    · rename_i h; cases h
      split
      · exact bind_ne (pairR_ne r) (fun _ => ok_ne _) k p
      · exact bad_ne k p
    · exact bad_ne k p
def putP (kvs : List (Key × PyData)) (k : Key) (v : PyData) : List (Key × PyData) :=
  if (kvs.any fun kv => decide (kv.1 = k)) = true then kvs.map (fun kv => if kv.1 = k then (kv.1, v) else kv) else kvs ++ [(k, v)]
def mergeP (kvs more : List (Key × PyData)) : List (Key × PyData) := more.foldl (fun acc kv => putP acc kv.1 kv.2) kvs
section
variable {K : PySem.W.Frag} {H : Hp}
theorem kv_any {k : Key} : ∀ {vs : List (Key × V)} {xs : List (Key × PyData)}, KvAll K H vs xs → (vs.any fun kv => decide (kv.1 = k)) = xs.any fun kv => decide (kv.1 = k)
  | [], [], _ => rfl
  | (a, v) :: r, (b, x) :: r', h => by
    obtain ⟨rfl, _, h⟩ := h
    simp only [List.any_cons, kv_any h]
theorem kv_put {k : Key} {v : V} {x : PyData} (hv : Dp K H v x) {vs : List (Key × V)} {xs : List (Key × PyData)} (h : KvAll K H vs xs) : KvAll K H (putK vs k v) (putP xs k x) := by
  unfold putK putP
  rw [kv_any h]
  split
  · have go : ∀ {vs : List (Key × V)} {xs : List (Key × PyData)}, KvAll K H vs xs → KvAll K H (vs.map fun kv => if kv.1 = k then (kv.1, v) else kv) (xs.map fun kv => if kv.1 = k then (kv.1, x) else kv) := by
      intro vs
      induction vs with
      | nil => intro xs h; cases xs with
        | nil => trivial
        | cons _ _ => exact h.elim
      | cons a r ih =>
        intro xs h
        cases xs with
        | nil => exact h.elim
        | cons b r' =>
          obtain ⟨a1, a2⟩ := a
          obtain ⟨b1, b2⟩ := b
          obtain ⟨rfl, hd, h⟩ := h
          simp only [List.map_cons]
          by_cases e : a1 = k
          · simp only [e, if_true]; exact ⟨rfl, hv, ih h⟩
          · simp only [e, if_false]; exact ⟨rfl, hd, ih h⟩
    exact go h
  · have go : ∀ {vs : List (Key × V)} {xs : List (Key × PyData)}, KvAll K H vs xs → KvAll K H (vs ++ [(k, v)]) (xs ++ [(k, x)]) := by
      intro vs
      induction vs with
      | nil => intro xs h; cases xs with
        | nil => exact ⟨rfl, hv, trivial⟩
        | cons _ _ => exact h.elim
      | cons a r ih =>
        intro xs h
        cases xs with
        | nil => exact h.elim
        | cons b r' =>
          obtain ⟨a1, a2⟩ := a
          obtain ⟨b1, b2⟩ := b
          obtain ⟨rfl, hd, h⟩ := h
          exact ⟨rfl, hd, ih h⟩
    exact go h
theorem kv_merge : ∀ {ms : List (Key × V)} {zs : List (Key × PyData)} {vs : List (Key × V)} {xs : List (Key × PyData)}, KvAll K H ms zs → KvAll K H vs xs → KvAll K H (mergeK vs ms) (mergeP xs zs)
  | [], [], _, _, _, h => h
  | (a, v) :: r, (b, x) :: r', vs, xs, hm, h => by
    obtain ⟨rfl, hd, hm⟩ := hm
    exact kv_merge (vs := putK vs a v) (xs := putP xs a x) hm (kv_put hd h)
theorem key_rel {d : PyData} {q : Key} {y : V} (e : keyOf? d = some q) (h : Dp K H y d) : y = L2.kV q := by
  unfold keyOf? at e
  split at e
  · cases e; cases h; rfl
  · cases e; cases h; rfl
  · cases e
theorem pairs_split {H' : Hp} (sm : Same H H') : ∀ {ds : List PyData} {xs : List V} {kvs : List (Key × PyData)}, DpAll K H xs ds → pairR ds = .ok kvs → ∃ (ps : List Addr) (vs : List (Key × V)), xs = ps.map V.ref ∧ Paired (fun p kv => SqT K H' p [L2.kV kv.1, kv.2]) ps vs ∧ KvAll K H vs kvs
  | [], _, kvs, .nil, h => by cases h; exact ⟨[], [], rfl, .nil, trivial⟩
  | d :: ds, x :: xs, kvs, .cons hd r, h => by
    unfold pairR at h
    split at h
    · rename_i q; cases q
    · rename_i k v r' q
      cases q
      split at h
      · rename_i q eq
        obtain ⟨z, e1, h⟩ := bind_ok h
        cases h
        obtain ⟨ps, vs, rfl, h1, h2⟩ := pairs_split sm r e1
        cases hd with
        | tup ht hr =>
          cases hr with
          | cons a1 a2 =>
            cases a2 with
            | cons b1 b2 =>
              cases b2
              have e := key_rel eq a1
              subst e
              exact ⟨_ :: ps, (q, _) :: vs, rfl, .cons (sqT_same sm ht) h1, rfl, b1, h2⟩
      · cases h
    · cases h
end
section
variable {X : Cx} {C : Cfg} {W : WX}
def dictS (s : S) : R S := do let ds ← s.lst; let kvs ← pairR ds; .ok (.k .fr (mergeP [] kvs))
theorem bv_newK {K : PySem.W.Frag} {H : Hp} {O : List Addr} {p : Addr} {xs : List (Key × V)} {ds : List (Key × PyData)} (hd : ∀ a ∈ O, ∃ o, H a = some o ∧ Mut (some o)) (hp : H p = none) (r : KvAll K (Hm H O) xs ds) : BV K C (L2.upd H p (.dK xs)) O (.ref p) (.k .fr ds) :=
  .fk (not_mem_dom hd hp) upd_same (by
    have n : p ∉ O := not_mem_dom hd hp
    refine kv_same (fun b o e => ?_) r
    obtain ⟨m, q⟩ := hm_some e
    have ne : b ≠ p := ne_of_none q hp
    exact hm_mk (by simp [ne, m]) (by rw [upd_ne ne]; exact q) (hm_nt e))
theorem c_dict (hc : X.calm = true) : DCall X C (.type "dict") (on1 dictS) := dc1 (call_dictP hc) (fun s => bind_ne (lst_ne s) fun _ => bind_ne (pairR_ne _) fun _ => ok_ne _) fun O v s z H Q hd b e k => by
  obtain ⟨ds, e1, e⟩ := bind_ok e
  obtain ⟨kvs, e2, e⟩ := bind_ok e
  cases e
  obtain ⟨a, xs, rfl, h, r⟩ := bv_lst b e1
  obtain ⟨ps, vs, rfl, h1, h2⟩ := pairs_split hm_le r e2
  exact ⟨a, ps, vs, rfl, h, h1, fun p hp => k _ _ (same_new hp) (bv_newK hd hp (kv_merge h2 trivial)) ⟨p, rfl, .of hp⟩⟩
end
end DL

set_option Elab.async false
set_option linter.all false
set_option maxRecDepth 100000
set_option maxHeartbeats 1000000
/-! DL33: sorted(x, key=lambda y: e), x a list or a dict. -/
namespace DL
open PySem PySem.Spec L2
section
variable {X : Cx} {C : Cfg} {W : WX} {a : Expr} {ta : TE} {k : Nat} {params : Arguments} {body : Expr} {scope : Scope} {N : List Str} {y : Str} {kf : Env → R S} {p kpos lpos pos : Pos} {f : Env → R S}
def tKeyA (X : Cx) (C : Cfg) (kf : Env → R S) (n : Nat) (ta : TE) : TE := fun σ H Q => ta σ H fun x H1 => ∃ O l ds ks, x = V.ref l ∧ (∀ H2, Sm C H1 H2 → (∃ xs, SqL X.K H2 l xs ∧ DpAll X.K (Hm H2 O) xs ds) ∨ ∃ kvs, H2 l = some (.dK kvs) ∧ ds = kvs.map fun kv => keyP kv.1) ∧ Dom H1 O ∧ LamX.Tabs C.T H1 ∧ mapR (kkR kf n) ds = .ok ks ∧ srtC ks = true ∧
  ∀ p H2 ys, Sm C H1 H2 → H2 p = none → DpAll X.K (Hm H2 O) ys (isort (dLe (kkOf kf n)) ds) → Q (.ref p) (L2.upd H2 p (.lst ys))
theorem pe_sortKeyA (Kl : KeyLam X C k params body scope N y kf) (hl : LamH X C) (hr : Room (k + 2) X.A) (hg : Gl X "sorted") (hm : X.mg "sorted" = none) (ha : PE X a ta)
    (he : backTo pos (starEach [a] X.env) = (false, eval a X.env) :: backTo pos (starEach [] X.env) := by rfl) (hpl : (backTo pos (starEach [a] X.env)).any (·.1) = false := by rfl) :
    PE X (.Call (.Name "sorted" p) [a] [⟨some "key", .Lambda params body scope lpos, kpos⟩] pos) (tKeyA X C kf N.length ta) := by
  refine ⟨fun pins s σ H Q I h => ?_⟩
  refine wpAny_Call_Name_kw (ld_blt I hg hm (by boot_by_name) ?_)
  refine PyProof.Rows.callWith_kw ?_ he hpl rfl rfl
  rw [he]
  refine Calls.spliced_cons (thn (ha.run pins s σ H _ I h) fun v s1 ⟨x, H1, I1, r1, q1⟩ => Calls.spliced_nil ?_)
  obtain ⟨O, l, ds, ks, rfl, hsq, hd, hT, hk, hc, q⟩ := q1
  cases r1
  refine wpAny_evalAll_cons (wpAny_bind (key_made Kl hl I1 hT fun f H2 s2 I2 sm KL => wpAny_bind (wpAny_standAt (wpAny_pure (wpAny_evalAll_nil ?_)))))
  have hu : X.A.units + 64 < cLine := by have := hr.un; omega
  rcases hsq H2 sm with ⟨xs, hq, dx⟩ | ⟨kvs, hq, rfl⟩
  · obtain ⟨its, rv, pl, hz⟩ := I2.list hq
    refine sorted_list (k := k + 1) I2 KL hr (hd.same sm) (keyOk_of (n := N.length) hu (dpa_each (R := fun _ _ _ => True) dx rv) hk hc) pl.isList fun s3 H3 ys b3 B sm3 hn dy => ?_
    rw [dLe_sort] at dy
    exact ⟨.ref b3, _, Beh.inv I2 B, rfl, q b3 H3 ys (sm.trans sm3) hn dy⟩
  · refine sorted_dict (k := k + 1) (O := O) I2 KL hr (hd.same sm) hq (fun vs hv => keyOk_of (n := N.length) hu (dpa_each (R := fun _ _ _ => True) (dpa_keys kvs) hv) hk hc) fun s3 H3 ys b3 B sm3 hn dy => ?_
    rw [dLe_sort] at dy
    exact ⟨.ref b3, _, Beh.inv I2 B, rfl, q b3 H3 ys (sm.trans sm3) hn dy⟩
/-- what is walked: a list, or a dict's keys -/
def S.keyed : S → R (List PyData)
  | .k _ kvs => .ok (kvs.map fun kv => keyP kv.1)
  | s => s.lst
theorem keyed_ne (s : S) : ∀ k p, s.keyed ≠ .exc k p := by
  intro k p
  unfold S.keyed
  split
  · exact ok_ne _ k p
  · exact lst_ne s k p
theorem kv_keys {K : PySem.W.Frag} {H : Hp} : ∀ {vs : List (Key × V)} {xs : List (Key × PyData)}, KvAll K H vs xs → (vs.map fun kv => keyP kv.1) = xs.map fun kv => keyP kv.1
  | [], [], _ => rfl
  | (a, v) :: r, (b, x) :: r', h => by
    obtain ⟨rfl, _, h⟩ := h
    simp only [List.map_cons, kv_keys h]
theorem keyed_of {K : PySem.W.Frag} {H : Hp} {O : List Addr} {v : V} {s : S} {ds : List PyData} (b : BV K C H O v s) (e : s.keyed = .ok ds) : ∃ l, v = .ref l ∧ ((∃ xs, SqL K H l xs ∧ DpAll K (Hm H O) xs ds) ∨ ∃ kvs, H l = some (.dK kvs) ∧ ds = kvs.map fun kv => keyP kv.1) := by
  cases s with
  | k m kvs =>
    cases e
    cases b with
    | fk h1 h2 h3 => exact ⟨_, rfl, .inr ⟨_, h2, (kv_keys h3).symm⟩⟩
    | ok h1 h2 h3 => exact ⟨_, rfl, .inr ⟨_, h2, (kv_keys h3).symm⟩⟩
  | d x => obtain ⟨l, xs, rfl, h, r⟩ := bv_lst b e; exact ⟨l, rfl, .inl ⟨xs, h, r⟩⟩
  | l m x => obtain ⟨l, xs, rfl, h, r⟩ := bv_lst b e; exact ⟨l, rfl, .inl ⟨xs, h, r⟩⟩
  | obj c x => obtain ⟨l, xs, rfl, h, r⟩ := bv_lst b e; exact ⟨l, rfl, .inl ⟨xs, h, r⟩⟩
def srtKA (kf : Env → R S) (n : Nat) (s : S) : R S := do
  let ds ← s.keyed
  let ks ← noX (mapR (kkR kf n) ds)
  chk (srtC ks) (.ok (.l .fr (isort (dLe (kkOf kf n)) ds)))
/-- sorted(x, key=lambda y: e), x a list or a dict -/
theorem de_sortKeyA (Kl : KeyLam X C k params body scope N y kf) (hl : LamH X C) (hr : Room (k + 2) X.A) (hg : Gl X "sorted") (hm : X.mg "sorted" = none) (ha : DE X C W a f)
    (he : backTo pos (starEach [a] X.env) = (false, eval a X.env) :: backTo pos (starEach [] X.env) := by rfl) (hpl : (backTo pos (starEach [a] X.env)).any (·.1) = false := by rfl) :
    DE X C W (.Call (.Name "sorted" p) [a] [⟨some "key", .Lambda params body scope lpos, kpos⟩] pos) (kU (srtKA kf N.length) f) := by
  refine PE.imp (pe_sortKeyA Kl hl hr hg hm ha he hpl) fun σ H Q ⟨δ, O, rep, w⟩ => ?_
  refine seq1 (PQ := Post X.K C W σ H O Q) rep w (fun k p q => q) (fun q => q) fun s e q v H1 s1 bv fr => ?_
  unfold srtKA at q
  cases el : s.keyed with
  | exc k p => exact (keyed_ne s k p el).elim
  | bad => rw [el] at q; exact q.elim
  | ok ds =>
    rw [el] at q
    simp only [R.ok_bind] at q
    cases ek : noX (mapR (kkR kf N.length) ds) with
    | exc k p => exact (noX_ne _ k p ek).elim
    | bad => rw [ek] at q; exact q.elim
    | ok ks =>
      rw [ek] at q
      simp only [R.ok_bind] at q
      cases ec : srtC ks with
      | false => rw [ec] at q; exact q.elim
      | true =>
        rw [ec, chk_true] at q
        obtain ⟨l, rfl, _⟩ := keyed_of bv el
        refine ⟨O, l, ds, ks, rfl, fun H2 sm => ?_, (rep.same s1).dom, (rep.same s1).tabs, noX_inv ek, ec, fun p H2 ys sm hp dy => ?_⟩
        · obtain ⟨l', e', h⟩ := keyed_of (bv_same sm bv) el
          cases e'
          exact h
        · exact q _ _ (s1.trans (sm.trans (same_new hp))) (bv_newL ((rep.same s1).same sm).dom hp dy) ⟨p, rfl, (s1.trans sm).free (.of hp)⟩
end
end DL

set_option Elab.async false
set_option linter.all false
set_option maxRecDepth 100000
set_option maxHeartbeats 2000000
/-! DL34: what the top leaves, by looks: defs, classes, own errors, tables for lambdas. -/
namespace DL
namespace Hd
open PySem PySem.Spec PyProof.Rows L2
/-- a function as it is looked at -/
abbrev Fv : Type := Option (Str × Str × Arguments × FuncBody × Scope × Addr × List Str × Addr)
def fv (K : PySem.W.Frag) (p : Str × Option Str) : Fv := match K.lookup (He.fAd K p) with
  | some ⟨_, _, .func u, _⟩ => some (u.name, u.qualname, u.params, u.body, u.scope, u.globals, u.closure.map (·.1), u.builtins)
  | _ => none
/-- a def of the text: where it stands, its name, its full name, its text, what it closes over -/
structure Fd where
  at_ : Str × Option Str
  nm : Str
  qn : Str
  pr : Arguments
  bd : List Stmt
  sc : Scope
  cl : List Str := []
def Fd.val (d : Fd) : Fv := some (d.nm, d.qn, d.pr, .stmts d.bd, d.sc, mainGlobals, d.cl, builtinsNs)
def noneV : Value → Bool
  | .none => true
  | _ => false
theorem noneV_eq {v : Value} (h : noneV v = true) : v = .none := by
  cases v <;> first | rfl | cases h
def Fd.ok (K : PySem.W.Frag) (d : Fd) : Bool := PySem.W.keepIn K (.ref (He.fAd K d.at_)) && (match K.lookup (He.fAd K d.at_) with
  | some ⟨_, _, .func u, _⟩ => PySem.W.codeIn K u.code d.qn && (noneV u.defaults && noneV u.kwdefaults)
  | _ => false)
theorem fd_of {K : PySem.W.Frag} {d : Fd} (e : fv K d.at_ = d.val) (c : d.ok K = true) : PySem.W.keepIn K (.ref (He.fAd K d.at_)) = true ∧ ∃ (oc : Value) (od : Option Addr) (cl : List (Str × Addr)) (doc pm : Value) (an : Option Addr) (cdv ct : Value) (osl : Array (Option Value)),
    K.lookup (He.fAd K d.at_) = some ⟨oc, od, .func (PySem.W.fnX d.nm d.qn d.pr d.bd d.sc cl .none .none doc pm an cdv ct), osl⟩ ∧ PySem.W.codeIn K cdv d.qn = true ∧ cl.map (·.1) = d.cl := by
  obtain ⟨kp, c2⟩ := He.ba c
  refine ⟨kp, ?_⟩
  unfold fv at e
  cases q : K.lookup (He.fAd K d.at_) with
  | none => rw [q] at c2; cases c2
  | some o =>
    obtain ⟨oc, od, dt, osl⟩ := o
    rw [q] at c2 e
    cases dt with
    | func u =>
      obtain ⟨n1, n2, n3, n4, n5, n6, n7, n8, n9, n10, n11, n12, n13, n14, n15⟩ := u
      have e2 : (some (n1, n2, n3, n4, n5, n6, n7.map (·.1), n15) : Fv) = some (d.nm, d.qn, d.pr, .stmts d.bd, d.sc, mainGlobals, d.cl, builtinsNs) := e
      simp only [Option.some.injEq, Prod.mk.injEq] at e2
      obtain ⟨h1, h2, h3, h4, h5, h6, h7, h8⟩ := e2
      subst h1 h2 h3 h4 h5 h6 h8
      have c3 : (PySem.W.codeIn K n13 d.qn && (noneV n8 && noneV n9)) = true := c2
      obtain ⟨k1, k2⟩ := He.ba c3
      obtain ⟨k3, k4⟩ := He.ba k2
      rw [noneV_eq k3, noneV_eq k4]
      exact ⟨_, _, _, _, _, _, _, _, _, rfl, k1, h7⟩
    | _ => cases c2
/-- an own error's class at a: the object, its makers -/
def xo (K : PySem.W.Frag) (a : Addr) (f : Str) : Bool := (match K.lookup a with
  | some ⟨.type "type", _, .cls u, sl⟩ => (match u.mro, sl.toList with
    | .ref b :: bm, [_, _, _, _, some (.builtin n), _] => b == a && (n == "ValueError.__new__" && (!u.hasDel && (u.hasDict && PySem.HandSPX.refsVE bm)))
    | _, _ => false)
  | _ => false) && (He.eqO (PySem.W.findIn K (.ref a) "__setattr__") (some (some (.builtin "object.__setattr__"))) && (He.eqO (PySem.W.findIn K (.ref a) "__getattribute__") (some (some (.builtin "BaseException.__getattribute__"))) && (He.eqO (PySem.W.findIn K (.ref a) "__getattr__") (some none) &&
  (He.eqO (PySem.W.findIn K (.ref a) f) (some none) && (He.eqO (PySem.W.findIn K (.ref a) "__init__") (some (some (.ref (He.ma K a "__init__")))) && (decide (PySem.W.typeIn K (.ref (He.ma K a "__init__")) = some (.type "function")) && (PySem.W.keepIn K (.ref a) &&
  (decide (PySem.W.subIn K (.ref a) (.type "BaseException") = some true) && (decide (PySem.W.typeIn K (.ref a) = some (.type "type")) && (PySem.W.hasDictIn K a && (He.eqO (PySem.W.nsIn K cStatics "thirdparty.any") (some none) &&
  (He.eqO (PySem.W.ks_superIn K a a "__init__") (some (some (.builtin "ValueError.__init__"))) && (decide (PySem.W.subIn K (.ref a) (.type "ValueError") = some true) && decide (PySem.W.mroIn K a (.ref a) = some true))))))))))))))
/-- its __init__: the cell, the file -/
def xi (K : PySem.W.Frag) (a : Addr) (file : Str) : Bool := match K.lookup (He.ma K a "__init__") with
  | some ⟨_, _, .func u, _⟩ => (match u.closure, u.code with
    | [(_, cc)], .ref cd => (match K.lookup cc, K.lookup cd with
      | some ⟨_, _, .cell (some (.ref b)), _⟩, some ⟨_, _, .fields vs, _⟩ => b == a && (match (vs[2]? : Option Value) with
        | some (Value.str z _) => file == z
        | _ => false)
      | _, _ => false)
    | _, _ => false)
  | _ => false
/-- what is asked of the top -/
structure Ask where
  n : Nat
  fa : List He.Fa
  fn : List Fd
  tf : List (Str × Option Str)
  xs : List (Str × Str)
  file : Str
def look (g : Addr → Option Obj) (n : Nat) : PySem.W.Frag := He.frT g (He.asD g n ++ [cStatics])
def allB (T : Ask) (g : Addr → Option Obj) (K : PySem.W.Frag) : Bool := (T.fa.all fun f => f.ok K) && ((T.fn.all fun d => d.ok K) && ((T.xs.all fun x => xo K (He.ga K x.1) x.2 && xi K (He.ga K x.1) T.file) && (He.tabsB g T.tf K && decide (T.tf.map fun p => (He.cT K p).2).Nodup)))
def obs (T : Ask) (g : Addr → Option Obj) : Bool × List Fv := (allB T g (look g T.n), T.fn.map fun d => fv (look g T.n) d.at_)
def Ask.val (T : Ask) : Bool × List Fv := (true, T.fn.map Fd.val)
structure Says (T : Ask) (h : Heap) (K : PySem.W.Frag) : Prop where
  fa : ∀ f ∈ T.fa, f.ok K = true
  fn : ∀ d ∈ T.fn, d.ok K = true ∧ fv K d.at_ = d.val
  xs : ∀ x ∈ T.xs, xo K (He.ga K x.1) x.2 = true ∧ xi K (He.ga K x.1) T.file = true
  hd : ∀ p ∈ T.tf, PySem.W.codeHdIn K (He.cT K p).1 (He.cT K p).2 = true
  out : ∀ p ∈ T.tf, K.lookup (He.cT K p).2 = none
  em : ∀ p ∈ T.tf, h.get? (He.cT K p).2 = some { cls := .none, data := .fields #[] }
  nd : (T.tf.map fun p => (He.cT K p).2).Nodup
theorem map_mem {α β : Type} {f g : α → β} : ∀ {l : List α}, l.map f = l.map g → ∀ a ∈ l, f a = g a
  | [], _, a, h => by cases h
  | b :: l, e, a, h => by
    rw [List.map_cons, List.map_cons] at e
    injection e with e1 e2
    rcases List.mem_cons.mp h with rfl | h
    · exact e1
    · exact map_mem e2 a h
theorem says_of {T : Ask} {h : Heap} (e : obs T h.get? = T.val) : Says T h (look h.get? T.n) := by
  have e1 : allB T h.get? (look h.get? T.n) = true := congrArg (fun z => z.1) e
  have e2 : (T.fn.map fun d => fv (look h.get? T.n) d.at_) = T.fn.map Fd.val := congrArg (fun z => z.2) e
  obtain ⟨c1, e1⟩ := He.ba e1
  obtain ⟨c2, e1⟩ := He.ba e1
  obtain ⟨c3, e1⟩ := He.ba e1
  obtain ⟨c4, c5⟩ := He.ba e1
  have key : ∀ p ∈ T.tf, PySem.W.codeHdIn (look h.get? T.n) (He.cT (look h.get? T.n) p).1 (He.cT (look h.get? T.n) p).2 = true ∧ ∃ o, h.get? (He.cT (look h.get? T.n) p).2 = some o ∧ He.emptyTab o = true := fun p hp => by
    obtain ⟨h3, h4⟩ := He.ba (List.all_eq_true.mp c4 p hp)
    refine ⟨h3, ?_⟩
    cases q : h.get? (He.cT (look h.get? T.n) p).2 with
    | none => rw [q] at h4; cases h4
    | some o => rw [q] at h4; exact ⟨o, rfl, h4⟩
  exact ⟨fun f m => List.all_eq_true.mp c1 f m, fun d m => ⟨List.all_eq_true.mp c2 d m, map_mem e2 d m⟩, fun x m => He.ba (List.all_eq_true.mp c3 x m), fun p m => (key p m).1,
    fun p m => let ⟨o, q, z⟩ := (key p m).2; He.frT_none q z, fun p m => by
      obtain ⟨o, q, z⟩ := (key p m).2
      rw [q, He.emptyTab_eq z], of_decide_eq_true c5⟩
def hook (T : Ask) : PySem.W.Hook where
  α := Bool × List Fv
  obs := fun s => obs T s.heap.get?
  val := fun _ => T.val
  says := fun _ h => ∃ K : PySem.W.Frag, K.In h ∧ Says T h K
  of := fun _ _ e => ⟨_, He.frT_in, says_of e⟩
  keeps := fun _ _ _ ⟨K, hK, c⟩ k => ⟨K, PySem.W.Frag.In.keeps hK k, ⟨c.fa, c.fn, c.xs, c.hd, c.out, fun p hp => k _ _ (c.em p hp), c.nd⟩⟩
def obT (T : Ask) (s : PySem.W.SharedT) : Bool × List Fv := obs T (HandSHeadRun.getT s)
theorem obT_eq (T : Ask) (s : PySem.W.SharedT) : obT T s = (hook T).obs s.abs := by
  have e : HandSHeadRun.getT s = s.abs.heap.get? := funext (HandSHeadRun.getT_eq s)
  unfold obT
  rw [e]
  rfl
section
variable {T : Ask} {h base : Heap} {K : PySem.W.Frag} {mg : Str → Option Value} {P : Program}
theorem Says.factC (c : Says T h K) (X : K.In h) (G : h.Ns mainGlobals mg) {x : Str} {st : Stmt} (d : ⟨(x, none), x, x, defArgs st, defBody st, defScope st, []⟩ ∈ T.fn) (g : He.Fa.glo x ∈ T.fa) : ∃ cdv, cdv = .ref (He.codeOf K (x, none)) ∧ FactC K mg x st cdv := by
  obtain ⟨d1, d2⟩ := c.fn _ d
  obtain ⟨kp, oc, od, cl, doc, pm, an, cdv, ct, osl, lk, hc, e⟩ := fd_of d2 d1
  have lk : K.lookup (He.ga K x) = some ⟨oc, od, .func (PySem.W.fnX x x (defArgs st) (defBody st) (defScope st) cl .none .none doc pm an cdv ct), osl⟩ := lk
  cases cl with
  | cons a b => cases e
  | nil =>
    obtain ⟨c0, rfl⟩ := He.codeIn_ref hc
    have ec : He.codeOf K (x, none) = c0 := He.codeOf_eq (p := (x, none)) lk rfl
    subst ec
    exact ⟨_, rfl, He.ga K x, oc, od, .none, doc, pm, an, ct, osl, He.glo_ok X G (c.fa _ g), lk, hc, kp⟩
theorem Says.fact (c : Says T h K) (X : K.In h) (G : h.Ns mainGlobals mg) {x : Str} {st : Stmt} (d : ⟨(x, none), x, x, defArgs st, defBody st, defScope st, []⟩ ∈ T.fn) (g : He.Fa.glo x ∈ T.fa) : Fact K mg x st :=
  let ⟨_, _, f⟩ := c.factC X G d g
  f.fact
/-- a method's text -/
theorem Says.methF (c : Says T h K) {x m qn : Str} {st : Stmt} (d : ⟨(x, some m), m, qn, defArgs st, defBody st, defScope st, []⟩ ∈ T.fn) : ∃ fd, L2.Fun K m qn st (He.ma K (He.ga K x) m) fd := by
  obtain ⟨d1, d2⟩ := c.fn _ d
  obtain ⟨kp, oc, od, cl, doc, pm, an, cdv, ct, osl, lk, hc, e⟩ := fd_of d2 d1
  cases cl with
  | cons a b => cases e
  | nil => exact ⟨_, fun_mk lk hc kp⟩
theorem Says.xfact (c : Says T h K) (X : K.In h) (G : h.Ns mainGlobals mg) {C : Cfg} {k : Nat} {x nm qi : Str} {p1 p2 q1 q2 q3 q4 q5 q6 q7 q8 q9 q10 : Pos} (hx : (x, nm) ∈ T.xs) (hC : C.exc k = He.ga K x) (hF : C.fld k = nm)
    (d : ⟨(x, some "__init__"), "__init__", qi, PySem.XOwn.xA nm p1 p2, PySem.XOwn.xBd nm q1 q2 q3 q4 q5 q6 q7 q8 q9 q10, PySem.XOwn.xSc nm, ["__class__"]⟩ ∈ T.fn) (g : He.Fa.glo x ∈ T.fa) (gs : He.Fa.free "super" ∈ T.fa)
    (tp : (P.main.scope.names.lookup ("super" : Str)).isSome = false) (hf : P.main.file = T.file) (ev : PySem.XOwn.EvOk nm q1 q2 q3 q4 q5 q6) : XFact P K mg C k x qi nm := by
  obtain ⟨d1, d2⟩ := c.fn _ d
  obtain ⟨kp, oc, od, cl, doc, pm, an, cdv, ct, osl, lk, hc, e⟩ := fd_of d2 d1
  obtain ⟨ho, hi⟩ := c.xs _ hx
  have lk : K.lookup (He.ma K (He.ga K x) "__init__") = some ⟨oc, od, .func (PySem.W.fnX "__init__" qi (PySem.XOwn.xA nm p1 p2) (PySem.XOwn.xBd nm q1 q2 q3 q4 q5 q6 q7 q8 q9 q10) (PySem.XOwn.xSc nm) cl .none .none doc pm an cdv ct), osl⟩ := lk
  obtain ⟨o0, ho⟩ := He.ba ho
  obtain ⟨o1, ho⟩ := He.ba ho
  obtain ⟨o2, ho⟩ := He.ba ho
  obtain ⟨o3, ho⟩ := He.ba ho
  obtain ⟨o4, ho⟩ := He.ba ho
  obtain ⟨o5, ho⟩ := He.ba ho
  obtain ⟨o6, ho⟩ := He.ba ho
  obtain ⟨o7, ho⟩ := He.ba ho
  obtain ⟨o8, ho⟩ := He.ba ho
  obtain ⟨o9, ho⟩ := He.ba ho
  obtain ⟨o10, ho⟩ := He.ba ho
  obtain ⟨o11, ho⟩ := He.ba ho
  obtain ⟨o12, ho⟩ := He.ba ho
  obtain ⟨o13, o14⟩ := He.ba ho
  refine ⟨He.ma K (He.ga K x) "__init__", by rw [hC]; exact He.glo_ok X G (c.fa _ g), ?_, hF, He.free_ok X G (c.fa _ gs)⟩
  rw [hC]
  refine ⟨?_, He.eqO_ok o1, He.eqO_ok o2, He.eqO_ok o3, He.eqO_ok o4, He.eqO_ok o5, of_decide_eq_true o6, o7, of_decide_eq_true o8, of_decide_eq_true o9, o10, He.eqO_ok o11, He.eqO_ok o12, of_decide_eq_true o13, of_decide_eq_true o14, tp, ?_⟩
  · split at o0
    · rename_i dd u sl q
      split at o0
      · rename_i b bm k0 k1 k2 k3 n k5 hm hs
        simp only [Bool.and_eq_true, beq_iff_eq, Bool.not_eq_true'] at o0
        obtain ⟨z1, z2, z3, z4, z5⟩ := o0
        obtain ⟨nm', bs, mro, ns, qn, hd, sn, sub, ab, col, del⟩ := u
        dsimp only at hm z3 z4
        subst hm z1 z2 z3 z4
        have es : sl = #[k0, k1, k2, k3, some (.builtin "ValueError.__new__"), k5] := by
          rw [← hs]
          try simp
        subst es
        exact ⟨_, _, _, _, _, _, _, _, _, _, _, _, _, _, _, q, z5⟩
      · cases o0
    · cases o0
  · obtain ⟨cd, rfl⟩ := He.codeIn_ref hc
    obtain ⟨cc, rfl⟩ : ∃ cc, cl = [(("__class__" : Str), cc)] := by
      cases cl with
      | nil => cases e
      | cons y r =>
        rw [List.map_cons] at e
        injection e with e1 e2
        obtain ⟨y1, y2⟩ := y
        cases r with
        | nil => exact ⟨y2, by rw [show y1 = ("__class__" : Str) from e1]⟩
        | cons z r => cases e2
    unfold xi at hi
    rw [lk] at hi
    have hi : (match K.lookup cc, K.lookup cd with
      | some ⟨_, _, .cell (some (.ref b)), _⟩, some ⟨_, _, .fields vs, _⟩ => b == He.ga K x && (match (vs[2]? : Option Value) with
        | some (Value.str z _) => T.file == z
        | _ => false)
      | _, _ => false) = true := hi
    split at hi
    · rename_i b csl _ _ vs ccs k1 k2
      obtain ⟨b1, h9⟩ := He.ba hi
      split at h9
      · rename_i z t hz
        have eb : b = He.ga K x := beq_iff_eq.mp b1
        subst eb
        exact ⟨oc, od, doc, pm, an, cd, cc, ct, osl, p1, p2, q1, q2, q3, q4, q5, q6, q7, q8, q9, q10, _, _, _, _, _, vs, _, z, t, lk, hc, k1, k2, hz, by rw [hf]; exact h9, ev⟩
      · cases h9
    · cases hi
/-- the tables: where, of which name -/
def tabl (T : Ask) (K : PySem.W.Frag) : List (Addr × Str) := T.tf.map fun p => ((He.cT K p).2, p.1 ++ ".<locals>." ++ "<lambda>")
theorem nodup_inj {α β : Type} {f : α → β} : ∀ {l : List α}, (l.map f).Nodup → ∀ a ∈ l, ∀ b ∈ l, f a = f b → a = b
  | [], _, a, ha, b, hb, e => by cases ha
  | x :: l, nd, a, ha, b, hb, e => by
    rw [List.map_cons, List.nodup_cons] at nd
    rcases List.mem_cons.mp ha with ea | ha2
    · rcases List.mem_cons.mp hb with eb | hb2
      · rw [ea, eb]
      · exact (nd.1 (List.mem_map.mpr ⟨b, hb2, by rw [← ea]; exact e.symm⟩)).elim
    · rcases List.mem_cons.mp hb with eb | hb2
      · exact (nd.1 (List.mem_map.mpr ⟨a, ha2, by rw [← eb]; exact e⟩)).elim
      · exact nodup_inj nd.2 a ha2 b hb2 e
theorem Says.host (c : Says T h K) {C : Cfg} {x : Str} (hT : C.T = tabl T K) (m : (x, none) ∈ T.tf) (tb : ∀ p ∈ T.tf.map (He.cT K), LamX.TabB base mg p.1 p.2) : HostL base mg C x (.ref (He.codeOf K (x, none))) := by
  refine ⟨_, (He.cT K (x, none)).2, rfl, tb _ (List.mem_map.mpr ⟨_, m, rfl⟩), ?_, fun p hp e => ?_⟩
  · rw [hT]
    exact List.mem_map.mpr ⟨_, m, rfl⟩
  · rw [hT] at hp
    obtain ⟨q, hq, rfl⟩ := List.mem_map.mp hp
    have := nodup_inj c.nd q hq (x, none) m e
    subst this
    rfl
theorem fun_uniq {x q : Str} {st : Stmt} {f : Addr} {fd fd' : FuncData} (a : L2.Fun K x q st f fd) (b : L2.Fun K x q st f fd') : fd = fd' := by
  obtain ⟨oc, od, kV, doc, pm, an, cdv, ct, osl, e, l, _⟩ := a.ex
  obtain ⟨oc', od', kV', doc', pm', an', cdv', ct', osl', e', l', _⟩ := b.ex
  rw [l] at l'
  have := congrArg Obj.data (Option.some.inj l')
  exact Data.func.inj this
theorem tabs_of {c : Says T h K} {H : Hp} (hH : ∀ p ∈ T.tf.map (He.cT K), H p.2 = some (.tbl #[])) : LamX.Tabs (tabl T K) H := fun p hp => by
  obtain ⟨q, hq, rfl⟩ := List.mem_map.mp hp
  exact ⟨#[], hH _ (List.mem_map.mpr ⟨q, hq, rfl⟩), trivial, fun pos cv hi => by cases hi⟩
theorem sq_hm {H : Hp} {a : Addr} {xs : List V} (e : SqL K H a xs) : SqL K (Hm H []) a xs := by
  rcases e with (e | ⟨o, e⟩) | e
  · exact .inl (.inl (hm_mk (by simp) e))
  · exact .inl (.inr ⟨o, hm_mk (by simp) e⟩)
  · exact .inr e
theorem lawAt {l : PySem.W.OpenLaw} {w : World} {C : Cfg} {st : Stmt} {p : Str} {k : Nat} {f : Addr} {m : List S → R S} (hC : C.T = tabl T K) (M : ∀ ns : List Int, ns.length ≤ 63 → m [.d (.list (ns.map PyData.int))] = .ok (.d (.bool true)))
    (c : Says T h K) (X : K.In h) (hf : mg "law" = some (.ref f)) (ch : ∀ base : Heap, (∀ q ∈ T.tf.map (He.cT K), LamX.TabB base mg q.1 q.2) → Cal l.prog w K mg base k "law" st [p] (spD K C 1 m)) (hb : BindP "law" st [p]) (F : Fact K mg "law" st) :
    LamX.LawAtS l w K (L2.CX l.prog w) k 63 p mg f h := by
  obtain ⟨fa, fd, hm, hF⟩ := F
  rw [hf] at hm
  cases hm
  refine ⟨fd, T.tf.map (He.cT K), spD K C 1 m, fun q hq => ?_, fun q hq => ?_, fun q hq => ?_, fun s u => ?_, fun H a ns hl _ hH hS => ?_, fun base _ _ tb => ?_⟩
  · obtain ⟨z, hz, rfl⟩ := List.mem_map.mp hq
    exact c.em z hz
  · obtain ⟨z, hz, rfl⟩ := List.mem_map.mp hq
    exact c.out z hz
  · obtain ⟨z, hz, rfl⟩ := List.mem_map.mp hq
    exact PySem.W.codeHd_of_K X (c.hd z hz)
  · obtain ⟨oc, od, kV, doc, pm, an, cdv, ct, osl, rfl, lk, hcd⟩ := hF.ex
    exact .of_eq (hb kV doc pm an cdv ct [u] rfl)
  · refine ⟨[.d (.list (ns.map PyData.int))], [], fun b hb => (by cases hb), by rw [hC]; exact tabs_of (c := c) hH, rfl, fun s hs => ?_, .cons (.d (.lst (sq_hm hS) (dpa_ints ns))) .nil, ?_⟩
    · rw [List.mem_singleton.mp hs]
      rfl
    · rw [M ns hl]
      intro v H' _ bv _
      cases bv with
      | d h =>
        cases h
        rfl
  · obtain ⟨fa', fd', hm', hF', ok⟩ := ch base tb
    rw [hf] at hm'
    cases hm'
    rw [fun_uniq hF hF']
    exact ok
theorem cx_no {P : Program} {w : World} (H : Hp) (s : Shared) (e : Value) (s' : Shared) (h : L2.CX P w [] H s (fun _ _ _ => False) e s') : False := by
  obtain ⟨_, _, _, _, _, _, _, _, _, _, _, _, z⟩ := h
  exact z
end
end Hd
end DL

set_option Elab.async false
set_option linter.all false
set_option maxRecDepth 100000
set_option maxHeartbeats 2000000
/-! DL35: x, y = a, b where a value is no data (names that an inner block captures). -/
namespace DL
open PySem PySem.Spec L2
def sUn2 (i j : Nat) (fs : Env → R (List S)) : Env → SR := sA fs fun ss δ => match ss with
  | [s, t] => (match s.arg, t.arg with
    | .ok y, .ok z => .next ((δ.set i (some y)).set j (some z))
    | _, _ => .bad)
  | _ => .bad
section
variable {X : Cx} {C : Cfg} {W : WX} {io : List Nat} {fs : Env → R (List S)} {pos : Pos}
theorem ds_un2 (i j : Nat) {x y : Str} {a b : Expr} {px py pt : Pos} {kt k2 pt2} (hc : X.calm = true) (hN : X.N.Nodup) (ha : DA X C W [a, b] fs) (hio : io.contains i = false := by rfl) (hjo : io.contains j = false := by rfl) (hi : X.N[i]? = some x := by rfl) (hj : X.N[j]? = some y := by rfl)
    (hx : Loc X.env.scope x := by first | exact Or.inl rfl | exact Or.inr rfl) (hy : Loc X.env.scope y := by first | exact Or.inl rfl | exact Or.inr rfl)
    (hfx : X.fn x = true ∨ X.env.scope.names.lookup x = some .local := by first | exact .inl rfl | exact .inr rfl) (hfy : X.fn y = true ∨ X.env.scope.names.lookup y = some .local := by first | exact .inl rfl | exact .inr rfl)
    (hs : swapsWithSole [.Tuple [.Name x px, .Name y py] kt pt] (.Tuple [a, b] k2 pt2) pos.line X.env = pure false := by rfl) (hw : swappedStores [.Tuple [.Name x px, .Name y py] kt pt] (.Tuple [a, b] k2 pt2) X.env = pure none := by rfl)
    (h1 : (assignEach [.Tuple [.Name x px, .Name y py] kt pt] X.env).map (·.2) = [assign (.Tuple [.Name x px, .Name y py] kt pt) X.env] := by rfl) :
    DS X C W io (.Assign [.Tuple [.Name x px, .Name y py] kt pt] (.Tuple [a, b] k2 pt2) pos) (sUn2 i j fs) := by
  refine PS.imp (ps_asg (pe_tup ha) (pg_tup hc (pgs_cons (pg_name hN hi hx hfx) (pgs_cons (pg_name hN hj hy hfy) pgs_nil))) hs hw h1) fun D σ H ⟨B, O₀, pn, δ, O, hpn, rp, h⟩ => ?_
  refine runA rp h fun ss es q vs H1 s1 bvs => ?_
  have ls := bvs_length bvs
  split at q
  · rename_i s t
    cases bvs with
    | cons b1 r =>
      cases r with
      | cons b2 r =>
        cases r with
        | nil =>
          rename_i v1 v2
          split at q
          · rename_i y z ey ez
            refine ⟨small_line (by simp), fun p hp => ⟨p, [v1, v2], rfl, .inl (.inl upd_same), rfl, v1, [v2], rfl, v2, [], rfl, rfl, ?_⟩⟩
            have sn : Sm C H1 (L2.upd H1 p (.tup [v1, v2])) := same_new hp
            have r1 := (rp.same s1).same sn
            exact q _ _ O (Stay.of (s1.trans sn)) ((r1.set (arg_still ey) (bv_arg (bv_same sn b1) ey) (io_ne hpn hio)).set (arg_still ez) (bv_arg (bv_same sn b2) ez) (io_ne hpn hjo))
          · exact q.elim
  · exact q.elim
end
end DL

set_option Elab.async false
set_option linter.all false
set_option maxRecDepth 100000
set_option maxHeartbeats 2000000
/-! DL36: reckoning with the worth of expressions and statements. -/
namespace DL
open PySem PySem.Spec L2
section
variable {δ : Env} {x : PyData} {i : Nat} {o : Option S} {r : Env}
@[simp] theorem kV_0d : kV 0 (some (.d x) :: r) = .ok (.d x) := (rfl)
@[simp] theorem kV_0o {ds} : kV 0 (some (.l .ow ds) :: r) = .ok (.l .ow ds) := (rfl)
@[simp] theorem kV_0k {ds} : kV 0 (some (.k .ow ds) :: r) = .ok (.k .ow ds) := (rfl)
@[simp] theorem kV_0c {c fs} : kV 0 (some (.obj c fs) :: r) = .ok (.obj c fs) := (rfl)
@[simp] theorem kV_s : kV (i + 1) (o :: r) = kV i r := by unfold kV; rw [List.getElem?_cons_succ]
variable {f g h : Env → R S} {fs : Env → R (List S)} {t u : Env → R Bool} {b2 : S → S → R S} {b1 : S → R S} {n : Nat} {m : List S → R S} {s : S} {ss : List S} {ds : List PyData}
@[simp] theorem ap_kC : kC x δ = .ok (.d x) := (rfl)
@[simp] theorem ap_kB : kB b2 f g δ = (f δ >>= fun x => g δ >>= fun y => b2 x y) := (rfl)
@[simp] theorem ap_kU : kU b1 f δ = (f δ >>= fun x => b1 x) := (rfl)
@[simp] theorem ap_aNil : aNil δ = .ok [] := (rfl)
@[simp] theorem ap_aCons : aCons f fs δ = (f δ >>= fun x => fs δ >>= fun xs => .ok (x :: xs)) := (rfl)
@[simp] theorem ap_kAnd : kAnd f g δ = (f δ >>= fun x => x.b >>= fun c => if c then g δ else .ok (.d (.bool false))) := (rfl)
@[simp] theorem ap_kOr : kOr f g δ = (f δ >>= fun x => x.b >>= fun c => if c then .ok (.d (.bool true)) else g δ) := (rfl)
@[simp] theorem ap_kNot : kNot f δ = (f δ >>= fun x => x.b >>= fun c => .ok (.d (.bool (!c)))) := (rfl)
@[simp] theorem ap_kTru : kTru f δ = (f δ >>= fun x => truS x) := (rfl)
@[simp] theorem ap_kBl : kBl f δ = (f δ >>= fun x => x.b) := (rfl)
@[simp] theorem ap_kCh {r1 r2} : kCh r1 r2 f g h δ = (f δ >>= fun x => g δ >>= fun y => r1 x y >>= fun z => z.b >>= fun c => if c then (h δ >>= fun w => r2 y w) else .ok (.d (.bool false))) := (rfl)
@[simp] theorem ap_tAnd : tAndK t u δ = (t δ >>= fun c => if c then u δ else .ok false) := (rfl)
@[simp] theorem ap_tOr : tOrK t u δ = (t δ >>= fun c => if c then .ok true else u δ) := (rfl)
@[simp] theorem ap_tNot : tNotK t δ = (t δ >>= fun c => .ok (!c)) := (rfl)
@[simp] theorem ap_tTrue : tTrue δ = .ok true := (rfl)
@[simp] theorem ap_kIf : kIf t f g δ = (t δ >>= fun c => if c then f δ else g δ) := (rfl)
@[simp] theorem ap_kTup : kTup fs δ = (fs δ >>= fun ss => pds ss >>= fun xs => chk (decide (xs.length ≤ 1000000)) (.ok (.d (.tuple xs)))) := (rfl)
@[simp] theorem ap_kLst : kLst fs δ = (fs δ >>= fun ss => pds ss >>= fun xs => chk (decide (xs.length ≤ 1000000)) (.ok (.l .fr xs))) := (rfl)
@[simp] theorem pds_nil : pds [] = .ok [] := (rfl)
@[simp] theorem pds_cons : pds (s :: ss) = (s.pd >>= fun x => pds ss >>= fun xs => .ok (x :: xs)) := (rfl)
@[simp] theorem ap_kCB {g : List S → R S} : kCB g fs δ = (fs δ >>= fun ss => g ss) := (rfl)
@[simp] theorem ap_kCall : kCall n m fs δ = (fs δ >>= fun ss => argsS ss >>= fun as => chk (decide (as.length = n)) (m as)) := (rfl)
@[simp] theorem ap_kCallK {nk is} : kCallK n nk m is fs δ = (fs δ >>= fun ss => chk (decide (ss.length = nk)) (argsS (perm is ss) >>= fun as => chk (decide (as.length = n)) (m as))) := (rfl)
@[simp] theorem ap_kCall0 : kCall0 n m δ = chk (decide (0 = n)) (noX (m [])) := (rfl)
@[simp] theorem ap_kMake {cn} {mm} : kMake cn n mm fs δ = (fs δ >>= fun ss => argsS ss >>= fun as => chk (decide (as.length = n) && allD as) (noX (mm as) >>= fun gs => .ok (.obj cn gs))) := (rfl)
@[simp] theorem ap_kMeth {cn} {mm} {c gs} (e : f δ = .ok (.obj c gs)) : kMeth cn n mm f fs δ = chk (decide (c = cn)) (fs δ >>= fun ss => argsS ss >>= fun as => chk (decide (as.length + 1 = n)) (noX (mm (.obj c gs :: as)))) := by unfold kMeth; rw [e]; rfl
@[simp] theorem ap_oNo : oNo δ = .ok none := (rfl)
@[simp] theorem ap_oSome : oSome f δ = (f δ >>= fun x => x.i >>= fun i => .ok (some i)) := (rfl)
@[simp] theorem ap_kSl {l u} : kSl f l u δ = (f δ >>= fun x => l δ >>= fun lo => u δ >>= fun hi => slS x lo hi) := (rfl)
@[simp] theorem ap_iVal {b} : iVal b f δ = (f δ >>= fun s => S.itsI b s) := (rfl)
@[simp] theorem ap_iEnum {b} : iEnumF b f δ = (f δ >>= fun s => S.itsJ b s >>= fun ds => .ok (enumP ds)) := (rfl)
@[simp] theorem ap_iZip {b} : iZipF b f g δ = (f δ >>= fun s => g δ >>= fun t => S.itsJ b s >>= fun ds => S.itsJ b t >>= fun es => .ok (zipP ds es)) := (rfl)
@[simp] theorem ap_iRg {hh} : iRg hh fs δ = (fs δ >>= fun ss => hh ss) := (rfl)
@[simp] theorem ap_gN {d} : gN i d δ = .ok (δ.set i (some (.d d))) := (rfl)
@[simp] theorem ap_gT {gs} : gT gs (.tuple ds) δ = gAll gs ds δ := (rfl)
@[simp] theorem gAll_nil : gAll [] [] δ = .ok δ := (rfl)
@[simp] theorem gAll_cons {gg gs d} : gAll (gg :: gs) (d :: ds) δ = (gg d δ >>= fun δ' => gAll gs ds δ') := (rfl)
@[simp] theorem on1_1 : on1 b1 [s] = b1 s := (rfl)
/-! of operations -/
@[simp] theorem ii_int {c : Int → Int → Bool} {gg : Int → Int → PyData} {i j : Int} : iiS c gg (.d (.int i)) (.d (.int j)) = chk (c i j) (.ok (.d (gg i j))) := (rfl)
@[simp] theorem cT_ap {i j : Int} : cT i j = true := (rfl)
@[simp] theorem add_int {i j : Int} : addS (.d (.int i)) (.d (.int j)) = .ok (.d (.int (i + j))) := (rfl)
@[simp] theorem add_tup {a b : List PyData} : addS (.d (.tuple a)) (.d (.tuple b)) = chk (decide (a.length + b.length ≤ 1000000)) (.ok (.d (.tuple (a ++ b)))) := (rfl)
@[simp] theorem tru_bool {b : Bool} : truS (.d (.bool b)) = .ok b := (rfl)
@[simp] theorem len_tup {a : List PyData} : lenS (.d (.tuple a)) = .ok (.d (.int a.length)) := (rfl)
@[simp] theorem len_lst {a : List PyData} : lenS (.d (.list a)) = .ok (.d (.int a.length)) := (rfl)
@[simp] theorem len_l {a : List PyData} {md} : lenS (.l md a) = .ok (.d (.int a.length)) := by cases md <;> rfl
@[simp] theorem tup_tup {a : List PyData} : tupS (.d (.tuple a)) = .ok (.d (.tuple a)) := (rfl)
@[simp] theorem tup_lst {a : List PyData} : tupS (.d (.list a)) = .ok (.d (.tuple a)) := (rfl)
@[simp] theorem tup_l {a : List PyData} {md} : tupS (.l md a) = .ok (.d (.tuple a)) := by cases md <;> rfl
@[simp] theorem ix_tup {a : List PyData} {i : Int} : ixS (.d (.tuple a)) (.d (.int i)) = (match atI a i with | some d => .ok (.d d) | none => .bad) := (rfl)
@[simp] theorem ix_lst {a : List PyData} {i : Int} : ixS (.d (.list a)) (.d (.int i)) = (match atI a i with | some d => .ok (.d d) | none => .bad) := (rfl)
@[simp] theorem ix_l {a : List PyData} {i : Int} {md} : ixS (.l md a) (.d (.int i)) = (match atI a i with | some d => .ok (.d d) | none => .bad) := by cases md <;> rfl
@[simp] theorem fld_ob {c c' fs} {q : Str} : fldS c q (.obj c' fs) = chk (decide (c' = c)) (match fs.lookup q with | some x => .ok (.d x) | none => .bad) := (rfl)
@[simp] theorem all_l {ds : List PyData} : allS (.l .fr ds) = (blsR ds >>= fun ns => .ok (.d (.bool (ns.all id)))) := (rfl)
@[simp] theorem any_l {ds : List PyData} : anyS (.l .fr ds) = (blsR ds >>= fun ns => .ok (.d (.bool (ns.any id)))) := (rfl)
@[simp] theorem sum_l {ds : List PyData} : sumS (.l .fr ds) = (intsR ds >>= fun ns => .ok (.d (.int ns.sum))) := (rfl)
theorem bls_map {α : Type} (l : List α) (p : α → Bool) : blsR (l.map fun a => .bool (p a)) = .ok (l.map p) := by
  induction l with
  | nil => rfl
  | cons a l ih => simp only [List.map_cons, blsR, ih, R.ok_bind]
theorem ints_map {α : Type} (l : List α) (p : α → Int) : intsR (l.map fun a => .int (p a)) = .ok (l.map p) := by
  induction l with
  | nil => rfl
  | cons a l ih => simp only [List.map_cons, intsR, ih, R.ok_bind]
/-! of statements -/
@[simp] theorem fin_ret : fin (.ret s δ) = s.out := (rfl)
@[simp] theorem fin_next : fin (.next δ) = .ok (.d .none) := (rfl)
@[simp] theorem fin_exc {k p} : fin (.exc k p δ) = .exc k p := (rfl)
@[simp] theorem out_d : S.out (.d x) = .ok (.d x) := (rfl)
@[simp] theorem out_fr : S.out (.l .fr ds) = .ok (.l .fr ds) := (rfl)
@[simp] theorem out_ob {c fs} : S.out (.obj c fs) = .ok (.obj c fs) := (rfl)
theorem sE_ok {gg : S → Env → SR} (e : f δ = .ok s) : sE f gg δ = gg s δ := by unfold sE; rw [e]
theorem sT_ok {c : Bool} {gg : Bool → Env → SR} (e : t δ = .ok c) : sT t gg δ = gg c δ := by unfold sT; rw [e]
theorem sA_ok {gg : List S → Env → SR} (e : fs δ = .ok ss) : sA fs gg δ = gg ss δ := by unfold sA; rw [e]
theorem ret_ok (e : f δ = .ok s) : sRet f δ = .ret s δ := sE_ok e
theorem drop_ok (e : f δ = .ok s) : sDrop f δ = .next δ := sE_ok e
theorem if_ok {c : Bool} {u w : Env → SR} (e : t δ = .ok c) : sIf t u w δ = if c then u δ else w δ := sT_ok e
theorem asg_ok {z : S} (e : f δ = .ok s) (a : s.arg = .ok z) : sAsg i f δ = .next (δ.set i (some z)) := by
  unfold sAsg; rw [sE_ok e]; simp only [a]
theorem asgd_ok (e : f δ = .ok (.d x)) : sAsg i f δ = .next (δ.set i (some (.d x))) := asg_ok e rfl
theorem asgl_ok (e : f δ = .ok (.l .fr ds)) : sAsg i f δ = .next (δ.set i (some (.d (.list ds)))) := asg_ok e rfl
theorem asgO_ok (e : f δ = .ok (.l .fr ds)) : sAsgO i f δ = .next (δ.set i (some (.l .ow ds))) := by
  unfold sAsgO; rw [sE_ok e]; rfl
theorem app_ok {xs : List PyData} {y : PyData} (e0 : δ[i]? = some (some (.l .ow xs))) (e : f δ = .ok s) (ep : s.pd = .ok y) (hl : xs.length ≤ 1000000) : sApp i f δ = .next (δ.set i (some (.l .ow (xs ++ [y])))) := by
  unfold sApp
  rw [e0]
  simp only [sE_ok e, ep, hl, decide_true]
theorem seq_ok {u w : Env → SR} {δ' : Env} (e : u δ = .next δ') : sSeq u w δ = w δ' := by unfold sSeq; rw [e]
theorem fin_seq {u w : Env → SR} {δ' : Env} {r : R S} (e : u δ = .next δ') (k : fin (w δ') = r) : fin (sSeq u w δ) = r := by rw [seq_ok e]; exact k
theorem fin_retE {r : R S} (e : f δ = .ok s) (k : s.out = r) : fin (sRet f δ) = r := by rw [ret_ok e]; exact k
theorem seq_nx {u w : Env → SR} {δ' δ2 : Env} (e : u δ = .next δ') (k : w δ' = .next δ2) : sSeq u w δ = .next δ2 := by rw [seq_ok e]; exact k
theorem seq_ex {u w : Env → SR} {δ' : Env} {P : SR → Prop} (e : u δ = .next δ') (k : P (w δ')) : P (sSeq u w δ) := by rw [seq_ok e]; exact k
end
/-! ### loops -/
theorem loop_rel {α β : Type} {enc : α → PyData} {Rl : β → Env → Prop} {st : β → α → β} {g : PyData → Env → R Env} {u : Env → SR} : ∀ (l : List α), (∀ b a δ, a ∈ l → Rl b δ → ∃ δ1 δ2, g (enc a) δ = .ok δ1 ∧ u δ1 = .next δ2 ∧ Rl (st b a) δ2) → ∀ b δ, Rl b δ →
    ∃ δ', sLoop g u (l.map enc) δ = .next δ' ∧ Rl (l.foldl st b) δ'
  | [], _, b, δ, h => ⟨δ, rfl, h⟩
  | a :: l, hs, b, δ, h => by
    obtain ⟨δ1, δ2, e1, e2, h2⟩ := hs b a δ List.mem_cons_self h
    obtain ⟨δ', e, h'⟩ := loop_rel l (fun b a δ m => hs b a δ (List.mem_cons_of_mem _ m)) (st b a) δ2 h2
    refine ⟨δ', ?_, h'⟩
    rw [List.map_cons]
    unfold sLoop
    simp only [e1, e2]
    exact e
theorem for_rel {α β : Type} {enc : α → PyData} (Rl : β → Env → Prop) (st : β → α → β) {fi : Env → R (List PyData)} {g : PyData → Env → R Env} {u : Env → SR} (l : List α) {b : β} {δ : Env} (hi : fi δ = .ok (l.map enc)) (h0 : Rl b δ)
    (hs : ∀ b a δ, a ∈ l → Rl b δ → ∃ δ1 δ2, g (enc a) δ = .ok δ1 ∧ u δ1 = .next δ2 ∧ Rl (st b a) δ2) : ∃ δ', sFor fi g u δ = .next δ' ∧ Rl (l.foldl st b) δ' := by
  unfold sFor
  rw [hi]
  exact loop_rel l hs b δ h0
/-- one turn of a comprehension -/
def turn (g : PyData → Env → R Env) (t : Env → R Bool) (f : Env → R S) (δ : Env) (d : PyData) : R (Option PyData) := g d δ >>= fun δ1 => t δ1 >>= fun c => if c then (f δ1 >>= fun s => s.pd >>= fun x => .ok (some x)) else .ok none
theorem comp_turn {α : Type} {enc : α → PyData} {o : α → Option PyData} {g : PyData → Env → R Env} {t : Env → R Bool} {f : Env → R S} {δ : Env} : ∀ (l : List α), (∀ a ∈ l, turn g t f δ (enc a) = .ok (o a)) → compL g t f δ (l.map enc) = .ok (l.filterMap o)
  | [], _ => rfl
  | a :: l, h => by
    have ih := comp_turn l fun a m => h a (List.mem_cons_of_mem _ m)
    have h0 := h a List.mem_cons_self
    unfold turn at h0
    rw [List.map_cons, List.filterMap_cons]
    unfold compL
    cases eg : g (enc a) δ with
    | exc k p => rw [eg] at h0; cases h0
    | bad => rw [eg] at h0; cases h0
    | ok δ1 =>
      rw [eg] at h0
      simp only [R.ok_bind] at h0 ⊢
      cases et : t δ1 with
      | exc k p => rw [et] at h0; cases h0
      | bad => rw [et] at h0; cases h0
      | ok c =>
        rw [et] at h0
        simp only [R.ok_bind] at h0 ⊢
        cases c with
        | false =>
          have h0 : R.ok none = R.ok (o a) := h0
          injection h0 with h0
          rw [← h0]
          exact ih
        | true =>
          simp only [if_true] at h0 ⊢
          cases ef : f δ1 with
          | exc k p => rw [ef] at h0; cases h0
          | bad => rw [ef] at h0; cases h0
          | ok s =>
            rw [ef] at h0
            simp only [R.ok_bind] at h0 ⊢
            cases ep : s.pd with
            | exc k p => rw [ep] at h0; cases h0
            | bad => rw [ep] at h0; cases h0
            | ok x =>
              rw [ep] at h0
              simp only [R.ok_bind] at h0 ⊢
              injection h0 with h0
              rw [← h0, ih]
              rfl
theorem comp_ok {α : Type} {enc : α → PyData} (o : α → Option PyData) (l : List α) {fi : Env → R (List PyData)} {g : PyData → Env → R Env} {t : Env → R Bool} {f : Env → R S} {vs : List Nat} {δ : Env} (hi : fi δ = .ok (l.map enc)) (hl : l.length ≤ 1000000)
    (h : ∀ a ∈ l, turn g t f (wipeD δ vs) (enc a) = .ok (o a)) : kComp fi g t f vs δ = .ok (.l .fr (l.filterMap o)) := by
  unfold kComp
  rw [hi]
  simp only [R.ok_bind, comp_turn l h, noX_ok, List.length_map, hl, decide_true, chk_true]
theorem fm_map {α β : Type} (o : α → β) : ∀ l : List α, l.filterMap (fun a => some (o a)) = l.map o
  | [] => rfl
  | a :: l => by rw [List.filterMap_cons, List.map_cons, fm_map o l]
theorem fm_filter {α β : Type} (p : α → Bool) (o : α → β) : ∀ l : List α, l.filterMap (fun a => if p a then some (o a) else none) = (l.filter p).map o
  | [] => rfl
  | a :: l => by
    rw [List.filterMap_cons, List.filter_cons, fm_filter p o l]
    cases p a <;> rfl
theorem comp_map {α : Type} {enc : α → PyData} (o : α → PyData) (l : List α) {fi : Env → R (List PyData)} {g : PyData → Env → R Env} {t : Env → R Bool} {f : Env → R S} {vs : List Nat} {δ : Env} (hi : fi δ = .ok (l.map enc)) (hl : l.length ≤ 1000000)
    (h : ∀ a ∈ l, turn g t f (wipeD δ vs) (enc a) = .ok (some (o a))) : kComp fi g t f vs δ = .ok (.l .fr (l.map o)) := by
  rw [comp_ok (fun a => some (o a)) l hi hl h, fm_map]
theorem comp_filter {α : Type} {enc : α → PyData} (p : α → Bool) (o : α → PyData) (l : List α) {fi : Env → R (List PyData)} {g : PyData → Env → R Env} {t : Env → R Bool} {f : Env → R S} {vs : List Nat} {δ : Env} (hi : fi δ = .ok (l.map enc)) (hl : l.length ≤ 1000000)
    (h : ∀ a ∈ l, turn g t f (wipeD δ vs) (enc a) = .ok (if p a then some (o a) else none)) : kComp fi g t f vs δ = .ok (.l .fr ((l.filter p).map o)) := by
  rw [comp_ok (fun a => if p a then some (o a) else none) l hi hl h, fm_filter]
end DL

set_option Elab.async false
set_option linter.all false
set_option maxRecDepth 100000
set_option maxHeartbeats 2000000
/-! DL37: x[e], x a name (one's own list, too), e with effects. -/
namespace DL
open PySem PySem.Spec L2
def xIxV (i : Nat) (f : XE) : XE := fun δ => match δ[i]? with
  | some (some _) => (do
    let (y, δ2) ← f δ
    match δ2[i]? with
    | some (some s) => (do let z ← ixS s y; .ok (z, δ2))
    | _ => .bad)
  | _ => .bad
section
variable {X : Cx} {C : Cfg} {W : WX} {io : List Nat} {b : Expr} {xg : XE} {pos p : Pos}
theorem dx_ixV (i : Nat) {x : Str} (hb : DX X C io b xg) (hN : X.N[i]? = some x := by rfl) (hv : Vis X.env.scope x := by first | exact Or.inl rfl | exact Or.inr (Or.inl rfl) | exact Or.inr (Or.inr rfl)) (hd : (x == ("__debug__" : Str)) = false := by decide)
    (hcd : (x == ("__classdict__" : Str)) = false := by decide) (hs : PlainIx b := by intro _ _; rfl) : DX X C io (.Subscript (.Name x p) b pos) (xIxV i xg) := by
  have hr : IxR X (rD2 X.K C ixS) := fun value slice pins s σ H x y v u Q I rx ry h hs => ix_seq value slice pins s σ H x y v u Q I rx ry (ixs_core h) hs
  refine PE.imp (pe_ix hr (pe_var hN hv hd hcd) hb hs) fun σ H Q ⟨B, O₀, pn, δ, O, hio, rp, h⟩ => ?_
  unfold xIxV at h
  split at h
  · rename_i s0 e0
    obtain ⟨_, v, ev, _⟩ := rp.slot i s0 e0
    refine ⟨v, ev, ?_⟩
    refine seqX (PQ := PostX X.K C B O₀ pn σ H O Q) hio rp h (fun k p q => q) (fun q => q) fun s' δ2 e' q' v' H2 O2 ah' bv' => ?_
    simp only at q'
    split at q'
    · rename_i s es
      cases er : ixS s s' with
      | ok z =>
        rw [er] at q'
        have rp2 := ah'.rp
        obtain ⟨_, v2, ev2, bv2⟩ := rp2.slot i s es
        rw [ev] at ev2
        cases ev2
        exact ⟨O2, s, s', z, rp2.dom, rp2.tabs, bv2, bv', er, fun w H3 s3 b3 f3 => q' w H3 O2 ⟨H2, s3, f3, ah'.stay, rp2⟩ b3⟩
      | exc k p => rw [er] at q'; exact q'.elim
      | bad => rw [er] at q'; exact q'.elim
    · exact q'.elim
  · exact h.elim
end
end DL

set_option Elab.async false
set_option linter.all false
set_option maxRecDepth 100000
set_option maxHeartbeats 2000000
/-! DL38: x, y, z = a, b, [] with effects; z is one's own list (names that an inner block captures). -/
namespace DL
open PySem PySem.Spec L2
def sUn3XO (i j l : Nat) (xf xg : XE) : Env → SR := sX xf fun s => sX xg fun t δ => match s.own, t.own, s.arg, t.arg with
  | false, false, .ok y, .ok z => .next (((δ.set i (some y)).set j (some z)).set l (some (.l .ow [])))
  | _, _, _, _ => .bad
section
variable {X : Cx} {C : Cfg} {W : WX} {io : List Nat} {xf xg : XE} {pos : Pos}
theorem ds_un3XO (i j l : Nat) {x y z : Str} {a b : Expr} {px py pz pt pl : Pos} {kt k2 pt2} (hc : X.calm = true) (hN : X.N.Nodup) (ha : DX X C io a xf) (hb : DX X C io b xg) (hio : io.contains i = false := by rfl) (hjo : io.contains j = false := by rfl) (hlo : io.contains l = false := by rfl)
    (hi : X.N[i]? = some x := by rfl) (hj : X.N[j]? = some y := by rfl) (hl : X.N[l]? = some z := by rfl)
    (hx : Loc X.env.scope x := by first | exact Or.inl rfl | exact Or.inr rfl) (hy : Loc X.env.scope y := by first | exact Or.inl rfl | exact Or.inr rfl) (hz : Loc X.env.scope z := by first | exact Or.inl rfl | exact Or.inr rfl)
    (hfx : X.fn x = true ∨ X.env.scope.names.lookup x = some .local := by first | exact .inl rfl | exact .inr rfl) (hfy : X.fn y = true ∨ X.env.scope.names.lookup y = some .local := by first | exact .inl rfl | exact .inr rfl) (hfz : X.fn z = true ∨ X.env.scope.names.lookup z = some .local := by first | exact .inl rfl | exact .inr rfl)
    (hs : swapsWithSole [.Tuple [.Name x px, .Name y py, .Name z pz] kt pt] (.Tuple [a, b, .List [] pl] k2 pt2) pos.line X.env = pure false := by rfl) (hw : swappedStores [.Tuple [.Name x px, .Name y py, .Name z pz] kt pt] (.Tuple [a, b, .List [] pl] k2 pt2) X.env = pure none := by rfl)
    (hsa : starEach [a, b, .List [] pl] X.env = (false, eval a X.env) :: starEach [b, .List [] pl] X.env := by rfl) (hsb : starEach [b, .List [] pl] X.env = (false, eval b X.env) :: starEach [.List [] pl] X.env := by rfl)
    (h1 : (assignEach [.Tuple [.Name x px, .Name y py, .Name z pz] kt pt] X.env).map (·.2) = [assign (.Tuple [.Name x px, .Name y py, .Name z pz] kt pt) X.env] := by rfl) :
    DS X C W io (.Assign [.Tuple [.Name x px, .Name y py, .Name z pz] kt pt] (.Tuple [a, b, .List [] pl] k2 pt2) pos) (sUn3XO i j l xf xg) := by
  refine PS.imp (ps_asg (pe_tup (pa_cons ha (pa_cons hb (pa_cons (pe_lst pa_nil) pa_nil) hsb) hsa)) (pg_tup hc (pgs_cons (pg_name hN hi hx hfx) (pgs_cons (pg_name hN hj hy hfy) (pgs_cons (pg_name hN hl hz hfz) pgs_nil)))) hs hw h1) fun D σ H ⟨B, O₀, pn, δ, O, hpn, rp, h⟩ => ?_
  refine runX hpn rp h fun s δ1 e q v H1 O1 ah bv => ?_
  refine runX hpn ah.rp (postS_mono ah.stay q) fun t δ2 e' q' v' H2 O2 ah' bv' => ?_
  refine ⟨by decide, fun p hp => ?_⟩
  refine ⟨small_line (by simp), fun p2 hp2 => ⟨p2, [v, v', .ref p], rfl, .inl (.inl upd_same), rfl, v, [v', .ref p], rfl, v', [.ref p], rfl, .ref p, [], rfl, rfl, ?_⟩⟩
  split at q'
  · rename_i y z es et ey ez
    have hne : p ≠ p2 := fun w => by
      rw [← w, upd_same] at hp2
      cases hp2
    have hpp : (L2.upd (L2.upd H2 p (.lst [])) p2 (.tup [v, v', .ref p])) p = some (.lst []) := by rw [upd_ne hne, upd_same]
    have s1 : Sm C H2 (L2.upd H2 p (.lst [])) := same_new hp
    have s2 : Sm C (L2.upd H2 p (.lst [])) (L2.upd (L2.upd H2 p (.lst [])) p2 (.tup [v, v', .ref p])) := same_new hp2
    have bs := bv_stay bv ah'.stay es
    have rp2 := ((ah'.rp.set (arg_still ey) (bv_arg bs ey) (io_ne hpn hio)).set (arg_still ez) (bv_arg bv' ez) (io_ne hpn hjo))
    have rp3 := rp2.setOwn (i := l) (s := .l .ow []) (a := p) (s1.trans s2) rfl (Nn.of hp) ⟨_, hpp, trivial⟩ (.ol (by simp) hpp .nil) (io_ne hpn hlo)
    have st : Stay H2 O2 (L2.upd (L2.upd H2 p (.lst [])) p2 (.tup [v, v', .ref p])) (p :: O2) := Same.trans (hm_new hp) (hm_same s2)
    exact q' _ _ _ (Same.trans ah'.stay st) rp3
  · exact q'.elim
end
end DL

set_option Elab.async false
set_option linter.all false
set_option maxRecDepth 100000
set_option maxHeartbeats 4000000
namespace DL
namespace G
open PySem PySem.Spec L2
def top (i : Nat) : Stmt := PySem.Challenge.pw_shellmarks_k13_whole_measures_that_depen.main.body.getD i (.Pass ⟨0, 0, 0, 0⟩)
def topC (i j : Nat) : Stmt := match top i with | .ClassDef (body := b) .. => b.getD j (.Pass ⟨0, 0, 0, 0⟩) | s => s
/-- what the module holds beside the defs -/
structure Txt (P : Program) (K : PySem.W.Frag) (mg : Str → Option Value) (C : Cfg) : Prop where
  b_abs : mg "abs" = none
  b_all : mg "all" = none
  b_any : mg "any" = none
  b_bool : mg "bool" = none
  b_dict : mg "dict" = none
  b_enumerate : mg "enumerate" = none
  b_int : mg "int" = none
  b_isinstance : mg "isinstance" = none
  b_len : mg "len" = none
  b_list : mg "list" = none
  b_max : mg "max" = none
  b_min : mg "min" = none
  b_range : mg "range" = none
  b_sorted : mg "sorted" = none
  b_sum : mg "sum" = none
  b_tuple : mg "tuple" = none
  b_zip : mg "zip" = none
  c_GREATEST : ∃ t, mg "GREATEST" = some (.int 99 t)
  c_MOST_MARKS : ∃ t, mg "MOST_MARKS" = some (.int 6 t)
  c_MOST_MEASURED : ∃ t, mg "MOST_MEASURED" = some (.int 6 t)
  c_MOST_MEASURES : ∃ t, mg "MOST_MEASURES" = some (.int 4 t)
  c_MOST_RULES : ∃ t, mg "MOST_RULES" = some (.int 64 t)
  c_MOST_SHELLS : ∃ t, mg "MOST_SHELLS" = some (.int 8 t)
  x_BadArgument : XFact P K mg C 0 "BadArgument" "BadArgument.__init__" "name"
  te0 : PySem.W.exmOne K (.ref (C.exc 0)) (.ref (C.exc 0)) = some true
  cls0 : Cls K (C.cls 0)
  fl0 : C.fl 0 = (["many", "rows", "every", "all_shells", "columns"] : List Str)
  na_many : NoAttr K (C.cls 0) "many"
  na_rows : NoAttr K (C.cls 0) "rows"
  na_every : NoAttr K (C.cls 0) "every"
  na_all_shells : NoAttr K (C.cls 0) "all_shells"
  na_columns : NoAttr K (C.cls 0) "columns"
section
variable {P : Program} {w : World} {K : PySem.W.Frag} {mg : Str → Option Value} {base : Heap} {C : Cfg}
theorem lamh_of {X : Cx} {C : Cfg} {x : Str} {cdv : Value} (h : HostL X.base X.mg C x cdv) (h1 : X.env.code = cdv := by rfl) (h2 : X.env.qual = x ++ ".<locals>." := by rfl) : LamH X C := by
  obtain ⟨c, P, a, b, d, e⟩ := h
  refine ⟨c, P, h1.trans a, b, ?_, ?_⟩
  · rw [h2]; exact d
  · rw [h2]; exact e
abbrev s__law_refused : Stmt := top 59
theorem b__law_refused : BindP "_law_refused" s__law_refused ["call"] := fun _ _ _ _ _ _ us hl => match us, hl with | [_], _ => rfl
theorem sc_ref : FnScope ["call", "e"] ["call"] (defScope s__law_refused) := ⟨rfl, rfl, rfl, by decide +kernel, rfl, by decide +kernel, by decide +kernel⟩
abbrev s_demand : Stmt := top 7
theorem b_demand : BindP "demand" s_demand ["is_good", "name"] := fun _ _ _ _ _ _ us hl => match us, hl with | [_, _], _ => rfl
abbrev s_is_in : Stmt := top 8
theorem b_is_in : BindP "is_in" s_is_in ["value", "low", "high"] := fun _ _ _ _ _ _ us hl => match us, hl with | [_, _, _], _ => rfl
abbrev s_is_tuple : Stmt := top 9
theorem b_is_tuple : BindP "is_tuple" s_is_tuple ["value", "least", "most"] := fun _ _ _ _ _ _ us hl => match us, hl with | [_, _, _], _ => rfl
abbrev s_are_in : Stmt := top 10
theorem b_are_in : BindP "are_in" s_are_in ["value", "least", "most", "low", "high"] := fun _ _ _ _ _ _ us hl => match us, hl with | [_, _, _, _, _], _ => rfl
abbrev s_is_set : Stmt := top 11
theorem b_is_set : BindP "is_set" s_is_set ["value", "many"] := fun _ _ _ _ _ _ us hl => match us, hl with | [_, _], _ => rfl
abbrev s_mask_of : Stmt := top 12
theorem b_mask_of : BindP "mask_of" s_mask_of ["members"] := fun _ _ _ _ _ _ us hl => match us, hl with | [_], _ => rfl
abbrev s_members_of : Stmt := top 13
theorem b_members_of : BindP "members_of" s_members_of ["mask"] := fun _ _ _ _ _ _ us hl => match us, hl with | [_], _ => rfl
abbrev s_set_key : Stmt := top 14
theorem b_set_key : BindP "set_key" s_set_key ["mask"] := fun _ _ _ _ _ _ us hl => match us, hl with | [_], _ => rfl
abbrev s_ordered : Stmt := top 15
theorem b_ordered : BindP "ordered" s_ordered ["masks"] := fun _ _ _ _ _ _ us hl => match us, hl with | [_], _ => rfl
abbrev s_all_masks : Stmt := top 16
theorem b_all_masks : BindP "all_masks" s_all_masks ["many"] := fun _ _ _ _ _ _ us hl => match us, hl with | [_], _ => rfl
abbrev s_is_part : Stmt := top 17
theorem b_is_part : BindP "is_part" s_is_part ["one", "other"] := fun _ _ _ _ _ _ us hl => match us, hl with | [_, _], _ => rfl
abbrev s_is_table : Stmt := top 19
theorem b_is_table : BindP "is_table" s_is_table ["value"] := fun _ _ _ _ _ _ us hl => match us, hl with | [_], _ => rfl
abbrev s_demand_table : Stmt := top 20
theorem b_demand_table : BindP "demand_table" s_demand_table ["table"] := fun _ _ _ _ _ _ us hl => match us, hl with | [_], _ => rfl
abbrev s_demand_marks : Stmt := top 21
theorem b_demand_marks : BindP "demand_marks" s_demand_marks ["table", "marks"] := fun _ _ _ _ _ _ us hl => match us, hl with | [_, _], _ => rfl
abbrev s_Grid_common : Stmt := topC 22 1
abbrev s_Grid_having : Stmt := topC 22 2
abbrev s_Grid_closed : Stmt := topC 22 3
abbrev s_Grid_init : Stmt := topC 22 0
abbrev s_closed : Stmt := top 23
theorem b_closed : BindP "closed" s_closed ["table", "marks"] := fun _ _ _ _ _ _ us hl => match us, hl with | [_, _], _ => rfl
abbrev s_is_rule : Stmt := top 26
theorem b_is_rule : BindP "is_rule" s_is_rule ["value", "many"] := fun _ _ _ _ _ _ us hl => match us, hl with | [_, _], _ => rfl
abbrev s_are_rules : Stmt := top 27
theorem b_are_rules : BindP "are_rules" s_are_rules ["value", "many"] := fun _ _ _ _ _ _ us hl => match us, hl with | [_, _], _ => rfl
abbrev s_demand_rule : Stmt := top 28
theorem b_demand_rule : BindP "demand_rule" s_demand_rule ["table", "rule"] := fun _ _ _ _ _ _ us hl => match us, hl with | [_, _], _ => rfl
abbrev s_demand_rules : Stmt := top 29
theorem b_demand_rules : BindP "demand_rules" s_demand_rules ["many", "rules"] := fun _ _ _ _ _ _ us hl => match us, hl with | [_, _], _ => rfl
abbrev s_masks_of : Stmt := top 30
theorem b_masks_of : BindP "masks_of" s_masks_of ["rules"] := fun _ _ _ _ _ _ us hl => match us, hl with | [_], _ => rfl
abbrev s_obeys : Stmt := top 31
theorem b_obeys : BindP "obeys" s_obeys ["mask", "pair"] := fun _ _ _ _ _ _ us hl => match us, hl with | [_, _], _ => rfl
abbrev s_shell_against : Stmt := top 33
theorem b_shell_against : BindP "shell_against" s_shell_against ["table", "rule"] := fun _ _ _ _ _ _ us hl => match us, hl with | [_, _], _ => rfl
abbrev s_holds : Stmt := top 32
theorem b_holds : BindP "holds" s_holds ["table", "rule"] := fun _ _ _ _ _ _ us hl => match us, hl with | [_, _], _ => rfl
abbrev s_closed_mask : Stmt := top 34
theorem b_closed_mask : BindP "closed_mask" s_closed_mask ["pairs", "mask"] := fun _ _ _ _ _ _ us hl => match us, hl with | [_, _], _ => rfl
abbrev s_closed_by : Stmt := top 35
theorem b_closed_by : BindP "closed_by" s_closed_by ["many", "rules", "marks"] := fun _ _ _ _ _ _ us hl => match us, hl with | [_, _, _], _ => rfl
abbrev s_heads_of : Stmt := top 37
theorem b_heads_of : BindP "heads_of" s_heads_of ["many", "closed"] := fun _ _ _ _ _ _ us hl => match us, hl with | [_, _], _ => rfl
abbrev s_closed_all : Stmt := top 38
theorem b_closed_all : BindP "closed_all" s_closed_all ["grid"] := fun _ _ _ _ _ _ us hl => match us, hl with | [_], _ => rfl
abbrev s_base_masks : Stmt := top 39
theorem b_base_masks : BindP "base_masks" s_base_masks ["many", "closed"] := fun _ _ _ _ _ _ us hl => match us, hl with | [_, _], _ => rfl
abbrev s_as_rules : Stmt := top 40
theorem b_as_rules : BindP "as_rules" s_as_rules ["pairs"] := fun _ _ _ _ _ _ us hl => match us, hl with | [_], _ => rfl
abbrev s_base : Stmt := top 41
theorem b_base : BindP "base" s_base ["table"] := fun _ _ _ _ _ _ us hl => match us, hl with | [_], _ => rfl
abbrev s_are_measures : Stmt := top 46
theorem b_are_measures : BindP "are_measures" s_are_measures ["value"] := fun _ _ _ _ _ _ us hl => match us, hl with | [_], _ => rfl
abbrev s_demand_measures : Stmt := top 47
theorem b_demand_measures : BindP "demand_measures" s_demand_measures ["measures"] := fun _ _ _ _ _ _ us hl => match us, hl with | [_], _ => rfl
abbrev s_wide_of : Stmt := top 48
theorem b_wide_of : BindP "wide_of" s_wide_of ["measures"] := fun _ _ _ _ _ _ us hl => match us, hl with | [_], _ => rfl
abbrev s_pair_table : Stmt := top 49
theorem b_pair_table : BindP "pair_table" s_pair_table ["measures"] := fun _ _ _ _ _ _ us hl => match us, hl with | [_], _ => rfl
abbrev s_alike_masks : Stmt := top 50
theorem b_alike_masks : BindP "alike_masks" s_alike_masks ["measures"] := fun _ _ _ _ _ _ us hl => match us, hl with | [_], _ => rfl
abbrev s_depends : Stmt := top 51
theorem b_depends : BindP "depends" s_depends ["measures", "left", "right"] := fun _ _ _ _ _ _ us hl => match us, hl with | [_, _, _], _ => rfl
abbrev s_told_by_measures : Stmt := top 52
theorem b_told_by_measures : BindP "told_by_measures" s_told_by_measures ["measures", "left"] := fun _ _ _ _ _ _ us hl => match us, hl with | [_, _], _ => rfl
abbrev s_names_of : Stmt := top 53
theorem b_names_of : BindP "names_of" s_names_of ["measures"] := fun _ _ _ _ _ _ us hl => match us, hl with | [_], _ => rfl
abbrev s_pair_against : Stmt := top 54
theorem b_pair_against : BindP "pair_against" s_pair_against ["measures", "left", "right"] := fun _ _ _ _ _ _ us hl => match us, hl with | [_, _, _], _ => rfl
abbrev s__law_dice : Stmt := top 56
theorem b__law_dice : BindP "_law_dice" s__law_dice ["script", "spot"] := fun _ _ _ _ _ _ us hl => match us, hl with | [_, _], _ => rfl
abbrev s__law_roll : Stmt := top 57
theorem b__law_roll : BindP "_law_roll" s__law_roll ["dice", "total"] := fun _ _ _ _ _ _ us hl => match us, hl with | [_, _], _ => rfl
abbrev s__law_pick : Stmt := top 58
theorem b__law_pick : BindP "_law_pick" s__law_pick ["dice", "things"] := fun _ _ _ _ _ _ us hl => match us, hl with | [_, _], _ => rfl
abbrev s__law_sets : Stmt := top 60
theorem b__law_sets : BindP "_law_sets" s__law_sets ["many"] := fun _ _ _ _ _ _ us hl => match us, hl with | [_], _ => rfl
abbrev s__law_table : Stmt := top 61
theorem b__law_table : BindP "_law_table" s__law_table ["dice", "marks", "shells"] := fun _ _ _ _ _ _ us hl => match us, hl with | [_, _, _], _ => rfl
abbrev s__law_has : Stmt := top 62
theorem b__law_has : BindP "_law_has" s__law_has ["row", "marks"] := fun _ _ _ _ _ _ us hl => match us, hl with | [_, _], _ => rfl
abbrev s__law_common : Stmt := top 63
theorem b__law_common : BindP "_law_common" s__law_common ["table", "shells"] := fun _ _ _ _ _ _ us hl => match us, hl with | [_, _], _ => rfl
abbrev s__law_having : Stmt := top 64
theorem b__law_having : BindP "_law_having" s__law_having ["table", "marks"] := fun _ _ _ _ _ _ us hl => match us, hl with | [_, _], _ => rfl
abbrev s__law_closed : Stmt := top 65
theorem b__law_closed : BindP "_law_closed" s__law_closed ["table", "marks"] := fun _ _ _ _ _ _ us hl => match us, hl with | [_, _], _ => rfl
abbrev s__law_every : Stmt := top 66
theorem b__law_every : BindP "_law_every" s__law_every ["table"] := fun _ _ _ _ _ _ us hl => match us, hl with | [_], _ => rfl
abbrev s__law_measures : Stmt := top 67
theorem b__law_measures : BindP "_law_measures" s__law_measures ["dice", "shells", "wide"] := fun _ _ _ _ _ _ us hl => match us, hl with | [_, _, _], _ => rfl
abbrev s__law_alike : Stmt := top 68
theorem b__law_alike : BindP "_law_alike" s__law_alike ["one", "other", "measures"] := fun _ _ _ _ _ _ us hl => match us, hl with | [_, _, _], _ => rfl
abbrev s__law_pairs : Stmt := top 69
theorem b__law_pairs : BindP "_law_pairs" s__law_pairs ["measures"] := fun _ _ _ _ _ _ us hl => match us, hl with | [_], _ => rfl
abbrev s__law_last : Stmt := top 70
theorem b__law_last : BindP "_law_last" s__law_last [] := fun _ _ _ _ _ _ us hl => match us, hl with | [], _ => rfl
abbrev s_law : Stmt := top 71
theorem b_law : BindP "law" s_law ["script"] := fun _ _ _ _ _ _ us hl => match us, hl with | [_], _ => rfl
-- demand ['is_good', 'name'] own [] slots ['is_good', 'name']
def d_demand : Env → SR := (sIf (tNotK (kTru (kV 0))) (sRaise 0 (aCons (kV 1) aNil)) sNext)
def m_demand : List S → R S := fun as => fin (d_demand (entry 2 as))
theorem ok_demand (T : Txt P K mg C) (F : Fact K mg "demand" s_demand) : Cal P w K mg base 3 "demand" s_demand ["is_good", "name"] (spD K C 2 m_demand) := by
  have nd : (["is_good", "name"] : List Str).Nodup := by decide +kernel
  exact cal_of (N := ["is_good", "name"]) (k := 2) (body := d_demand) F ⟨rfl, rfl, rfl, nd, rfl, by decide +kernel, by decide +kernel⟩ fun fa cdv A outer s H E hr => (dss_one (ds_if (dt_not (dt_val (de_var 0))) (dss_one (ds_raise rfl T.x_BadArgument (by decide) PySem.XOwn.bnd_name hr rfl (takes_of rfl rfl rfl rfl) (da_cons (de_var 1) da_nil))) dss_nil))
-- is_in ['value', 'low', 'high'] own [] slots ['value', 'low', 'high']
def d_is_in : Env → SR := (sRet (kAnd (isiS "int" (kV 0)) (kAnd (kNot (isiS "bool" (kV 0))) (kCh leS leS (kV 1) (kV 0) (kV 2)))))
def m_is_in : List S → R S := fun as => fin (d_is_in (entry 3 as))
theorem ok_is_in (T : Txt P K mg C) (F : Fact K mg "is_in" s_is_in) : Cal P w K mg base 2 "is_in" s_is_in ["value", "low", "high"] (spD K C 3 m_is_in) := by
  have nd : (["value", "low", "high"] : List Str).Nodup := by decide +kernel
  exact cal_of (N := ["value", "low", "high"]) (k := 1) (body := d_is_in) F ⟨rfl, rfl, rfl, nd, rfl, by decide +kernel, by decide +kernel⟩ fun fa cdv A outer s H E hr => (dss_one (ds_ret (de_and (de_isi (by decide) rfl T.b_isinstance rfl T.b_int (by boot_by_name) (de_var 0)) (de_and (de_not (de_isi (by decide) rfl T.b_isinstance rfl T.b_bool (by boot_by_name) (de_var 0))) (de_one (de_chain d_le d_le ii_bool (de_var 1) (de_var 0) (de_var 2)))))))
-- is_tuple ['value', 'least', 'most'] own [] slots ['value', 'least', 'most']
def d_is_tuple : Env → SR := (sRet (kAnd (isiS "tuple" (kV 0)) (kCh leS leS (kV 1) (kCB (on1 lenS) (aCons (kV 0) aNil)) (kV 2))))
def m_is_tuple : List S → R S := fun as => fin (d_is_tuple (entry 3 as))
theorem ok_is_tuple (T : Txt P K mg C) (F : Fact K mg "is_tuple" s_is_tuple) : Cal P w K mg base 2 "is_tuple" s_is_tuple ["value", "least", "most"] (spD K C 3 m_is_tuple) := by
  have nd : (["value", "least", "most"] : List Str).Nodup := by decide +kernel
  exact cal_of (N := ["value", "least", "most"]) (k := 1) (body := d_is_tuple) F ⟨rfl, rfl, rfl, nd, rfl, by decide +kernel, by decide +kernel⟩ fun fa cdv A outer s H E hr => (dss_one (ds_ret (de_and (de_isi (by decide) rfl T.b_isinstance rfl T.b_tuple (by boot_by_name) (de_var 0)) (de_one (de_chain d_le d_le ii_bool (de_var 1) (de_callB (c_len) rfl T.b_len (by boot_by_name) (da_cons (de_var 0) da_nil)) (de_var 2))))))
-- are_in ['value', 'least', 'most', 'low', 'high'] own [] slots ['value', 'least', 'most', 'low', 'high', 'one']
def d_are_in : Env → SR := (sRet (kAnd (kCall 3 m_is_tuple (aCons (kV 0) (aCons (kV 1) (aCons (kV 2) aNil)))) (kCB (on1 allS) (aCons (kComp (iVal false (kV 0)) (gN 5) tTrue (kCall 3 m_is_in (aCons (kV 5) (aCons (kV 3) (aCons (kV 4) aNil)))) [5]) aNil))))
def m_are_in : List S → R S := fun as => fin (d_are_in (entry 6 as))
theorem ok_are_in (T : Txt P K mg C) (F : Fact K mg "are_in" s_are_in) (c_is_in : Cal P w K mg base 2 "is_in" s_is_in ["value", "low", "high"] (spD K C 3 m_is_in)) (c_is_tuple : Cal P w K mg base 2 "is_tuple" s_is_tuple ["value", "least", "most"] (spD K C 3 m_is_tuple)) : Cal P w K mg base 3 "are_in" s_are_in ["value", "least", "most", "low", "high"] (spD K C 5 m_are_in) := by
  have nd : (["value", "least", "most", "low", "high", "one"] : List Str).Nodup := by decide +kernel
  exact cal_of (N := ["value", "least", "most", "low", "high", "one"]) (k := 2) (body := d_are_in) F ⟨rfl, rfl, rfl, nd, rfl, by decide +kernel, by decide +kernel⟩ fun fa cdv A outer s H E hr => (dss_one (ds_ret (de_and (de_callC c_is_tuple b_is_tuple hr (by decide) rfl (takes_of rfl rfl rfl rfl) (da_cons (de_var 0) (da_cons (de_var 1) (da_cons (de_var 2) da_nil)))) (de_one (de_callB (c_all rfl) rfl T.b_all (by boot_by_name) (da_cons (de_lcW [("one", 5)] rfl nd (di_val (de_var 0)) (blkOk_by (by kernel_rfl)) (fun _ _ _ _ _ => (dg_name 5 nd)) (fun _ _ _ _ _ => dts_nil) (fun _ _ _ _ _ => (de_callC c_is_in b_is_in hr (by decide) rfl takes0 (da_cons (de_var 5) (da_cons (de_var 3) (da_cons (de_var 4) da_nil)))))) da_nil))))))
-- is_set ['value', 'many'] own [] slots ['value', 'many', 'one', 'two']
def d_is_set : Env → SR := (sRet (kAnd (kCall 5 m_are_in (aCons (kV 0) (aCons (kC (.int 0)) (aCons (kV 1) (aCons (kC (.int 0)) (aCons (kB subS (kV 1) (kC (.int 1))) aNil)))))) (kCB (on1 allS) (aCons (kComp (iZipF false (kV 0) (kSl (kV 0) (oSome (kC (.int 1))) oNo)) (gT ((gN 2) :: ((gN 3) :: []))) tTrue (kB ltS (kV 2) (kV 3)) [2, 3]) aNil))))
def m_is_set : List S → R S := fun as => fin (d_is_set (entry 4 as))
theorem ok_is_set (T : Txt P K mg C) (F : Fact K mg "is_set" s_is_set) (c_are_in : Cal P w K mg base 3 "are_in" s_are_in ["value", "least", "most", "low", "high"] (spD K C 5 m_are_in)) : Cal P w K mg base 4 "is_set" s_is_set ["value", "many"] (spD K C 2 m_is_set) := by
  have nd : (["value", "many", "one", "two"] : List Str).Nodup := by decide +kernel
  exact cal_of (N := ["value", "many", "one", "two"]) (k := 3) (body := d_is_set) F ⟨rfl, rfl, rfl, nd, rfl, by decide +kernel, by decide +kernel⟩ fun fa cdv A outer s H E hr => (dss_one (ds_ret (de_and (de_callC c_are_in b_are_in hr (by decide) rfl (takes_of rfl rfl rfl rfl) (da_cons (de_var 0) (da_cons de_int (da_cons (de_var 1) (da_cons de_int (da_cons (de_bin d_sub (de_var 1) de_int) da_nil)))))) (de_one (de_callB (c_all rfl) rfl T.b_all (by boot_by_name) (da_cons (de_lcW [("one", 2), ("two", 3)] rfl nd (di_zip rfl T.b_zip (de_var 0) (de_slice (de_var 0) (do_some de_int) do_none)) (blkOk_by (by kernel_rfl)) (fun _ _ _ _ _ => (dg_tup rfl (dgs_cons (dg_name 2 nd) (dgs_cons (dg_name 3 nd) dgs_nil)))) (fun _ _ _ _ _ => dts_nil) (fun _ _ _ _ _ => (de_cmp d_lt (de_var 2) (de_var 3) rfl))) da_nil))))))
-- mask_of ['members'] own [] slots ['members', 'one']
def d_mask_of : Env → SR := (sRet (kCB (on1 sumS) (aCons (kComp (iVal false (kV 0)) (gN 1) tTrue (kB shlS (kC (.int 1)) (kV 1)) [1]) aNil)))
def m_mask_of : List S → R S := fun as => fin (d_mask_of (entry 2 as))
theorem ok_mask_of (T : Txt P K mg C) (F : Fact K mg "mask_of" s_mask_of) : Cal P w K mg base 2 "mask_of" s_mask_of ["members"] (spD K C 1 m_mask_of) := by
  have nd : (["members", "one"] : List Str).Nodup := by decide +kernel
  exact cal_of (N := ["members", "one"]) (k := 1) (body := d_mask_of) F ⟨rfl, rfl, rfl, nd, rfl, by decide +kernel, by decide +kernel⟩ fun fa cdv A outer s H E hr => (dss_one (ds_ret (de_callB (c_sum rfl) rfl T.b_sum (by boot_by_name) (da_cons (de_lcW [("one", 1)] rfl nd (di_val (de_var 0)) (blkOk_by (by kernel_rfl)) (fun _ _ _ _ _ => (dg_name 1 nd)) (fun _ _ _ _ _ => dts_nil) (fun _ _ _ _ _ => (de_bin d_shl de_int (de_var 1)))) da_nil))))
-- members_of ['mask'] own [] slots ['mask', 'place']
def d_members_of : Env → SR := (sRet (kCB (on1 tupS) (aCons (kComp (iRg rg1S (aCons (kU bitsS (kV 0)) aNil)) (gN 1) (kBl (kB eqS (kB andS (kB shrS (kV 0) (kV 1)) (kC (.int 1))) (kC (.int 1)))) (kV 1) [1]) aNil)))
def m_members_of : List S → R S := fun as => fin (d_members_of (entry 2 as))
theorem ok_members_of (T : Txt P K mg C) (F : Fact K mg "members_of" s_members_of) : Cal P w K mg base 2 "members_of" s_members_of ["mask"] (spD K C 1 m_members_of) := by
  have nd : (["mask", "place"] : List Str).Nodup := by decide +kernel
  exact cal_of (N := ["mask", "place"]) (k := 1) (body := d_members_of) F ⟨rfl, rfl, rfl, nd, rfl, by decide +kernel, by decide +kernel⟩ fun fa cdv A outer s H E hr => (dss_one (ds_ret (de_callTy c_tuple rfl T.b_tuple (by boot_by_name) (da_cons (de_lcW [("place", 1)] rfl nd (di_range1 rfl T.b_range (da_cons (de_bits (de_var 0)) da_nil)) (blkOk_by (by kernel_rfl)) (fun _ _ _ _ _ => (dg_name 1 nd)) (fun _ _ _ _ _ => (dts_one (dt_cmp (d_eq (hr64 hr)) (de_bin d_and (de_bin d_shr (de_var 0) (de_var 1)) de_int) de_int rfl))) (fun _ _ _ _ _ => (de_var 1))) da_nil))))
-- set_key ['mask'] own [] slots ['mask', 'members']
def d_set_key : Env → SR := (sSeq (sAsg 1 (kCall 1 m_members_of (aCons (kV 0) aNil))) (sRet (kTup (aCons (kCB (on1 lenS) (aCons (kV 1) aNil)) (aCons (kV 1) aNil)))))
def m_set_key : List S → R S := fun as => fin (d_set_key (entry 2 as))
theorem ok_set_key (T : Txt P K mg C) (F : Fact K mg "set_key" s_set_key) (c_members_of : Cal P w K mg base 2 "members_of" s_members_of ["mask"] (spD K C 1 m_members_of)) : Cal P w K mg base 3 "set_key" s_set_key ["mask"] (spD K C 1 m_set_key) := by
  have nd : (["mask", "members"] : List Str).Nodup := by decide +kernel
  exact cal_of (N := ["mask", "members"]) (k := 2) (body := d_set_key) F ⟨rfl, rfl, rfl, nd, rfl, by decide +kernel, by decide +kernel⟩ fun fa cdv A outer s H E hr => (dss_cons (ds_asg 1 (de_callC c_members_of b_members_of hr (by decide) rfl (takes_of rfl rfl rfl rfl) (da_cons (de_var 0) da_nil)) nd) (dss_one (ds_ret (de_tup (da_cons (de_callB (c_len) rfl T.b_len (by boot_by_name) (da_cons (de_var 1) da_nil)) (da_cons (de_var 1) da_nil))))))
-- ordered ['masks'] own ['found'] slots ['masks', 'found', 'mask']
def d_ordered : Env → SR := (sSeq (sAsgO 1 (kCB (on1 dictS) (aCons (kComp (iVal false (kV 0)) (gN 2) tTrue (kTup (aCons (kV 2) (aCons (kC (.bool true)) aNil))) [2]) aNil))) (sRet (kU (srtKA (kCall 1 m_set_key (aCons (kV 0) aNil)) 1) (kV 1))))
def m_ordered : List S → R S := fun as => fin (d_ordered (entry 3 as))
theorem ok_ordered (T : Txt P K mg C) {cdv cdR : Value} (hL : HostL base mg C "ordered" cdv) (R_ref : FactC K mg "_law_refused" s__law_refused cdR) (F : FactC K mg "ordered" s_ordered cdv) (c_set_key : Cal P w K mg base 3 "set_key" s_set_key ["mask"] (spD K C 1 m_set_key)) : Cal P w K mg base 6 "ordered" s_ordered ["masks"] (spD K C 1 m_ordered) := by
  have nd : (["masks", "found", "mask"] : List Str).Nodup := by decide +kernel
  exact cal_ofC (N := ["masks", "found", "mask"]) (k := 5) (body := d_ordered) F ⟨rfl, rfl, rfl, nd, rfl, by decide +kernel, by decide +kernel⟩ fun fa A outer s H E hr => (dss_cons (ds_asgO 1 (de_callTy (c_dict rfl) rfl T.b_dict (by boot_by_name) (da_cons (de_lcW [("mask", 2)] rfl nd (di_val (de_var 0)) (blkOk_by (by kernel_rfl)) (fun _ _ _ _ _ => (dg_name 2 nd)) (fun _ _ _ _ _ => dts_nil) (fun _ _ _ _ _ => (de_tup (da_cons (de_var 2) (da_cons de_bl da_nil))))) da_nil)) nd) (dss_one (ds_ret (de_sortKeyA (k := 3) (N := ["mask"]) (y := "mask") (kf := (kCall 1 m_set_key (aCons (kV 0) aNil))) ⟨⟨rfl, rfl, rfl, by decide +kernel, rfl, by decide +kernel, by decide +kernel⟩, by decide, fun _ => rfl, rfl, fun _ _ _ _ _ => rfl, fun q A outer s H E fl c1 hr => (de_callC c_set_key b_set_key hr (by decide) rfl takes0 (da_cons (de_var 0) da_nil))⟩ (lamh_of hL) (hr.mono (by decide)) rfl T.b_sorted (de_var 1)))))
-- all_masks ['many'] own [] slots ['many']
def d_all_masks : Env → SR := (sRet (kU (srtKR (kCall 1 m_set_key (aCons (kV 0) aNil)) 1) (kB shlS (kC (.int 1)) (kV 0))))
def m_all_masks : List S → R S := fun as => fin (d_all_masks (entry 1 as))
theorem ok_all_masks (T : Txt P K mg C) {cdv cdR : Value} (hL : HostL base mg C "all_masks" cdv) (R_ref : FactC K mg "_law_refused" s__law_refused cdR) (F : FactC K mg "all_masks" s_all_masks cdv) (c_set_key : Cal P w K mg base 3 "set_key" s_set_key ["mask"] (spD K C 1 m_set_key)) : Cal P w K mg base 6 "all_masks" s_all_masks ["many"] (spD K C 1 m_all_masks) := by
  have nd : (["many"] : List Str).Nodup := by decide +kernel
  exact cal_ofC (N := ["many"]) (k := 5) (body := d_all_masks) F ⟨rfl, rfl, rfl, nd, rfl, by decide +kernel, by decide +kernel⟩ fun fa A outer s H E hr => (dss_one (ds_ret (de_sortKeyR (k := 3) (N := ["mask"]) (y := "mask") (kf := (kCall 1 m_set_key (aCons (kV 0) aNil))) ⟨⟨rfl, rfl, rfl, by decide +kernel, rfl, by decide +kernel, by decide +kernel⟩, by decide, fun _ => rfl, rfl, fun _ _ _ _ _ => rfl, fun q A outer s H E fl c1 hr => (de_callC c_set_key b_set_key hr (by decide) rfl takes0 (da_cons (de_var 0) da_nil))⟩ (lamh_of hL) (hr.mono (by decide)) rfl T.b_sorted rfl T.b_range (de_bin d_shl de_int (de_var 0)))))
-- is_part ['one', 'other'] own [] slots ['one', 'other']
def d_is_part : Env → SR := (sRet (kB eqS (kB andS (kV 0) (kV 1)) (kV 0)))
def m_is_part : List S → R S := fun as => fin (d_is_part (entry 2 as))
theorem ok_is_part (T : Txt P K mg C) (F : Fact K mg "is_part" s_is_part) : Cal P w K mg base 2 "is_part" s_is_part ["one", "other"] (spD K C 2 m_is_part) := by
  have nd : (["one", "other"] : List Str).Nodup := by decide +kernel
  exact cal_of (N := ["one", "other"]) (k := 1) (body := d_is_part) F ⟨rfl, rfl, rfl, nd, rfl, by decide +kernel, by decide +kernel⟩ fun fa cdv A outer s H E hr => (dss_one (ds_ret (de_cmp (d_eq (hr64 hr)) (de_bin d_and (de_var 0) (de_var 1)) (de_var 0) rfl)))
-- is_table ['value'] own [] slots ['value', 'row']
def d_is_table : Env → SR := (sSeq (sIf (tOrK (tNotK (kTru (kCall 3 m_is_tuple (aCons (kV 0) (aCons (kC (.int 2)) (aCons (kC (.int 2)) aNil)))))) (tOrK (tNotK (kTru (kCall 3 m_is_in (aCons (kB ixS (kV 0) (kC (.int 0))) (aCons (kC (.int 0)) (aCons (kC (.int 6)) aNil)))))) (tNotK (kTru (kCall 3 m_is_tuple (aCons (kB ixS (kV 0) (kC (.int 1))) (aCons (kC (.int 0)) (aCons (kC (.int 8)) aNil)))))))) (sRet (kC (.bool false))) sNext) (sRet (kCB (on1 allS) (aCons (kComp (iVal false (kB ixS (kV 0) (kC (.int 1)))) (gN 1) tTrue (kCall 2 m_is_set (aCons (kV 1) (aCons (kB ixS (kV 0) (kC (.int 0))) aNil))) [1]) aNil))))
def m_is_table : List S → R S := fun as => fin (d_is_table (entry 2 as))
theorem ok_is_table (T : Txt P K mg C) (F : Fact K mg "is_table" s_is_table) (c_is_tuple : Cal P w K mg base 2 "is_tuple" s_is_tuple ["value", "least", "most"] (spD K C 3 m_is_tuple)) (c_is_in : Cal P w K mg base 2 "is_in" s_is_in ["value", "low", "high"] (spD K C 3 m_is_in)) (c_is_set : Cal P w K mg base 4 "is_set" s_is_set ["value", "many"] (spD K C 2 m_is_set)) : Cal P w K mg base 5 "is_table" s_is_table ["value"] (spD K C 1 m_is_table) := by
  have nd : (["value", "row"] : List Str).Nodup := by decide +kernel
  exact cal_of (N := ["value", "row"]) (k := 4) (body := d_is_table) F ⟨rfl, rfl, rfl, nd, rfl, by decide +kernel, by decide +kernel⟩ fun fa cdv A outer s H E hr => (dss_cons (ds_if (dt_bool (dw_or (dt_not (dt_val (de_callC c_is_tuple b_is_tuple hr (by decide) rfl (takes_of rfl rfl rfl rfl) (da_cons (de_var 0) (da_cons de_int (da_cons de_int da_nil)))))) (dw_or (dt_not (dt_val (de_callC c_is_in b_is_in hr (by decide) rfl (takes_of rfl rfl rfl rfl) (da_cons (de_ix (de_var 0) de_int) (da_cons de_int (da_cons (de_gIntE rfl T.c_MOST_MARKS) da_nil)))))) (dw_or1 (dt_not (dt_val (de_callC c_is_tuple b_is_tuple hr (by decide) rfl (takes_of rfl rfl rfl rfl) (da_cons (de_ix (de_var 0) de_int) (da_cons de_int (da_cons (de_gIntE rfl T.c_MOST_SHELLS) da_nil)))))))))) (dss_one (ds_ret de_bl)) dss_nil) (dss_one (ds_ret (de_callB (c_all rfl) rfl T.b_all (by boot_by_name) (da_cons (de_lcW [("row", 1)] rfl nd (di_val (de_ix (de_var 0) de_int)) (blkOk_by (by kernel_rfl)) (fun _ _ _ _ _ => (dg_name 1 nd)) (fun _ _ _ _ _ => dts_nil) (fun _ _ _ _ _ => (de_callC c_is_set b_is_set hr (by decide) rfl takes0 (da_cons (de_var 1) (da_cons (de_ix (de_var 0) de_int) da_nil))))) da_nil)))))
-- demand_table ['table'] own [] slots ['table']
def d_demand_table : Env → SR := (sDrop (kCall 2 m_demand (aCons (kCall 1 m_is_table (aCons (kV 0) aNil)) (aCons (kC (.str "table")) aNil))))
def m_demand_table : List S → R S := fun as => fin (d_demand_table (entry 1 as))
theorem ok_demand_table (T : Txt P K mg C) (F : Fact K mg "demand_table" s_demand_table) (c_demand : Cal P w K mg base 3 "demand" s_demand ["is_good", "name"] (spD K C 2 m_demand)) (c_is_table : Cal P w K mg base 5 "is_table" s_is_table ["value"] (spD K C 1 m_is_table)) : Cal P w K mg base 6 "demand_table" s_demand_table ["table"] (spD K C 1 m_demand_table) := by
  have nd : (["table"] : List Str).Nodup := by decide +kernel
  exact cal_of (N := ["table"]) (k := 5) (body := d_demand_table) F ⟨rfl, rfl, rfl, nd, rfl, by decide +kernel, by decide +kernel⟩ fun fa cdv A outer s H E hr => (dss_one (ds_expr (de_callC c_demand b_demand hr (by decide) rfl (takes_of rfl rfl rfl rfl) (da_cons (de_callC c_is_table b_is_table hr (by decide) rfl (takes_of rfl rfl rfl rfl) (da_cons (de_var 0) da_nil)) (da_cons de_str da_nil)))))
-- demand_marks ['table', 'marks'] own [] slots ['table', 'marks']
def d_demand_marks : Env → SR := (sSeq (sDrop (kCall 1 m_demand_table (aCons (kV 0) aNil))) (sDrop (kCall 2 m_demand (aCons (kCall 2 m_is_set (aCons (kV 1) (aCons (kB ixS (kV 0) (kC (.int 0))) aNil))) (aCons (kC (.str "marks")) aNil)))))
def m_demand_marks : List S → R S := fun as => fin (d_demand_marks (entry 2 as))
theorem ok_demand_marks (T : Txt P K mg C) (F : Fact K mg "demand_marks" s_demand_marks) (c_demand_table : Cal P w K mg base 6 "demand_table" s_demand_table ["table"] (spD K C 1 m_demand_table)) (c_demand : Cal P w K mg base 3 "demand" s_demand ["is_good", "name"] (spD K C 2 m_demand)) (c_is_set : Cal P w K mg base 4 "is_set" s_is_set ["value", "many"] (spD K C 2 m_is_set)) : Cal P w K mg base 7 "demand_marks" s_demand_marks ["table", "marks"] (spD K C 2 m_demand_marks) := by
  have nd : (["table", "marks"] : List Str).Nodup := by decide +kernel
  exact cal_of (N := ["table", "marks"]) (k := 6) (body := d_demand_marks) F ⟨rfl, rfl, rfl, nd, rfl, by decide +kernel, by decide +kernel⟩ fun fa cdv A outer s H E hr => (dss_cons (ds_expr (de_callC c_demand_table b_demand_table hr (by decide) rfl (takes_of rfl rfl rfl rfl) (da_cons (de_var 0) da_nil))) (dss_one (ds_expr (de_callC c_demand b_demand hr (by decide) rfl (takes_of rfl rfl rfl rfl) (da_cons (de_callC c_is_set b_is_set hr (by decide) rfl (takes_of rfl rfl rfl rfl) (da_cons (de_var 1) (da_cons (de_ix (de_var 0) de_int) da_nil))) (da_cons de_str da_nil))))))
-- Grid_common ['self', 'shells'] own [] slots ['self', 'shells', 'found', 'shell', 'row']
def d_Grid_common : Env → SR := (sSeq (sAsg 2 (kU (fldS 0 "every") (kV 0))) (sSeq (sFor (iEnumF true (kU (fldS 0 "rows") (kV 0))) (gT ((gN 3) :: ((gN 4) :: []))) (sIf (kBl (kB eqS (kB andS (kB shrS (kV 1) (kV 3)) (kC (.int 1))) (kC (.int 1)))) (sAug 2 andS (kV 4)) sNext)) (sRet (kV 2))))
def m_Grid_common : List S → R S := fun as => fin (d_Grid_common (entry 5 as))
theorem ok_Grid_common {f0 : Addr} {fd0 : FuncData} (T : Txt P K mg C) (M : Meth K (C.cls 0) "common" f0) (F : L2.Fun K "common" "Grid.common" s_Grid_common f0 fd0) : CalM P w K mg base C 2 0 "common" ["self", "shells"] (spD K C 2 m_Grid_common) := by
  have nd : (["self", "shells", "found", "shell", "row"] : List Str).Nodup := by decide +kernel
  exact calm_of (N := ["self", "shells", "found", "shell", "row"]) (k := 1) (body := d_Grid_common) M F (fun _ _ _ _ _ _ us hl => match us, hl with | [_, _], _ => rfl) ⟨rfl, rfl, rfl, nd, rfl, by decide +kernel, by decide +kernel⟩ fun cdv A outer s H E hr => (dss_cons (ds_asg 2 (de_fld T.cls0 T.na_every (de_var 0)) nd) (dss_cons (ds_for (passes_of rfl) rfl (di_enum rfl T.b_enumerate (de_fld T.cls0 T.na_rows (de_var 0))) (dg_tup rfl (dgs_cons (dg_name 3 nd) (dgs_cons (dg_name 4 nd) dgs_nil))) (dss_one (ds_if (dt_cmp (d_eq (hr64 hr)) (de_bin d_and (de_bin d_shr (de_var 1) (de_var 3)) de_int) de_int rfl) (dss_one (ds_aug 2 d_iand (de_var 4) nd)) dss_nil))) (dss_one (ds_ret (de_var 2)))))
-- Grid_having ['self', 'marks'] own [] slots ['self', 'marks', 'found', 'mark', 'column']
def d_Grid_having : Env → SR := (sSeq (sAsg 2 (kU (fldS 0 "all_shells") (kV 0))) (sSeq (sFor (iEnumF true (kU (fldS 0 "columns") (kV 0))) (gT ((gN 3) :: ((gN 4) :: []))) (sIf (kBl (kB eqS (kB andS (kB shrS (kV 1) (kV 3)) (kC (.int 1))) (kC (.int 1)))) (sAug 2 andS (kV 4)) sNext)) (sRet (kV 2))))
def m_Grid_having : List S → R S := fun as => fin (d_Grid_having (entry 5 as))
theorem ok_Grid_having {f0 : Addr} {fd0 : FuncData} (T : Txt P K mg C) (M : Meth K (C.cls 0) "having" f0) (F : L2.Fun K "having" "Grid.having" s_Grid_having f0 fd0) : CalM P w K mg base C 2 0 "having" ["self", "marks"] (spD K C 2 m_Grid_having) := by
  have nd : (["self", "marks", "found", "mark", "column"] : List Str).Nodup := by decide +kernel
  exact calm_of (N := ["self", "marks", "found", "mark", "column"]) (k := 1) (body := d_Grid_having) M F (fun _ _ _ _ _ _ us hl => match us, hl with | [_, _], _ => rfl) ⟨rfl, rfl, rfl, nd, rfl, by decide +kernel, by decide +kernel⟩ fun cdv A outer s H E hr => (dss_cons (ds_asg 2 (de_fld T.cls0 T.na_all_shells (de_var 0)) nd) (dss_cons (ds_for (passes_of rfl) rfl (di_enum rfl T.b_enumerate (de_fld T.cls0 T.na_columns (de_var 0))) (dg_tup rfl (dgs_cons (dg_name 3 nd) (dgs_cons (dg_name 4 nd) dgs_nil))) (dss_one (ds_if (dt_cmp (d_eq (hr64 hr)) (de_bin d_and (de_bin d_shr (de_var 1) (de_var 3)) de_int) de_int rfl) (dss_one (ds_aug 2 d_iand (de_var 4) nd)) dss_nil))) (dss_one (ds_ret (de_var 2)))))
-- Grid_closed ['self', 'marks'] own [] slots ['self', 'marks']
def d_Grid_closed : Env → SR := (sRet (kMeth 0 2 m_Grid_common (kV 0) (aCons (kMeth 0 2 m_Grid_having (kV 0) (aCons (kV 1) aNil)) aNil)))
def m_Grid_closed : List S → R S := fun as => fin (d_Grid_closed (entry 2 as))
theorem ok_Grid_closed {f0 : Addr} {fd0 : FuncData} (T : Txt P K mg C) (M : Meth K (C.cls 0) "closed" f0) (F : L2.Fun K "closed" "Grid.closed" s_Grid_closed f0 fd0) (c_Grid_common : CalM P w K mg base C 2 0 "common" ["self", "shells"] (spD K C 2 m_Grid_common)) (c_Grid_having : CalM P w K mg base C 2 0 "having" ["self", "marks"] (spD K C 2 m_Grid_having)) : CalM P w K mg base C 3 0 "closed" ["self", "marks"] (spD K C 2 m_Grid_closed) := by
  have nd : (["self", "marks"] : List Str).Nodup := by decide +kernel
  exact calm_of (N := ["self", "marks"]) (k := 2) (body := d_Grid_closed) M F (fun _ _ _ _ _ _ us hl => match us, hl with | [_, _], _ => rfl) ⟨rfl, rfl, rfl, nd, rfl, by decide +kernel, by decide +kernel⟩ fun cdv A outer s H E hr => (dss_one (ds_ret (de_meth c_Grid_common T.cls0 (by rw [T.fl0]; decide) hr (by decide) (de_var 0) (da_cons (de_meth c_Grid_having T.cls0 (by rw [T.fl0]; decide) hr (by decide) (de_var 0) (da_cons (de_var 1) da_nil)) da_nil))))
-- Grid_init ['self', 'table'] own [] slots ['self', 'table', 'mark', 'row', 'shell']
def d_Grid_init : Env → List (Str × PyData) → NR := (nSeq (nSet "many" 0 (kB ixS (kV 1) (kC (.int 0)))) (nSeq (nSet "rows" 0 (kComp (iVal false (kB ixS (kV 1) (kC (.int 1)))) (gN 3) tTrue (kCall 1 m_mask_of (aCons (kV 3) aNil)) [3])) (nSeq (nSet "every" 0 (kB subS (kB shlS (kC (.int 1)) (kU (fldS 0 "many") (kV 0))) (kC (.int 1)))) (nSeq (nSet "all_shells" 0 (kB subS (kB shlS (kC (.int 1)) (kCB (on1 lenS) (aCons (kU (fldS 0 "rows") (kV 0)) aNil))) (kC (.int 1)))) (nCols "columns" 0 2 (iRg rg1S (aCons (kU (fldS 0 "many") (kV 0)) aNil)) (kCB (on1 sumS) (aCons (kComp (iEnumF false (kU (fldS 0 "rows") (kV 0))) (gT ((gN 4) :: ((gN 3) :: []))) (kBl (kB eqS (kB andS (kB shrS (kV 3) (kV 2)) (kC (.int 1))) (kC (.int 1)))) (kB shlS (kC (.int 1)) (kV 4)) [4, 3]) aNil)))))))
def m_Grid_init : List S → R (List (Str × PyData)) := fun as => finN (d_Grid_init (entryN 5 as) [])
theorem ok_Grid_init {f0 : Addr} {fd0 : FuncData} (T : Txt P K mg C) (M : Mk K (C.cls 0) f0) (hm : mg "Grid" = some (.ref (C.cls 0))) (F : L2.Fun K "__init__" "Grid.__init__" s_Grid_init f0 fd0) (c_mask_of : Cal P w K mg base 2 "mask_of" s_mask_of ["members"] (spD K C 1 m_mask_of)) : CalI P w K mg base C 3 0 "Grid" ["self", "table"] (spI K C 0 1 m_Grid_init) := by
  have nd : (["self", "table", "mark", "row", "shell"] : List Str).Nodup := by decide +kernel
  exact cali_of (N := ["self", "table", "mark", "row", "shell"]) (k := 2) (self := "self") (ps := ["table"]) (body := d_Grid_init) M hm F (fun _ _ _ _ _ _ us hl => match us, hl with | [_, _], _ => rfl) ⟨rfl, rfl, rfl, nd, rfl, by decide +kernel, by decide +kernel⟩ fun cdv A outer s H E hr => (nss_cons (ns_set T.cls0 T.na_many (by rw [T.fl0]; decide) (de_ix (de_var 1) de_int)) (nss_cons (ns_set T.cls0 T.na_rows (by rw [T.fl0]; decide) (de_lcW [("row", 3)] rfl nd (di_val (de_ix (de_var 1) de_int)) (blkOk_by (by kernel_rfl)) (fun _ _ _ _ _ => (dg_name 3 nd)) (fun _ _ _ _ _ => dts_nil) (fun _ _ _ _ _ => (de_callC c_mask_of b_mask_of hr (by decide) rfl takes0 (da_cons (de_var 3) da_nil))))) (nss_cons (ns_set T.cls0 T.na_every (by rw [T.fl0]; decide) (de_bin d_sub (de_bin d_shl de_int (de_fld T.cls0 T.na_many (de_var 0))) de_int)) (nss_cons (ns_set T.cls0 T.na_all_shells (by rw [T.fl0]; decide) (de_bin d_sub (de_bin d_shl de_int (de_callB (c_len) rfl T.b_len (by boot_by_name) (da_cons (de_fld T.cls0 T.na_rows (de_var 0)) da_nil))) de_int)) (nss_cols 2 (passes_of rfl) rfl T.cls0 T.na_columns (by rw [T.fl0]; decide) (di_range1 rfl T.b_range (da_cons (de_fld T.cls0 T.na_many (de_var 0)) da_nil)) (dg_name 2 nd) (de_callB (c_sum rfl) rfl T.b_sum (by boot_by_name) (da_cons (de_lcW [("shell", 4), ("row", 3)] rfl nd (di_enum rfl T.b_enumerate (de_fld T.cls0 T.na_rows (de_var 0))) (blkOk_by (by kernel_rfl)) (fun _ _ _ _ _ => (dg_tup rfl (dgs_cons (dg_name 4 nd) (dgs_cons (dg_name 3 nd) dgs_nil)))) (fun _ _ _ _ _ => (dts_one (dt_cmp (d_eq (hr64 hr)) (de_bin d_and (de_bin d_shr (de_var 3) (de_var 2)) de_int) de_int rfl))) (fun _ _ _ _ _ => (de_bin d_shl de_int (de_var 4)))) da_nil)))))))
-- closed ['table', 'marks'] own [] slots ['table', 'marks']
def d_closed : Env → SR := (sSeq (sDrop (kCall 2 m_demand_marks (aCons (kV 0) (aCons (kV 1) aNil)))) (sRet (kCall 1 m_members_of (aCons (kMeth 0 2 m_Grid_closed (kMake 0 1 m_Grid_init (aCons (kV 0) aNil)) (aCons (kCall 1 m_mask_of (aCons (kV 1) aNil)) aNil)) aNil))))
def m_closed : List S → R S := fun as => fin (d_closed (entry 2 as))
theorem ok_closed (T : Txt P K mg C) (F : Fact K mg "closed" s_closed) (c_demand_marks : Cal P w K mg base 7 "demand_marks" s_demand_marks ["table", "marks"] (spD K C 2 m_demand_marks)) (c_members_of : Cal P w K mg base 2 "members_of" s_members_of ["mask"] (spD K C 1 m_members_of)) (c_Grid_closed : CalM P w K mg base C 3 0 "closed" ["self", "marks"] (spD K C 2 m_Grid_closed)) (c_Grid_init : CalI P w K mg base C 3 0 "Grid" ["self", "table"] (spI K C 0 1 m_Grid_init)) (c_mask_of : Cal P w K mg base 2 "mask_of" s_mask_of ["members"] (spD K C 1 m_mask_of)) : Cal P w K mg base 8 "closed" s_closed ["table", "marks"] (spD K C 2 m_closed) := by
  have nd : (["table", "marks"] : List Str).Nodup := by decide +kernel
  exact cal_of (N := ["table", "marks"]) (k := 7) (body := d_closed) F ⟨rfl, rfl, rfl, nd, rfl, by decide +kernel, by decide +kernel⟩ fun fa cdv A outer s H E hr => (dss_cons (ds_expr (de_callC c_demand_marks b_demand_marks hr (by decide) rfl (takes_of rfl rfl rfl rfl) (da_cons (de_var 0) (da_cons (de_var 1) da_nil)))) (dss_one (ds_ret (de_callC c_members_of b_members_of hr (by decide) rfl (takes_of rfl rfl rfl rfl) (da_cons (de_meth c_Grid_closed T.cls0 (by rw [T.fl0]; decide) hr (by decide) (de_make c_Grid_init hr (by decide) rfl (da_cons (de_var 0) da_nil)) (da_cons (de_callC c_mask_of b_mask_of hr (by decide) rfl (takes_of rfl rfl rfl rfl) (da_cons (de_var 1) da_nil)) da_nil)) da_nil)))))
-- is_rule ['value', 'many'] own [] slots ['value', 'many']
def d_is_rule : Env → SR := (sRet (kAnd (kCall 3 m_is_tuple (aCons (kV 0) (aCons (kC (.int 2)) (aCons (kC (.int 2)) aNil)))) (kAnd (kCall 2 m_is_set (aCons (kB ixS (kV 0) (kC (.int 0))) (aCons (kV 1) aNil))) (kCall 2 m_is_set (aCons (kB ixS (kV 0) (kC (.int 1))) (aCons (kV 1) aNil))))))
def m_is_rule : List S → R S := fun as => fin (d_is_rule (entry 2 as))
theorem ok_is_rule (T : Txt P K mg C) (F : Fact K mg "is_rule" s_is_rule) (c_is_set : Cal P w K mg base 4 "is_set" s_is_set ["value", "many"] (spD K C 2 m_is_set)) (c_is_tuple : Cal P w K mg base 2 "is_tuple" s_is_tuple ["value", "least", "most"] (spD K C 3 m_is_tuple)) : Cal P w K mg base 5 "is_rule" s_is_rule ["value", "many"] (spD K C 2 m_is_rule) := by
  have nd : (["value", "many"] : List Str).Nodup := by decide +kernel
  exact cal_of (N := ["value", "many"]) (k := 4) (body := d_is_rule) F ⟨rfl, rfl, rfl, nd, rfl, by decide +kernel, by decide +kernel⟩ fun fa cdv A outer s H E hr => (dss_one (ds_ret (de_and (de_callC c_is_tuple b_is_tuple hr (by decide) rfl (takes_of rfl rfl rfl rfl) (da_cons (de_var 0) (da_cons de_int (da_cons de_int da_nil)))) (de_and (de_callC c_is_set b_is_set hr (by decide) rfl (takes_of rfl rfl rfl rfl) (da_cons (de_ix (de_var 0) de_int) (da_cons (de_var 1) da_nil))) (de_one (de_callC c_is_set b_is_set hr (by decide) rfl (takes_of rfl rfl rfl rfl) (da_cons (de_ix (de_var 0) de_int) (da_cons (de_var 1) da_nil))))))))
-- are_rules ['value', 'many'] own [] slots ['value', 'many', 'one']
def d_are_rules : Env → SR := (sRet (kAnd (kCall 3 m_is_tuple (aCons (kV 0) (aCons (kC (.int 0)) (aCons (kC (.int 64)) aNil)))) (kCB (on1 allS) (aCons (kComp (iVal false (kV 0)) (gN 2) tTrue (kCall 2 m_is_rule (aCons (kV 2) (aCons (kV 1) aNil))) [2]) aNil))))
def m_are_rules : List S → R S := fun as => fin (d_are_rules (entry 3 as))
theorem ok_are_rules (T : Txt P K mg C) (F : Fact K mg "are_rules" s_are_rules) (c_is_rule : Cal P w K mg base 5 "is_rule" s_is_rule ["value", "many"] (spD K C 2 m_is_rule)) (c_is_tuple : Cal P w K mg base 2 "is_tuple" s_is_tuple ["value", "least", "most"] (spD K C 3 m_is_tuple)) : Cal P w K mg base 6 "are_rules" s_are_rules ["value", "many"] (spD K C 2 m_are_rules) := by
  have nd : (["value", "many", "one"] : List Str).Nodup := by decide +kernel
  exact cal_of (N := ["value", "many", "one"]) (k := 5) (body := d_are_rules) F ⟨rfl, rfl, rfl, nd, rfl, by decide +kernel, by decide +kernel⟩ fun fa cdv A outer s H E hr => (dss_one (ds_ret (de_and (de_callC c_is_tuple b_is_tuple hr (by decide) rfl (takes_of rfl rfl rfl rfl) (da_cons (de_var 0) (da_cons de_int (da_cons (de_gIntE rfl T.c_MOST_RULES) da_nil)))) (de_one (de_callB (c_all rfl) rfl T.b_all (by boot_by_name) (da_cons (de_lcW [("one", 2)] rfl nd (di_val (de_var 0)) (blkOk_by (by kernel_rfl)) (fun _ _ _ _ _ => (dg_name 2 nd)) (fun _ _ _ _ _ => dts_nil) (fun _ _ _ _ _ => (de_callC c_is_rule b_is_rule hr (by decide) rfl takes0 (da_cons (de_var 2) (da_cons (de_var 1) da_nil))))) da_nil))))))
-- demand_rule ['table', 'rule'] own [] slots ['table', 'rule']
def d_demand_rule : Env → SR := (sSeq (sDrop (kCall 1 m_demand_table (aCons (kV 0) aNil))) (sDrop (kCall 2 m_demand (aCons (kCall 2 m_is_rule (aCons (kV 1) (aCons (kB ixS (kV 0) (kC (.int 0))) aNil))) (aCons (kC (.str "rule")) aNil)))))
def m_demand_rule : List S → R S := fun as => fin (d_demand_rule (entry 2 as))
theorem ok_demand_rule (T : Txt P K mg C) (F : Fact K mg "demand_rule" s_demand_rule) (c_demand_table : Cal P w K mg base 6 "demand_table" s_demand_table ["table"] (spD K C 1 m_demand_table)) (c_demand : Cal P w K mg base 3 "demand" s_demand ["is_good", "name"] (spD K C 2 m_demand)) (c_is_rule : Cal P w K mg base 5 "is_rule" s_is_rule ["value", "many"] (spD K C 2 m_is_rule)) : Cal P w K mg base 7 "demand_rule" s_demand_rule ["table", "rule"] (spD K C 2 m_demand_rule) := by
  have nd : (["table", "rule"] : List Str).Nodup := by decide +kernel
  exact cal_of (N := ["table", "rule"]) (k := 6) (body := d_demand_rule) F ⟨rfl, rfl, rfl, nd, rfl, by decide +kernel, by decide +kernel⟩ fun fa cdv A outer s H E hr => (dss_cons (ds_expr (de_callC c_demand_table b_demand_table hr (by decide) rfl (takes_of rfl rfl rfl rfl) (da_cons (de_var 0) da_nil))) (dss_one (ds_expr (de_callC c_demand b_demand hr (by decide) rfl (takes_of rfl rfl rfl rfl) (da_cons (de_callC c_is_rule b_is_rule hr (by decide) rfl (takes_of rfl rfl rfl rfl) (da_cons (de_var 1) (da_cons (de_ix (de_var 0) de_int) da_nil))) (da_cons de_str da_nil))))))
-- demand_rules ['many', 'rules'] own [] slots ['many', 'rules']
def d_demand_rules : Env → SR := (sSeq (sDrop (kCall 2 m_demand (aCons (kCall 3 m_is_in (aCons (kV 0) (aCons (kC (.int 0)) (aCons (kC (.int 6)) aNil)))) (aCons (kC (.str "many")) aNil)))) (sDrop (kCall 2 m_demand (aCons (kCall 2 m_are_rules (aCons (kV 1) (aCons (kV 0) aNil))) (aCons (kC (.str "rules")) aNil)))))
def m_demand_rules : List S → R S := fun as => fin (d_demand_rules (entry 2 as))
theorem ok_demand_rules (T : Txt P K mg C) (F : Fact K mg "demand_rules" s_demand_rules) (c_demand : Cal P w K mg base 3 "demand" s_demand ["is_good", "name"] (spD K C 2 m_demand)) (c_is_in : Cal P w K mg base 2 "is_in" s_is_in ["value", "low", "high"] (spD K C 3 m_is_in)) (c_are_rules : Cal P w K mg base 6 "are_rules" s_are_rules ["value", "many"] (spD K C 2 m_are_rules)) : Cal P w K mg base 7 "demand_rules" s_demand_rules ["many", "rules"] (spD K C 2 m_demand_rules) := by
  have nd : (["many", "rules"] : List Str).Nodup := by decide +kernel
  exact cal_of (N := ["many", "rules"]) (k := 6) (body := d_demand_rules) F ⟨rfl, rfl, rfl, nd, rfl, by decide +kernel, by decide +kernel⟩ fun fa cdv A outer s H E hr => (dss_cons (ds_expr (de_callC c_demand b_demand hr (by decide) rfl (takes_of rfl rfl rfl rfl) (da_cons (de_callC c_is_in b_is_in hr (by decide) rfl (takes_of rfl rfl rfl rfl) (da_cons (de_var 0) (da_cons de_int (da_cons (de_gIntE rfl T.c_MOST_MARKS) da_nil)))) (da_cons de_str da_nil)))) (dss_one (ds_expr (de_callC c_demand b_demand hr (by decide) rfl (takes_of rfl rfl rfl rfl) (da_cons (de_callC c_are_rules b_are_rules hr (by decide) rfl (takes_of rfl rfl rfl rfl) (da_cons (de_var 1) (da_cons (de_var 0) da_nil))) (da_cons de_str da_nil))))))
-- masks_of ['rules'] own [] slots ['rules', 'left', 'right']
def d_masks_of : Env → SR := (sRet (kComp (iVal false (kV 0)) (gT ((gN 1) :: ((gN 2) :: []))) tTrue (kTup (aCons (kCall 1 m_mask_of (aCons (kV 1) aNil)) (aCons (kCall 1 m_mask_of (aCons (kV 2) aNil)) aNil))) [1, 2]))
def m_masks_of : List S → R S := fun as => fin (d_masks_of (entry 3 as))
theorem ok_masks_of (T : Txt P K mg C) (F : Fact K mg "masks_of" s_masks_of) (c_mask_of : Cal P w K mg base 2 "mask_of" s_mask_of ["members"] (spD K C 1 m_mask_of)) : Cal P w K mg base 3 "masks_of" s_masks_of ["rules"] (spD K C 1 m_masks_of) := by
  have nd : (["rules", "left", "right"] : List Str).Nodup := by decide +kernel
  exact cal_of (N := ["rules", "left", "right"]) (k := 2) (body := d_masks_of) F ⟨rfl, rfl, rfl, nd, rfl, by decide +kernel, by decide +kernel⟩ fun fa cdv A outer s H E hr => (dss_one (ds_ret (de_lcW [("left", 1), ("right", 2)] rfl nd (di_val (de_var 0)) (blkOk_by (by kernel_rfl)) (fun _ _ _ _ _ => (dg_tup rfl (dgs_cons (dg_name 1 nd) (dgs_cons (dg_name 2 nd) dgs_nil)))) (fun _ _ _ _ _ => dts_nil) (fun _ _ _ _ _ => (de_tup (da_cons (de_callC c_mask_of b_mask_of hr (by decide) rfl takes0 (da_cons (de_var 1) da_nil)) (da_cons (de_callC c_mask_of b_mask_of hr (by decide) rfl takes0 (da_cons (de_var 2) da_nil)) da_nil)))))))
-- obeys ['mask', 'pair'] own [] slots ['mask', 'pair']
def d_obeys : Env → SR := (sRet (kOr (kNot (kCall 2 m_is_part (aCons (kB ixS (kV 1) (kC (.int 0))) (aCons (kV 0) aNil)))) (kCall 2 m_is_part (aCons (kB ixS (kV 1) (kC (.int 1))) (aCons (kV 0) aNil)))))
def m_obeys : List S → R S := fun as => fin (d_obeys (entry 2 as))
theorem ok_obeys (T : Txt P K mg C) (F : Fact K mg "obeys" s_obeys) (c_is_part : Cal P w K mg base 2 "is_part" s_is_part ["one", "other"] (spD K C 2 m_is_part)) : Cal P w K mg base 3 "obeys" s_obeys ["mask", "pair"] (spD K C 2 m_obeys) := by
  have nd : (["mask", "pair"] : List Str).Nodup := by decide +kernel
  exact cal_of (N := ["mask", "pair"]) (k := 2) (body := d_obeys) F ⟨rfl, rfl, rfl, nd, rfl, by decide +kernel, by decide +kernel⟩ fun fa cdv A outer s H E hr => (dss_one (ds_ret (de_or (de_not (de_callC c_is_part b_is_part hr (by decide) rfl (takes_of rfl rfl rfl rfl) (da_cons (de_ix (de_var 1) de_int) (da_cons (de_var 0) da_nil)))) (de_one (de_callC c_is_part b_is_part hr (by decide) rfl (takes_of rfl rfl rfl rfl) (da_cons (de_ix (de_var 1) de_int) (da_cons (de_var 0) da_nil)))))))
-- shell_against ['table', 'rule'] own [] slots ['table', 'rule', 'pair', 'shell', 'row']
def d_shell_against : Env → SR := (sSeq (sDrop (kCall 2 m_demand_rule (aCons (kV 0) (aCons (kV 1) aNil)))) (sSeq (sAsg 2 (kB ixS (kCall 1 m_masks_of (aCons (kTup (aCons (kV 1) aNil)) aNil)) (kC (.int 0)))) (sSeq (sFor (iEnumF true (kU (fldS 0 "rows") (kMake 0 1 m_Grid_init (aCons (kV 0) aNil)))) (gT ((gN 3) :: ((gN 4) :: []))) (sIf (tNotK (kTru (kCall 2 m_obeys (aCons (kV 4) (aCons (kV 2) aNil))))) (sRet (kV 3)) sNext)) (sRet (kC .none)))))
def m_shell_against : List S → R S := fun as => fin (d_shell_against (entry 5 as))
theorem ok_shell_against (T : Txt P K mg C) (F : Fact K mg "shell_against" s_shell_against) (c_demand_rule : Cal P w K mg base 7 "demand_rule" s_demand_rule ["table", "rule"] (spD K C 2 m_demand_rule)) (c_masks_of : Cal P w K mg base 3 "masks_of" s_masks_of ["rules"] (spD K C 1 m_masks_of)) (c_Grid_init : CalI P w K mg base C 3 0 "Grid" ["self", "table"] (spI K C 0 1 m_Grid_init)) (c_obeys : Cal P w K mg base 3 "obeys" s_obeys ["mask", "pair"] (spD K C 2 m_obeys)) : Cal P w K mg base 8 "shell_against" s_shell_against ["table", "rule"] (spD K C 2 m_shell_against) := by
  have nd : (["table", "rule", "pair", "shell", "row"] : List Str).Nodup := by decide +kernel
  exact cal_of (N := ["table", "rule", "pair", "shell", "row"]) (k := 7) (body := d_shell_against) F ⟨rfl, rfl, rfl, nd, rfl, by decide +kernel, by decide +kernel⟩ fun fa cdv A outer s H E hr => (dss_cons (ds_expr (de_callC c_demand_rule b_demand_rule hr (by decide) rfl (takes_of rfl rfl rfl rfl) (da_cons (de_var 0) (da_cons (de_var 1) da_nil)))) (dss_cons (ds_asg 2 (de_ix (de_callC c_masks_of b_masks_of hr (by decide) rfl (takes_of rfl rfl rfl rfl) (da_cons (de_tup (da_cons (de_var 1) da_nil)) da_nil)) de_int) nd) (dss_cons (ds_for (passes_of rfl) rfl (di_enum rfl T.b_enumerate (de_fld T.cls0 T.na_rows (de_make c_Grid_init hr (by decide) rfl (da_cons (de_var 0) da_nil)))) (dg_tup rfl (dgs_cons (dg_name 3 nd) (dgs_cons (dg_name 4 nd) dgs_nil))) (dss_one (ds_if (dt_not (dt_val (de_callC c_obeys b_obeys hr (by decide) rfl (takes_of rfl rfl rfl rfl) (da_cons (de_var 4) (da_cons (de_var 2) da_nil))))) (dss_one (ds_ret (de_var 3))) dss_nil))) (dss_one (ds_ret de_non)))))
-- holds ['table', 'rule'] own [] slots ['table', 'rule']
def d_holds : Env → SR := (sSeq (sDrop (kCall 2 m_demand_rule (aCons (kV 0) (aCons (kV 1) aNil)))) (sRet (kB (isS false) (kCall 2 m_shell_against (aCons (kV 0) (aCons (kV 1) aNil))) (kC .none))))
def m_holds : List S → R S := fun as => fin (d_holds (entry 2 as))
theorem ok_holds (T : Txt P K mg C) (F : Fact K mg "holds" s_holds) (c_demand_rule : Cal P w K mg base 7 "demand_rule" s_demand_rule ["table", "rule"] (spD K C 2 m_demand_rule)) (c_shell_against : Cal P w K mg base 8 "shell_against" s_shell_against ["table", "rule"] (spD K C 2 m_shell_against)) : Cal P w K mg base 9 "holds" s_holds ["table", "rule"] (spD K C 2 m_holds) := by
  have nd : (["table", "rule"] : List Str).Nodup := by decide +kernel
  exact cal_of (N := ["table", "rule"]) (k := 8) (body := d_holds) F ⟨rfl, rfl, rfl, nd, rfl, by decide +kernel, by decide +kernel⟩ fun fa cdv A outer s H E hr => (dss_cons (ds_expr (de_callC c_demand_rule b_demand_rule hr (by decide) rfl (takes_of rfl rfl rfl rfl) (da_cons (de_var 0) (da_cons (de_var 1) da_nil)))) (dss_one (ds_ret (de_cmp d_is (de_callC c_shell_against b_shell_against hr (by decide) rfl (takes_of rfl rfl rfl rfl) (da_cons (de_var 0) (da_cons (de_var 1) da_nil))) de_non rfl))))
-- closed_mask ['pairs', 'mask'] own [] slots ['pairs', 'mask', 'before', 'left', 'right']
def d_closed_mask : Env → SR := (sSeq (sAsg 2 (kC .none)) (sSeq (sWhile (fun _ => 1000) (kBl (kB neS (kV 2) (kV 1))) (sSeq (sAsg 2 (kV 1)) (sFor (iVal true (kV 0)) (gT ((gN 3) :: ((gN 4) :: []))) (sIf (kTru (kCall 2 m_is_part (aCons (kV 3) (aCons (kV 1) aNil)))) (sAug 1 orS (kV 4)) sNext)))) (sRet (kV 1))))
def m_closed_mask : List S → R S := fun as => fin (d_closed_mask (entry 5 as))
theorem ok_closed_mask (T : Txt P K mg C) (F : Fact K mg "closed_mask" s_closed_mask) (c_is_part : Cal P w K mg base 2 "is_part" s_is_part ["one", "other"] (spD K C 2 m_is_part)) : Cal P w K mg base 3 "closed_mask" s_closed_mask ["pairs", "mask"] (spD K C 2 m_closed_mask) := by
  have nd : (["pairs", "mask", "before", "left", "right"] : List Str).Nodup := by decide +kernel
  exact cal_of (N := ["pairs", "mask", "before", "left", "right"]) (k := 2) (body := d_closed_mask) F ⟨rfl, rfl, rfl, nd, rfl, by decide +kernel, by decide +kernel⟩ fun fa cdv A outer s H E hr => (dss_cons (ds_asg 2 de_non nd) (dss_cons (ds_while (fun _ => 1000) (passes_of rfl) (dt_cmp (d_neq (hr64 hr)) (de_var 2) (de_var 1) rfl) (dss_cons (ds_asg 2 (de_var 1) nd) (dss_one (ds_for (passes_of rfl) rfl (di_val (de_var 0)) (dg_tup rfl (dgs_cons (dg_name 3 nd) (dgs_cons (dg_name 4 nd) dgs_nil))) (dss_one (ds_if (dt_val (de_callC c_is_part b_is_part hr (by decide) rfl (takes_of rfl rfl rfl rfl) (da_cons (de_var 3) (da_cons (de_var 1) da_nil)))) (dss_one (ds_aug 1 d_ior (de_var 4) nd)) dss_nil)))))) (dss_one (ds_ret (de_var 1)))))
-- closed_by ['many', 'rules', 'marks'] own [] slots ['many', 'rules', 'marks']
def d_closed_by : Env → SR := (sSeq (sDrop (kCall 2 m_demand_rules (aCons (kV 0) (aCons (kV 1) aNil)))) (sSeq (sDrop (kCall 2 m_demand (aCons (kCall 2 m_is_set (aCons (kV 2) (aCons (kV 0) aNil))) (aCons (kC (.str "marks")) aNil)))) (sRet (kCall 1 m_members_of (aCons (kCall 2 m_closed_mask (aCons (kCall 1 m_masks_of (aCons (kV 1) aNil)) (aCons (kCall 1 m_mask_of (aCons (kV 2) aNil)) aNil))) aNil)))))
def m_closed_by : List S → R S := fun as => fin (d_closed_by (entry 3 as))
theorem ok_closed_by (T : Txt P K mg C) (F : Fact K mg "closed_by" s_closed_by) (c_demand_rules : Cal P w K mg base 7 "demand_rules" s_demand_rules ["many", "rules"] (spD K C 2 m_demand_rules)) (c_demand : Cal P w K mg base 3 "demand" s_demand ["is_good", "name"] (spD K C 2 m_demand)) (c_is_set : Cal P w K mg base 4 "is_set" s_is_set ["value", "many"] (spD K C 2 m_is_set)) (c_members_of : Cal P w K mg base 2 "members_of" s_members_of ["mask"] (spD K C 1 m_members_of)) (c_closed_mask : Cal P w K mg base 3 "closed_mask" s_closed_mask ["pairs", "mask"] (spD K C 2 m_closed_mask)) (c_mask_of : Cal P w K mg base 2 "mask_of" s_mask_of ["members"] (spD K C 1 m_mask_of)) (c_masks_of : Cal P w K mg base 3 "masks_of" s_masks_of ["rules"] (spD K C 1 m_masks_of)) : Cal P w K mg base 8 "closed_by" s_closed_by ["many", "rules", "marks"] (spD K C 3 m_closed_by) := by
  have nd : (["many", "rules", "marks"] : List Str).Nodup := by decide +kernel
  exact cal_of (N := ["many", "rules", "marks"]) (k := 7) (body := d_closed_by) F ⟨rfl, rfl, rfl, nd, rfl, by decide +kernel, by decide +kernel⟩ fun fa cdv A outer s H E hr => (dss_cons (ds_expr (de_callC c_demand_rules b_demand_rules hr (by decide) rfl (takes_of rfl rfl rfl rfl) (da_cons (de_var 0) (da_cons (de_var 1) da_nil)))) (dss_cons (ds_expr (de_callC c_demand b_demand hr (by decide) rfl (takes_of rfl rfl rfl rfl) (da_cons (de_callC c_is_set b_is_set hr (by decide) rfl (takes_of rfl rfl rfl rfl) (da_cons (de_var 2) (da_cons (de_var 0) da_nil))) (da_cons de_str da_nil)))) (dss_one (ds_ret (de_callC c_members_of b_members_of hr (by decide) rfl (takes_of rfl rfl rfl rfl) (da_cons (de_callC c_closed_mask b_closed_mask hr (by decide) rfl (takes_of rfl rfl rfl rfl) (da_cons (de_callC c_masks_of b_masks_of hr (by decide) rfl (takes_of rfl rfl rfl rfl) (da_cons (de_var 1) da_nil)) (da_cons (de_callC c_mask_of b_mask_of hr (by decide) rfl (takes_of rfl rfl rfl rfl) (da_cons (de_var 2) da_nil)) da_nil))) da_nil))))))
-- heads_of ['many', 'closed'] own ['found'] slots ['many', 'closed', 'found', 'mask', 'inner', 'own']
def d_heads_of : Env → SR := (sSeq (sAsgO 2 (kLst aNil)) (sSeq (sFor (iVal true (kCall 1 m_all_masks (aCons (kV 0) aNil))) (gN 3) (sIf (kBl (kB neS (kB ixS (kV 1) (kV 3)) (kV 3))) (sSeq (sAsg 4 (kComp (iVal false (kV 2)) (gN 5) (tAndK (kBl (kB neS (kV 5) (kV 3))) (kTru (kCall 2 m_is_part (aCons (kV 5) (aCons (kV 3) aNil))))) (kV 5) [5])) (sIf (kTru (kCB (on1 allS) (aCons (kComp (iVal false (kV 4)) (gN 5) tTrue (kCall 2 m_is_part (aCons (kB ixS (kV 1) (kV 5)) (aCons (kV 3) aNil))) [5]) aNil))) (sApp 2 (kV 3)) sNext)) sNext)) (sRetO 2)))
def m_heads_of : List S → R S := fun as => fin (d_heads_of (entry 6 as))
theorem ok_heads_of (T : Txt P K mg C) (F : Fact K mg "heads_of" s_heads_of) (c_all_masks : Cal P w K mg base 6 "all_masks" s_all_masks ["many"] (spD K C 1 m_all_masks)) (c_is_part : Cal P w K mg base 2 "is_part" s_is_part ["one", "other"] (spD K C 2 m_is_part)) : Cal P w K mg base 7 "heads_of" s_heads_of ["many", "closed"] (spD K C 2 m_heads_of) := by
  have nd : (["many", "closed", "found", "mask", "inner", "own"] : List Str).Nodup := by decide +kernel
  exact cal_of (N := ["many", "closed", "found", "mask", "inner", "own"]) (k := 6) (body := d_heads_of) F ⟨rfl, rfl, rfl, nd, rfl, by decide +kernel, by decide +kernel⟩ fun fa cdv A outer s H E hr => (dss_cons (ds_asgO 2 (de_lst da_nil) nd) (dss_cons (ds_for (passes_of rfl) rfl (di_val (de_callC c_all_masks b_all_masks hr (by decide) rfl (takes_of rfl rfl rfl rfl) (da_cons (de_var 0) da_nil))) (dg_name 3 nd) (dss_one (ds_if (dt_cmp (d_neq (hr64 hr)) (de_ix (de_var 1) (de_var 3)) (de_var 3) rfl) (dss_cons (ds_asgLcW 4 [("own", 5)] rfl nd (di_val (de_var 2)) (blkOk_by (by kernel_rfl)) (fun _ _ _ _ _ => (dg_name 5 nd)) (fun _ _ _ _ _ => (dts_one (dt_bool (dw_and (dt_cmp (d_neq (hr64 hr)) (de_var 5) (de_var 3) rfl) (dw_and1 (dt_val (de_callC c_is_part b_is_part hr (by decide) rfl takes0 (da_cons (de_var 5) (da_cons (de_var 3) da_nil))))))))) (fun _ _ _ _ _ => (de_var 5))) (dss_one (ds_if (dt_val (de_callB (c_all rfl) rfl T.b_all (by boot_by_name) (da_cons (de_lcW [("own", 5)] rfl nd (di_val (de_var 4)) (blkOk_by (by kernel_rfl)) (fun _ _ _ _ _ => (dg_name 5 nd)) (fun _ _ _ _ _ => dts_nil) (fun _ _ _ _ _ => (de_callC c_is_part b_is_part hr (by decide) rfl takes0 (da_cons (de_ix (de_var 1) (de_var 5)) (da_cons (de_var 3) da_nil))))) da_nil))) (dss_one (ds_app 2 (de_var 3))) dss_nil))) dss_nil))) (dss_one (ds_retO 2))))
-- closed_all ['grid'] own [] slots ['grid', 'mask']
def d_closed_all : Env → SR := (sRet (kComp (iRg rg1S (aCons (kB shlS (kC (.int 1)) (kU (fldS 0 "many") (kV 0))) aNil)) (gN 1) tTrue (kMeth 0 2 m_Grid_closed (kV 0) (aCons (kV 1) aNil)) [1]))
def m_closed_all : List S → R S := fun as => fin (d_closed_all (entry 2 as))
theorem ok_closed_all (T : Txt P K mg C) (F : Fact K mg "closed_all" s_closed_all) (c_Grid_closed : CalM P w K mg base C 3 0 "closed" ["self", "marks"] (spD K C 2 m_Grid_closed)) : Cal P w K mg base 4 "closed_all" s_closed_all ["grid"] (spD K C 1 m_closed_all) := by
  have nd : (["grid", "mask"] : List Str).Nodup := by decide +kernel
  exact cal_of (N := ["grid", "mask"]) (k := 3) (body := d_closed_all) F ⟨rfl, rfl, rfl, nd, rfl, by decide +kernel, by decide +kernel⟩ fun fa cdv A outer s H E hr => (dss_one (ds_ret (de_lcW [("mask", 1)] rfl nd (di_range1 rfl T.b_range (da_cons (de_bin d_shl de_int (de_fld T.cls0 T.na_many (de_var 0))) da_nil)) (blkOk_by (by kernel_rfl)) (fun _ _ _ _ _ => (dg_name 1 nd)) (fun _ _ _ _ _ => dts_nil) (fun _ _ _ _ _ => (de_meth c_Grid_closed T.cls0 (by rw [T.fl0]; decide) hr (by decide) (de_var 0) (da_cons (de_var 1) da_nil))))))
-- base_masks ['many', 'closed'] own [] slots ['many', 'closed', 'mask']
def d_base_masks : Env → SR := (sRet (kComp (iVal false (kCall 2 m_heads_of (aCons (kV 0) (aCons (kV 1) aNil)))) (gN 2) tTrue (kTup (aCons (kV 2) (aCons (kB subS (kB ixS (kV 1) (kV 2)) (kV 2)) aNil))) [2]))
def m_base_masks : List S → R S := fun as => fin (d_base_masks (entry 3 as))
theorem ok_base_masks (T : Txt P K mg C) (F : Fact K mg "base_masks" s_base_masks) (c_heads_of : Cal P w K mg base 7 "heads_of" s_heads_of ["many", "closed"] (spD K C 2 m_heads_of)) : Cal P w K mg base 8 "base_masks" s_base_masks ["many", "closed"] (spD K C 2 m_base_masks) := by
  have nd : (["many", "closed", "mask"] : List Str).Nodup := by decide +kernel
  exact cal_of (N := ["many", "closed", "mask"]) (k := 7) (body := d_base_masks) F ⟨rfl, rfl, rfl, nd, rfl, by decide +kernel, by decide +kernel⟩ fun fa cdv A outer s H E hr => (dss_one (ds_ret (de_lcW [("mask", 2)] rfl nd (di_val (de_callC c_heads_of b_heads_of hr (by decide) rfl (takes_of rfl rfl rfl rfl) (da_cons (de_var 0) (da_cons (de_var 1) da_nil)))) (blkOk_by (by kernel_rfl)) (fun _ _ _ _ _ => (dg_name 2 nd)) (fun _ _ _ _ _ => dts_nil) (fun _ _ _ _ _ => (de_tup (da_cons (de_var 2) (da_cons (de_bin d_sub (de_ix (de_var 1) (de_var 2)) (de_var 2)) da_nil)))))))
-- as_rules ['pairs'] own [] slots ['pairs', 'left', 'right']
def d_as_rules : Env → SR := (sRet (kCB (on1 tupS) (aCons (kComp (iVal false (kV 0)) (gT ((gN 1) :: ((gN 2) :: []))) tTrue (kTup (aCons (kCall 1 m_members_of (aCons (kV 1) aNil)) (aCons (kCall 1 m_members_of (aCons (kV 2) aNil)) aNil))) [1, 2]) aNil)))
def m_as_rules : List S → R S := fun as => fin (d_as_rules (entry 3 as))
theorem ok_as_rules (T : Txt P K mg C) (F : Fact K mg "as_rules" s_as_rules) (c_members_of : Cal P w K mg base 2 "members_of" s_members_of ["mask"] (spD K C 1 m_members_of)) : Cal P w K mg base 3 "as_rules" s_as_rules ["pairs"] (spD K C 1 m_as_rules) := by
  have nd : (["pairs", "left", "right"] : List Str).Nodup := by decide +kernel
  exact cal_of (N := ["pairs", "left", "right"]) (k := 2) (body := d_as_rules) F ⟨rfl, rfl, rfl, nd, rfl, by decide +kernel, by decide +kernel⟩ fun fa cdv A outer s H E hr => (dss_one (ds_ret (de_callTy c_tuple rfl T.b_tuple (by boot_by_name) (da_cons (de_lcW [("left", 1), ("right", 2)] rfl nd (di_val (de_var 0)) (blkOk_by (by kernel_rfl)) (fun _ _ _ _ _ => (dg_tup rfl (dgs_cons (dg_name 1 nd) (dgs_cons (dg_name 2 nd) dgs_nil)))) (fun _ _ _ _ _ => dts_nil) (fun _ _ _ _ _ => (de_tup (da_cons (de_callC c_members_of b_members_of hr (by decide) rfl takes0 (da_cons (de_var 1) da_nil)) (da_cons (de_callC c_members_of b_members_of hr (by decide) rfl takes0 (da_cons (de_var 2) da_nil)) da_nil))))) da_nil))))
-- base ['table'] own [] slots ['table']
def d_base : Env → SR := (sSeq (sDrop (kCall 1 m_demand_table (aCons (kV 0) aNil))) (sRet (kCall 1 m_as_rules (aCons (kCall 2 m_base_masks (aCons (kB ixS (kV 0) (kC (.int 0))) (aCons (kCall 1 m_closed_all (aCons (kMake 0 1 m_Grid_init (aCons (kV 0) aNil)) aNil)) aNil))) aNil))))
def m_base : List S → R S := fun as => fin (d_base (entry 1 as))
theorem ok_base (T : Txt P K mg C) (F : Fact K mg "base" s_base) (c_demand_table : Cal P w K mg base 6 "demand_table" s_demand_table ["table"] (spD K C 1 m_demand_table)) (c_as_rules : Cal P w K mg base 3 "as_rules" s_as_rules ["pairs"] (spD K C 1 m_as_rules)) (c_base_masks : Cal P w K mg base 8 "base_masks" s_base_masks ["many", "closed"] (spD K C 2 m_base_masks)) (c_closed_all : Cal P w K mg base 4 "closed_all" s_closed_all ["grid"] (spD K C 1 m_closed_all)) (c_Grid_init : CalI P w K mg base C 3 0 "Grid" ["self", "table"] (spI K C 0 1 m_Grid_init)) : Cal P w K mg base 9 "base" s_base ["table"] (spD K C 1 m_base) := by
  have nd : (["table"] : List Str).Nodup := by decide +kernel
  exact cal_of (N := ["table"]) (k := 8) (body := d_base) F ⟨rfl, rfl, rfl, nd, rfl, by decide +kernel, by decide +kernel⟩ fun fa cdv A outer s H E hr => (dss_cons (ds_expr (de_callC c_demand_table b_demand_table hr (by decide) rfl (takes_of rfl rfl rfl rfl) (da_cons (de_var 0) da_nil))) (dss_one (ds_ret (de_callC c_as_rules b_as_rules hr (by decide) rfl (takes_of rfl rfl rfl rfl) (da_cons (de_callC c_base_masks b_base_masks hr (by decide) rfl (takes_of rfl rfl rfl rfl) (da_cons (de_ix (de_var 0) de_int) (da_cons (de_callC c_closed_all b_closed_all hr (by decide) rfl (takes_of rfl rfl rfl rfl) (da_cons (de_make c_Grid_init hr (by decide) rfl (da_cons (de_var 0) da_nil)) da_nil)) da_nil))) da_nil)))))
-- are_measures ['value'] own [] slots ['value', 'wide', 'row', 'one']
def d_are_measures : Env → SR := (sSeq (sIf (tNotK (kTru (kCall 3 m_is_tuple (aCons (kV 0) (aCons (kC (.int 0)) (aCons (kC (.int 6)) aNil)))))) (sRet (kC (.bool false))) sNext) (sSeq (sAsg 1 (kIf (tAndK (kBl (kB gtS (kCB (on1 lenS) (aCons (kV 0) aNil)) (kC (.int 0)))) (kTru (isiS "tuple" (kB ixS (kV 0) (kC (.int 0)))))) (kCB (on1 lenS) (aCons (kB ixS (kV 0) (kC (.int 0))) aNil)) (kC (.int 0)))) (sSeq (sIf (kBl (kB gtS (kV 1) (kC (.int 4)))) (sRet (kC (.bool false))) sNext) (sRet (kCB (on1 allS) (aCons (kComp (iVal false (kV 0)) (gN 2) tTrue (kAnd (kCall 3 m_is_tuple (aCons (kV 2) (aCons (kV 1) (aCons (kV 1) aNil)))) (kCB (on1 allS) (aCons (kComp (iVal false (kV 2)) (gN 3) tTrue (kCall 3 m_is_in (aCons (kV 3) (aCons (kC (.int 0)) (aCons (kC (.int 99)) aNil)))) [3]) aNil))) [2]) aNil))))))
def m_are_measures : List S → R S := fun as => fin (d_are_measures (entry 4 as))
theorem ok_are_measures (T : Txt P K mg C) (F : Fact K mg "are_measures" s_are_measures) (c_is_tuple : Cal P w K mg base 2 "is_tuple" s_is_tuple ["value", "least", "most"] (spD K C 3 m_is_tuple)) (c_is_in : Cal P w K mg base 2 "is_in" s_is_in ["value", "low", "high"] (spD K C 3 m_is_in)) : Cal P w K mg base 3 "are_measures" s_are_measures ["value"] (spD K C 1 m_are_measures) := by
  have nd : (["value", "wide", "row", "one"] : List Str).Nodup := by decide +kernel
  exact cal_of (N := ["value", "wide", "row", "one"]) (k := 2) (body := d_are_measures) F ⟨rfl, rfl, rfl, nd, rfl, by decide +kernel, by decide +kernel⟩ fun fa cdv A outer s H E hr => (dss_cons (ds_if (dt_not (dt_val (de_callC c_is_tuple b_is_tuple hr (by decide) rfl (takes_of rfl rfl rfl rfl) (da_cons (de_var 0) (da_cons de_int (da_cons (de_gIntE rfl T.c_MOST_MEASURED) da_nil)))))) (dss_one (ds_ret de_bl)) dss_nil) (dss_cons (ds_asg 1 (de_if (dt_bool (dw_and (dt_cmp d_gt (de_callB (c_len) rfl T.b_len (by boot_by_name) (da_cons (de_var 0) da_nil)) de_int rfl) (dw_and1 (dt_val (de_isi (by decide) rfl T.b_isinstance rfl T.b_tuple (by boot_by_name) (de_ix (de_var 0) de_int)))))) (de_callB (c_len) rfl T.b_len (by boot_by_name) (da_cons (de_ix (de_var 0) de_int) da_nil)) de_int) nd) (dss_cons (ds_if (dt_cmp d_gt (de_var 1) (de_gIntE rfl T.c_MOST_MEASURES) rfl) (dss_one (ds_ret de_bl)) dss_nil) (dss_one (ds_ret (de_callB (c_all rfl) rfl T.b_all (by boot_by_name) (da_cons (de_lcW [("row", 2)] rfl nd (di_val (de_var 0)) (blkOk_by (by kernel_rfl)) (fun _ _ _ _ _ => (dg_name 2 nd)) (fun _ _ _ _ _ => dts_nil) (fun _ _ _ _ _ => (de_and (de_callC c_is_tuple b_is_tuple hr (by decide) rfl takes0 (da_cons (de_var 2) (da_cons (de_var 1) (da_cons (de_var 1) da_nil)))) (de_one (de_callB (c_all rfl) rfl T.b_all (by boot_by_name) (da_cons (de_lcW [("one", 3)] rfl nd (di_val (de_var 2)) (blkOk_by (by kernel_rfl)) (fun _ _ _ _ _ => (dg_name 3 nd)) (fun _ _ _ _ _ => dts_nil) (fun _ _ _ _ _ => (de_callC c_is_in b_is_in hr (by decide) rfl takes0 (da_cons (de_var 3) (da_cons de_int (da_cons (de_gIntE rfl T.c_GREATEST) da_nil)))))) da_nil)))))) da_nil)))))))
-- demand_measures ['measures'] own [] slots ['measures']
def d_demand_measures : Env → SR := (sDrop (kCall 2 m_demand (aCons (kCall 1 m_are_measures (aCons (kV 0) aNil)) (aCons (kC (.str "measures")) aNil))))
def m_demand_measures : List S → R S := fun as => fin (d_demand_measures (entry 1 as))
theorem ok_demand_measures (T : Txt P K mg C) (F : Fact K mg "demand_measures" s_demand_measures) (c_demand : Cal P w K mg base 3 "demand" s_demand ["is_good", "name"] (spD K C 2 m_demand)) (c_are_measures : Cal P w K mg base 3 "are_measures" s_are_measures ["value"] (spD K C 1 m_are_measures)) : Cal P w K mg base 4 "demand_measures" s_demand_measures ["measures"] (spD K C 1 m_demand_measures) := by
  have nd : (["measures"] : List Str).Nodup := by decide +kernel
  exact cal_of (N := ["measures"]) (k := 3) (body := d_demand_measures) F ⟨rfl, rfl, rfl, nd, rfl, by decide +kernel, by decide +kernel⟩ fun fa cdv A outer s H E hr => (dss_one (ds_expr (de_callC c_demand b_demand hr (by decide) rfl (takes_of rfl rfl rfl rfl) (da_cons (de_callC c_are_measures b_are_measures hr (by decide) rfl (takes_of rfl rfl rfl rfl) (da_cons (de_var 0) da_nil)) (da_cons de_str da_nil)))))
-- wide_of ['measures'] own [] slots ['measures']
def d_wide_of : Env → SR := (sRet (kIf (kBl (kB gtS (kCB (on1 lenS) (aCons (kV 0) aNil)) (kC (.int 0)))) (kCB (on1 lenS) (aCons (kB ixS (kV 0) (kC (.int 0))) aNil)) (kC (.int 0))))
def m_wide_of : List S → R S := fun as => fin (d_wide_of (entry 1 as))
theorem ok_wide_of (T : Txt P K mg C) (F : Fact K mg "wide_of" s_wide_of) : Cal P w K mg base 2 "wide_of" s_wide_of ["measures"] (spD K C 1 m_wide_of) := by
  have nd : (["measures"] : List Str).Nodup := by decide +kernel
  exact cal_of (N := ["measures"]) (k := 1) (body := d_wide_of) F ⟨rfl, rfl, rfl, nd, rfl, by decide +kernel, by decide +kernel⟩ fun fa cdv A outer s H E hr => (dss_one (ds_ret (de_if (dt_cmp d_gt (de_callB (c_len) rfl T.b_len (by boot_by_name) (da_cons (de_var 0) da_nil)) de_int rfl) (de_callB (c_len) rfl T.b_len (by boot_by_name) (da_cons (de_ix (de_var 0) de_int) da_nil)) de_int)))
-- pair_table ['measures'] own ['rows'] slots ['measures', 'rows', 'place', 'one', 'other', 'measure']
def d_pair_table : Env → SR := (sSeq (sDrop (kCall 1 m_demand_measures (aCons (kV 0) aNil))) (sSeq (sDrop (kCall 2 m_demand (aCons (kB leS (kCB (on1 lenS) (aCons (kV 0) aNil)) (kC (.int 4))) (aCons (kC (.str "measures")) aNil)))) (sSeq (sAsgO 1 (kLst aNil)) (sSeq (sFor (iEnumF true (kV 0)) (gT ((gN 2) :: ((gN 3) :: []))) (sFor (iVal true (kSl (kV 0) (oSome (kB addS (kV 2) (kC (.int 1)))) oNo)) (gN 4) (sApp 1 (kCB (on1 tupS) (aCons (kComp (iRg rg1S (aCons (kCB (on1 lenS) (aCons (kV 3) aNil)) aNil)) (gN 5) (kBl (kB eqS (kB ixS (kV 3) (kV 5)) (kB ixS (kV 4) (kV 5)))) (kV 5) [5]) aNil))))) (fun δ => (sRet (kTup (aCons (kCall 1 m_wide_of (aCons (kV 0) aNil)) (aCons (kCB (on1 tupS) (aCons (kV 1) aNil)) aNil)))) (frz 1 δ))))))
def m_pair_table : List S → R S := fun as => fin (d_pair_table (entry 6 as))
theorem ok_pair_table (T : Txt P K mg C) (F : Fact K mg "pair_table" s_pair_table) (c_demand_measures : Cal P w K mg base 4 "demand_measures" s_demand_measures ["measures"] (spD K C 1 m_demand_measures)) (c_demand : Cal P w K mg base 3 "demand" s_demand ["is_good", "name"] (spD K C 2 m_demand)) (c_wide_of : Cal P w K mg base 2 "wide_of" s_wide_of ["measures"] (spD K C 1 m_wide_of)) : Cal P w K mg base 5 "pair_table" s_pair_table ["measures"] (spD K C 1 m_pair_table) := by
  have nd : (["measures", "rows", "place", "one", "other", "measure"] : List Str).Nodup := by decide +kernel
  exact cal_of (N := ["measures", "rows", "place", "one", "other", "measure"]) (k := 4) (body := d_pair_table) F ⟨rfl, rfl, rfl, nd, rfl, by decide +kernel, by decide +kernel⟩ fun fa cdv A outer s H E hr => (dss_cons (ds_expr (de_callC c_demand_measures b_demand_measures hr (by decide) rfl (takes_of rfl rfl rfl rfl) (da_cons (de_var 0) da_nil))) (dss_cons (ds_expr (de_callC c_demand b_demand hr (by decide) rfl (takes_of rfl rfl rfl rfl) (da_cons (de_cmp d_le (de_callB (c_len) rfl T.b_len (by boot_by_name) (da_cons (de_var 0) da_nil)) de_int rfl) (da_cons de_str da_nil)))) (dss_cons (ds_asgO 1 (de_lst da_nil) nd) (dss_cons (ds_for (passes_of rfl) rfl (di_enum rfl T.b_enumerate (de_var 0)) (dg_tup rfl (dgs_cons (dg_name 2 nd) (dgs_cons (dg_name 3 nd) dgs_nil))) (dss_one (ds_for (passes_of rfl) rfl (di_val (de_slice (de_var 0) (do_some (de_bin d_add (de_var 2) de_int)) do_none)) (dg_name 4 nd) (dss_one (ds_app 1 (de_callTy c_tuple rfl T.b_tuple (by boot_by_name) (da_cons (de_lcW [("measure", 5)] rfl nd (di_range1 rfl T.b_range (da_cons (de_callB (c_len) rfl T.b_len (by boot_by_name) (da_cons (de_var 3) da_nil)) da_nil)) (blkOk_by (by kernel_rfl)) (fun _ _ _ _ _ => (dg_name 5 nd)) (fun _ _ _ _ _ => (dts_one (dt_cmp (d_eq (hr64 hr)) (de_ix (de_var 3) (de_var 5)) (de_ix (de_var 4) (de_var 5)) rfl))) (fun _ _ _ _ _ => (de_var 5))) da_nil))))))) (dss_one (ds_frz 1 (ds_ret (de_tup (da_cons (de_callC c_wide_of b_wide_of hr (by decide) rfl (takes_of rfl rfl rfl rfl) (da_cons (de_var 0) da_nil)) (da_cons (de_callTy c_tuple rfl T.b_tuple (by boot_by_name) (da_cons (de_var 1) da_nil)) da_nil))))))))))
-- alike_masks ['measures'] own ['found'] slots ['measures', 'found', 'place', 'one', 'other', 'measure']
def d_alike_masks : Env → SR := (sSeq (sAsgO 1 (kLst aNil)) (sSeq (sFor (iEnumF true (kV 0)) (gT ((gN 2) :: ((gN 3) :: []))) (sFor (iVal true (kSl (kV 0) (oSome (kB addS (kV 2) (kC (.int 1)))) oNo)) (gN 4) (sApp 1 (kCall 1 m_mask_of (aCons (kComp (iRg rg1S (aCons (kCB (on1 lenS) (aCons (kV 3) aNil)) aNil)) (gN 5) (kBl (kB eqS (kB ixS (kV 3) (kV 5)) (kB ixS (kV 4) (kV 5)))) (kV 5) [5]) aNil))))) (sRetO 1)))
def m_alike_masks : List S → R S := fun as => fin (d_alike_masks (entry 6 as))
theorem ok_alike_masks (T : Txt P K mg C) (F : Fact K mg "alike_masks" s_alike_masks) (c_mask_of : Cal P w K mg base 2 "mask_of" s_mask_of ["members"] (spD K C 1 m_mask_of)) : Cal P w K mg base 3 "alike_masks" s_alike_masks ["measures"] (spD K C 1 m_alike_masks) := by
  have nd : (["measures", "found", "place", "one", "other", "measure"] : List Str).Nodup := by decide +kernel
  exact cal_of (N := ["measures", "found", "place", "one", "other", "measure"]) (k := 2) (body := d_alike_masks) F ⟨rfl, rfl, rfl, nd, rfl, by decide +kernel, by decide +kernel⟩ fun fa cdv A outer s H E hr => (dss_cons (ds_asgO 1 (de_lst da_nil) nd) (dss_cons (ds_for (passes_of rfl) rfl (di_enum rfl T.b_enumerate (de_var 0)) (dg_tup rfl (dgs_cons (dg_name 2 nd) (dgs_cons (dg_name 3 nd) dgs_nil))) (dss_one (ds_for (passes_of rfl) rfl (di_val (de_slice (de_var 0) (do_some (de_bin d_add (de_var 2) de_int)) do_none)) (dg_name 4 nd) (dss_one (ds_app 1 (de_callC c_mask_of b_mask_of hr (by decide) rfl (takes_of rfl rfl rfl rfl) (da_cons (de_lcW [("measure", 5)] rfl nd (di_range1 rfl T.b_range (da_cons (de_callB (c_len) rfl T.b_len (by boot_by_name) (da_cons (de_var 3) da_nil)) da_nil)) (blkOk_by (by kernel_rfl)) (fun _ _ _ _ _ => (dg_name 5 nd)) (fun _ _ _ _ _ => (dts_one (dt_cmp (d_eq (hr64 hr)) (de_ix (de_var 3) (de_var 5)) (de_ix (de_var 4) (de_var 5)) rfl))) (fun _ _ _ _ _ => (de_var 5))) da_nil))))))) (dss_one (ds_retO 1))))
-- depends ['measures', 'left', 'right'] own [] slots ['measures', 'left', 'right', 'one', 'other', 'mask']
def d_depends : Env → SR := (sSeq (sDrop (kCall 1 m_demand_measures (aCons (kV 0) aNil))) (sSeq (sDrop (kCall 2 m_demand (aCons (kCall 2 m_is_set (aCons (kV 1) (aCons (kCall 1 m_wide_of (aCons (kV 0) aNil)) aNil))) (aCons (kC (.str "left")) aNil)))) (sSeq (sDrop (kCall 2 m_demand (aCons (kCall 2 m_is_set (aCons (kV 2) (aCons (kCall 1 m_wide_of (aCons (kV 0) aNil)) aNil))) (aCons (kC (.str "right")) aNil)))) (sSeq (sUn2 3 4 (aCons (kCall 1 m_mask_of (aCons (kV 1) aNil)) (aCons (kCall 1 m_mask_of (aCons (kV 2) aNil)) aNil))) (sRet (kCB (on1 allS) (aCons (kComp (iVal false (kCall 1 m_alike_masks (aCons (kV 0) aNil))) (gN 5) tTrue (kOr (kB neS (kB andS (kV 5) (kV 3)) (kV 3)) (kB eqS (kB andS (kV 5) (kV 4)) (kV 4))) [5]) aNil)))))))
def m_depends : List S → R S := fun as => fin (d_depends (entry 6 as))
theorem ok_depends (T : Txt P K mg C) (F : Fact K mg "depends" s_depends) (c_demand_measures : Cal P w K mg base 4 "demand_measures" s_demand_measures ["measures"] (spD K C 1 m_demand_measures)) (c_demand : Cal P w K mg base 3 "demand" s_demand ["is_good", "name"] (spD K C 2 m_demand)) (c_is_set : Cal P w K mg base 4 "is_set" s_is_set ["value", "many"] (spD K C 2 m_is_set)) (c_wide_of : Cal P w K mg base 2 "wide_of" s_wide_of ["measures"] (spD K C 1 m_wide_of)) (c_mask_of : Cal P w K mg base 2 "mask_of" s_mask_of ["members"] (spD K C 1 m_mask_of)) (c_alike_masks : Cal P w K mg base 3 "alike_masks" s_alike_masks ["measures"] (spD K C 1 m_alike_masks)) : Cal P w K mg base 5 "depends" s_depends ["measures", "left", "right"] (spD K C 3 m_depends) := by
  have nd : (["measures", "left", "right", "one", "other", "mask"] : List Str).Nodup := by decide +kernel
  exact cal_of (N := ["measures", "left", "right", "one", "other", "mask"]) (k := 4) (body := d_depends) F ⟨rfl, rfl, rfl, nd, rfl, by decide +kernel, by decide +kernel⟩ fun fa cdv A outer s H E hr => (dss_cons (ds_expr (de_callC c_demand_measures b_demand_measures hr (by decide) rfl (takes_of rfl rfl rfl rfl) (da_cons (de_var 0) da_nil))) (dss_cons (ds_expr (de_callC c_demand b_demand hr (by decide) rfl (takes_of rfl rfl rfl rfl) (da_cons (de_callC c_is_set b_is_set hr (by decide) rfl (takes_of rfl rfl rfl rfl) (da_cons (de_var 1) (da_cons (de_callC c_wide_of b_wide_of hr (by decide) rfl (takes_of rfl rfl rfl rfl) (da_cons (de_var 0) da_nil)) da_nil))) (da_cons de_str da_nil)))) (dss_cons (ds_expr (de_callC c_demand b_demand hr (by decide) rfl (takes_of rfl rfl rfl rfl) (da_cons (de_callC c_is_set b_is_set hr (by decide) rfl (takes_of rfl rfl rfl rfl) (da_cons (de_var 2) (da_cons (de_callC c_wide_of b_wide_of hr (by decide) rfl (takes_of rfl rfl rfl rfl) (da_cons (de_var 0) da_nil)) da_nil))) (da_cons de_str da_nil)))) (dss_cons (ds_un2 3 4 rfl nd (da_cons (de_callC c_mask_of b_mask_of hr (by decide) rfl (takes_of rfl rfl rfl rfl) (da_cons (de_var 1) da_nil)) (da_cons (de_callC c_mask_of b_mask_of hr (by decide) rfl (takes_of rfl rfl rfl rfl) (da_cons (de_var 2) da_nil)) da_nil))) (dss_one (ds_ret (de_callB (c_all rfl) rfl T.b_all (by boot_by_name) (da_cons (de_lcW [("mask", 5)] rfl nd (di_val (de_callC c_alike_masks b_alike_masks hr (by decide) rfl (takes_of rfl rfl rfl rfl) (da_cons (de_var 0) da_nil))) (blkOk_by (by kernel_rfl)) (fun _ _ _ _ _ => (dg_name 5 nd)) (fun _ _ _ _ _ => dts_nil) (fun _ _ _ _ _ => (de_or (de_cmp (d_neq (hr64 hr)) (de_bin d_and (de_var 5) (de_var 3)) (de_var 3) rfl) (de_one (de_cmp (d_eq (hr64 hr)) (de_bin d_and (de_var 5) (de_var 4)) (de_var 4) rfl))))) da_nil))))))))
-- told_by_measures ['measures', 'left'] own [] slots ['measures', 'left', 'found', 'mask']
def d_told_by_measures : Env → SR := (sSeq (sDrop (kCall 1 m_demand_measures (aCons (kV 0) aNil))) (sSeq (sDrop (kCall 2 m_demand (aCons (kCall 2 m_is_set (aCons (kV 1) (aCons (kCall 1 m_wide_of (aCons (kV 0) aNil)) aNil))) (aCons (kC (.str "left")) aNil)))) (sSeq (sAsg 2 (kB subS (kB shlS (kC (.int 1)) (kCall 1 m_wide_of (aCons (kV 0) aNil))) (kC (.int 1)))) (sSeq (sFor (iVal true (kCall 1 m_alike_masks (aCons (kV 0) aNil))) (gN 3) (sIf (kBl (kB eqS (kB andS (kV 3) (kCall 1 m_mask_of (aCons (kV 1) aNil))) (kCall 1 m_mask_of (aCons (kV 1) aNil)))) (sAug 2 andS (kV 3)) sNext)) (sRet (kCall 1 m_members_of (aCons (kV 2) aNil)))))))
def m_told_by_measures : List S → R S := fun as => fin (d_told_by_measures (entry 4 as))
theorem ok_told_by_measures (T : Txt P K mg C) (F : Fact K mg "told_by_measures" s_told_by_measures) (c_demand_measures : Cal P w K mg base 4 "demand_measures" s_demand_measures ["measures"] (spD K C 1 m_demand_measures)) (c_demand : Cal P w K mg base 3 "demand" s_demand ["is_good", "name"] (spD K C 2 m_demand)) (c_is_set : Cal P w K mg base 4 "is_set" s_is_set ["value", "many"] (spD K C 2 m_is_set)) (c_wide_of : Cal P w K mg base 2 "wide_of" s_wide_of ["measures"] (spD K C 1 m_wide_of)) (c_alike_masks : Cal P w K mg base 3 "alike_masks" s_alike_masks ["measures"] (spD K C 1 m_alike_masks)) (c_mask_of : Cal P w K mg base 2 "mask_of" s_mask_of ["members"] (spD K C 1 m_mask_of)) (c_members_of : Cal P w K mg base 2 "members_of" s_members_of ["mask"] (spD K C 1 m_members_of)) : Cal P w K mg base 5 "told_by_measures" s_told_by_measures ["measures", "left"] (spD K C 2 m_told_by_measures) := by
  have nd : (["measures", "left", "found", "mask"] : List Str).Nodup := by decide +kernel
  exact cal_of (N := ["measures", "left", "found", "mask"]) (k := 4) (body := d_told_by_measures) F ⟨rfl, rfl, rfl, nd, rfl, by decide +kernel, by decide +kernel⟩ fun fa cdv A outer s H E hr => (dss_cons (ds_expr (de_callC c_demand_measures b_demand_measures hr (by decide) rfl (takes_of rfl rfl rfl rfl) (da_cons (de_var 0) da_nil))) (dss_cons (ds_expr (de_callC c_demand b_demand hr (by decide) rfl (takes_of rfl rfl rfl rfl) (da_cons (de_callC c_is_set b_is_set hr (by decide) rfl (takes_of rfl rfl rfl rfl) (da_cons (de_var 1) (da_cons (de_callC c_wide_of b_wide_of hr (by decide) rfl (takes_of rfl rfl rfl rfl) (da_cons (de_var 0) da_nil)) da_nil))) (da_cons de_str da_nil)))) (dss_cons (ds_asg 2 (de_bin d_sub (de_bin d_shl de_int (de_callC c_wide_of b_wide_of hr (by decide) rfl (takes_of rfl rfl rfl rfl) (da_cons (de_var 0) da_nil))) de_int) nd) (dss_cons (ds_for (passes_of rfl) rfl (di_val (de_callC c_alike_masks b_alike_masks hr (by decide) rfl (takes_of rfl rfl rfl rfl) (da_cons (de_var 0) da_nil))) (dg_name 3 nd) (dss_one (ds_if (dt_cmp (d_eq (hr64 hr)) (de_bin d_and (de_var 3) (de_callC c_mask_of b_mask_of hr (by decide) rfl (takes_of rfl rfl rfl rfl) (da_cons (de_var 1) da_nil))) (de_callC c_mask_of b_mask_of hr (by decide) rfl (takes_of rfl rfl rfl rfl) (da_cons (de_var 1) da_nil)) rfl) (dss_one (ds_aug 2 d_iand (de_var 3) nd)) dss_nil))) (dss_one (ds_ret (de_callC c_members_of b_members_of hr (by decide) rfl (takes_of rfl rfl rfl rfl) (da_cons (de_var 2) da_nil))))))))
-- names_of ['measures'] own [] slots ['measures', 'wide', 'every', 'good', 'least', 'mask', 'one', 'other']
def d_names_of : Env → SR := (sSeq (sDrop (kCall 1 m_demand_measures (aCons (kV 0) aNil))) (sSeq (sAsg 1 (kCall 1 m_wide_of (aCons (kV 0) aNil))) (sSeq (sAsg 2 (kCall 1 m_ordered (aCons (kLstRg1 (kB shlS (kC (.int 1)) (kV 1))) aNil))) (sSeq (sAsg 3 (kComp (iVal false (kV 2)) (gN 5) (kBl (kB eqS (kCB (on1 lenS) (aCons (kCall 2 m_told_by_measures (aCons (kV 0) (aCons (kCall 1 m_members_of (aCons (kV 5) aNil)) aNil))) aNil)) (kV 1))) (kV 5) [5])) (sSeq (sAsg 4 (kComp (iVal false (kV 3)) (gN 6) (tNotK (kTru (kCB (on1 anyS) (aCons (kComp (iVal false (kV 3)) (gN 7) tTrue (kAnd (kB neS (kV 7) (kV 6)) (kB eqS (kB andS (kV 7) (kV 6)) (kV 7))) [7]) aNil)))) (kV 6) [6])) (sRet (kCB (on1 tupS) (aCons (kComp (iVal false (kV 4)) (gN 6) tTrue (kCall 1 m_members_of (aCons (kV 6) aNil)) [6]) aNil))))))))
def m_names_of : List S → R S := fun as => fin (d_names_of (entry 8 as))
theorem ok_names_of (T : Txt P K mg C) (F : Fact K mg "names_of" s_names_of) (c_demand_measures : Cal P w K mg base 4 "demand_measures" s_demand_measures ["measures"] (spD K C 1 m_demand_measures)) (c_wide_of : Cal P w K mg base 2 "wide_of" s_wide_of ["measures"] (spD K C 1 m_wide_of)) (c_ordered : Cal P w K mg base 6 "ordered" s_ordered ["masks"] (spD K C 1 m_ordered)) (c_told_by_measures : Cal P w K mg base 5 "told_by_measures" s_told_by_measures ["measures", "left"] (spD K C 2 m_told_by_measures)) (c_members_of : Cal P w K mg base 2 "members_of" s_members_of ["mask"] (spD K C 1 m_members_of)) : Cal P w K mg base 7 "names_of" s_names_of ["measures"] (spD K C 1 m_names_of) := by
  have nd : (["measures", "wide", "every", "good", "least", "mask", "one", "other"] : List Str).Nodup := by decide +kernel
  exact cal_of (N := ["measures", "wide", "every", "good", "least", "mask", "one", "other"]) (k := 6) (body := d_names_of) F ⟨rfl, rfl, rfl, nd, rfl, by decide +kernel, by decide +kernel⟩ fun fa cdv A outer s H E hr => (dss_cons (ds_expr (de_callC c_demand_measures b_demand_measures hr (by decide) rfl (takes_of rfl rfl rfl rfl) (da_cons (de_var 0) da_nil))) (dss_cons (ds_asg 1 (de_callC c_wide_of b_wide_of hr (by decide) rfl (takes_of rfl rfl rfl rfl) (da_cons (de_var 0) da_nil)) nd) (dss_cons (ds_asg 2 (de_callC c_ordered b_ordered hr (by decide) rfl (takes_of rfl rfl rfl rfl) (da_cons (de_listRg1 rfl rfl T.b_list rfl T.b_range (de_bin d_shl de_int (de_var 1))) da_nil)) nd) (dss_cons (ds_asg 3 (de_lcW [("mask", 5)] rfl nd (di_val (de_var 2)) (blkOk_by (by kernel_rfl)) (fun _ _ _ _ _ => (dg_name 5 nd)) (fun _ _ _ _ _ => (dts_one (dt_cmp (d_eq (hr64 hr)) (de_callB (c_len) rfl T.b_len (by boot_by_name) (da_cons (de_callC c_told_by_measures b_told_by_measures hr (by decide) rfl takes0 (da_cons (de_var 0) (da_cons (de_callC c_members_of b_members_of hr (by decide) rfl takes0 (da_cons (de_var 5) da_nil)) da_nil))) da_nil)) (de_var 1) rfl))) (fun _ _ _ _ _ => (de_var 5))) nd) (dss_cons (ds_asgLcW 4 [("one", 6)] rfl nd (di_val (de_var 3)) (blkOk_by (by kernel_rfl)) (fun _ _ _ _ _ => (dg_name 6 nd)) (fun _ _ _ _ _ => (dts_one (dt_not (dt_val (de_callB (c_any rfl) rfl T.b_any (by boot_by_name) (da_cons (de_lcW [("other", 7)] rfl nd (di_val (de_var 3)) (blkOk_by (by kernel_rfl)) (fun _ _ _ _ _ => (dg_name 7 nd)) (fun _ _ _ _ _ => dts_nil) (fun _ _ _ _ _ => (de_and (de_cmp (d_neq (hr64 hr)) (de_var 7) (de_var 6) rfl) (de_one (de_cmp (d_eq (hr64 hr)) (de_bin d_and (de_var 7) (de_var 6)) (de_var 7) rfl))))) da_nil)))))) (fun _ _ _ _ _ => (de_var 6))) (dss_one (ds_ret (de_callTy c_tuple rfl T.b_tuple (by boot_by_name) (da_cons (de_lcW [("one", 6)] rfl nd (di_val (de_var 4)) (blkOk_by (by kernel_rfl)) (fun _ _ _ _ _ => (dg_name 6 nd)) (fun _ _ _ _ _ => dts_nil) (fun _ _ _ _ _ => (de_callC c_members_of b_members_of hr (by decide) rfl takes0 (da_cons (de_var 6) da_nil)))) da_nil)))))))))
-- pair_against ['measures', 'left', 'right'] own [] slots ['measures', 'left', 'right', 'place', 'one', 'more', 'other', 'same', 'measure']
def d_pair_against : Env → SR := (sSeq (sDrop (kCall 1 m_demand_measures (aCons (kV 0) aNil))) (sSeq (sDrop (kCall 2 m_demand (aCons (kCall 2 m_is_set (aCons (kV 1) (aCons (kCall 1 m_wide_of (aCons (kV 0) aNil)) aNil))) (aCons (kC (.str "left")) aNil)))) (sSeq (sDrop (kCall 2 m_demand (aCons (kCall 2 m_is_set (aCons (kV 2) (aCons (kCall 1 m_wide_of (aCons (kV 0) aNil)) aNil))) (aCons (kC (.str "right")) aNil)))) (sSeq (sFor (iEnumF true (kV 0)) (gT ((gN 3) :: ((gN 4) :: []))) (sFor (iEnumF true (kSl (kV 0) (oSome (kB addS (kV 3) (kC (.int 1)))) oNo)) (gT ((gN 5) :: ((gN 6) :: []))) (sSeq (sAsg 7 (kComp (iRg rg1S (aCons (kCB (on1 lenS) (aCons (kV 4) aNil)) aNil)) (gN 8) (kBl (kB eqS (kB ixS (kV 4) (kV 8)) (kB ixS (kV 6) (kV 8)))) (kV 8) [8])) (sIf (tAndK (kTru (kCB (on1 allS) (aCons (kComp (iVal false (kV 1)) (gN 8) tTrue (kB (inS false) (kV 8) (kV 7)) [8]) aNil))) (tNotK (kTru (kCB (on1 allS) (aCons (kComp (iVal false (kV 2)) (gN 8) tTrue (kB (inS false) (kV 8) (kV 7)) [8]) aNil))))) (sRet (kTup (aCons (kV 3) (aCons (kB addS (kB addS (kV 3) (kC (.int 1))) (kV 5)) aNil)))) sNext)))) (sRet (kC .none))))))
def m_pair_against : List S → R S := fun as => fin (d_pair_against (entry 9 as))
theorem ok_pair_against (T : Txt P K mg C) (F : Fact K mg "pair_against" s_pair_against) (c_demand_measures : Cal P w K mg base 4 "demand_measures" s_demand_measures ["measures"] (spD K C 1 m_demand_measures)) (c_demand : Cal P w K mg base 3 "demand" s_demand ["is_good", "name"] (spD K C 2 m_demand)) (c_is_set : Cal P w K mg base 4 "is_set" s_is_set ["value", "many"] (spD K C 2 m_is_set)) (c_wide_of : Cal P w K mg base 2 "wide_of" s_wide_of ["measures"] (spD K C 1 m_wide_of)) : Cal P w K mg base 5 "pair_against" s_pair_against ["measures", "left", "right"] (spD K C 3 m_pair_against) := by
  have nd : (["measures", "left", "right", "place", "one", "more", "other", "same", "measure"] : List Str).Nodup := by decide +kernel
  exact cal_of (N := ["measures", "left", "right", "place", "one", "more", "other", "same", "measure"]) (k := 4) (body := d_pair_against) F ⟨rfl, rfl, rfl, nd, rfl, by decide +kernel, by decide +kernel⟩ fun fa cdv A outer s H E hr => (dss_cons (ds_expr (de_callC c_demand_measures b_demand_measures hr (by decide) rfl (takes_of rfl rfl rfl rfl) (da_cons (de_var 0) da_nil))) (dss_cons (ds_expr (de_callC c_demand b_demand hr (by decide) rfl (takes_of rfl rfl rfl rfl) (da_cons (de_callC c_is_set b_is_set hr (by decide) rfl (takes_of rfl rfl rfl rfl) (da_cons (de_var 1) (da_cons (de_callC c_wide_of b_wide_of hr (by decide) rfl (takes_of rfl rfl rfl rfl) (da_cons (de_var 0) da_nil)) da_nil))) (da_cons de_str da_nil)))) (dss_cons (ds_expr (de_callC c_demand b_demand hr (by decide) rfl (takes_of rfl rfl rfl rfl) (da_cons (de_callC c_is_set b_is_set hr (by decide) rfl (takes_of rfl rfl rfl rfl) (da_cons (de_var 2) (da_cons (de_callC c_wide_of b_wide_of hr (by decide) rfl (takes_of rfl rfl rfl rfl) (da_cons (de_var 0) da_nil)) da_nil))) (da_cons de_str da_nil)))) (dss_cons (ds_for (passes_of rfl) rfl (di_enum rfl T.b_enumerate (de_var 0)) (dg_tup rfl (dgs_cons (dg_name 3 nd) (dgs_cons (dg_name 4 nd) dgs_nil))) (dss_one (ds_for (passes_of rfl) rfl (di_enum rfl T.b_enumerate (de_slice (de_var 0) (do_some (de_bin d_add (de_var 3) de_int)) do_none)) (dg_tup rfl (dgs_cons (dg_name 5 nd) (dgs_cons (dg_name 6 nd) dgs_nil))) (dss_cons (ds_asg 7 (de_lcW [("measure", 8)] rfl nd (di_range1 rfl T.b_range (da_cons (de_callB (c_len) rfl T.b_len (by boot_by_name) (da_cons (de_var 4) da_nil)) da_nil)) (blkOk_by (by kernel_rfl)) (fun _ _ _ _ _ => (dg_name 8 nd)) (fun _ _ _ _ _ => (dts_one (dt_cmp (d_eq (hr64 hr)) (de_ix (de_var 4) (de_var 8)) (de_ix (de_var 6) (de_var 8)) rfl))) (fun _ _ _ _ _ => (de_var 8))) nd) (dss_one (ds_if (dt_bool (dw_and (dt_val (de_callB (c_all rfl) rfl T.b_all (by boot_by_name) (da_cons (de_lcW [("measure", 8)] rfl nd (di_val (de_var 1)) (blkOk_by (by kernel_rfl)) (fun _ _ _ _ _ => (dg_name 8 nd)) (fun _ _ _ _ _ => dts_nil) (fun _ _ _ _ _ => (de_cmp (d_in (hr65 hr)) (de_var 8) (de_var 7) rfl))) da_nil))) (dw_and1 (dt_not (dt_val (de_callB (c_all rfl) rfl T.b_all (by boot_by_name) (da_cons (de_lcW [("measure", 8)] rfl nd (di_val (de_var 2)) (blkOk_by (by kernel_rfl)) (fun _ _ _ _ _ => (dg_name 8 nd)) (fun _ _ _ _ _ => dts_nil) (fun _ _ _ _ _ => (de_cmp (d_in (hr65 hr)) (de_var 8) (de_var 7) rfl))) da_nil))))))) (dss_one (ds_ret (de_tup (da_cons (de_var 3) (da_cons (de_bin d_add (de_bin d_add (de_var 3) de_int) (de_var 5)) da_nil))))) dss_nil)))))) (dss_one (ds_ret de_non))))))
-- _law_dice ['script', 'spot'] own [] slots ['script', 'spot', 'own', 'mixed', 'cell']
def d__law_dice : Env → SR := (sSeq (sAsg 2 (kIf (kBl (kB ltS (kV 1) (kCB (on1 lenS) (aCons (kV 0) aNil)))) (kB ixS (kV 0) (kV 1)) (kB addS (kB mulS (kC (.int 811)) (kV 1)) (kC (.int 37))))) (sSeq (sAsg 3 (kB addS (kC (.int 700001)) (kB mulS (kC (.int 6947)) (kV 1)))) (sSeq (sFor (iVal true (kB addS (kSl (kV 0) oNo (oSome (kC (.int 6)))) (kLst (aCons (kV 2) aNil)))) (gN 4) (sAsg 3 (kB modS (kCB (on1 intS) (aCons (kB addS (kB mulS (kV 3) (kC (.int 69621))) (kB modS (kCB (on1 intS) (aCons (kV 4) aNil)) (kC (.int 2147480009)))) aNil)) (kC (.int 2147480009))))) (sRet (kLst (aCons (kIf (tOrK (kBl (kB ltS (kV 2) (kC (.int 0)))) (kBl (kB geS (kV 2) (kB powS (kC (.int 10)) (kC (.int 16)))))) (kCB (on1 absS) (aCons (kV 2) aNil)) (kC (.int 0))) (aCons (kV 3) (aCons (kC (.int 0)) aNil))))))))
def m__law_dice : List S → R S := fun as => fin (d__law_dice (entry 5 as))
theorem ok__law_dice (T : Txt P K mg C) (F : Fact K mg "_law_dice" s__law_dice) : Cal P w K mg base 2 "_law_dice" s__law_dice ["script", "spot"] (spD K C 2 m__law_dice) := by
  have nd : (["script", "spot", "own", "mixed", "cell"] : List Str).Nodup := by decide +kernel
  exact cal_of (N := ["script", "spot", "own", "mixed", "cell"]) (k := 1) (body := d__law_dice) F ⟨rfl, rfl, rfl, nd, rfl, by decide +kernel, by decide +kernel⟩ fun fa cdv A outer s H E hr => (dss_cons (ds_asg 2 (de_if (dt_cmp d_lt (de_var 1) (de_callB (c_len) rfl T.b_len (by boot_by_name) (da_cons (de_var 0) da_nil)) rfl) (de_ix (de_var 0) (de_var 1)) (de_bin d_add (de_bin d_mul de_int (de_var 1)) de_int)) nd) (dss_cons (ds_asg 3 (de_bin d_add de_int (de_bin d_mul de_int (de_var 1))) nd) (dss_cons (ds_for (passes_of rfl) rfl (di_val (de_bin d_add (de_slice (de_var 0) do_none (do_some de_int)) (de_lst (da_cons (de_var 2) da_nil)))) (dg_name 4 nd) (dss_one (ds_asg 3 (de_bin d_mod (de_callTy c_int rfl T.b_int (by boot_by_name) (da_cons (de_bin d_add (de_bin d_mul (de_var 3) de_int) (de_bin d_mod (de_callTy c_int rfl T.b_int (by boot_by_name) (da_cons (de_var 4) da_nil)) de_int)) da_nil)) de_int) nd))) (dss_one (ds_ret (de_lst (da_cons (de_if (dt_bool (dw_or (dt_cmp d_lt (de_var 2) de_int rfl) (dw_or1 (dt_cmp d_ge (de_var 2) (de_bin d_pow de_int de_int) rfl)))) (de_callB (c_abs) rfl T.b_abs (by boot_by_name) (da_cons (de_var 2) da_nil)) de_int) (da_cons (de_var 3) (da_cons de_int da_nil)))))))))
-- _law_roll ['dice', 'total'] own ['dice'] slots ['dice', 'total', 'found']
def d__law_roll : Env → SR := (sSeq (sIf (kBl (kB gtS (kB ixS (kV 0) (kC (.int 0))) (kC (.int 0)))) (sSeq (sAsg 2 (kB modS (kCB (on1 intS) (aCons (kB ixS (kV 0) (kC (.int 0))) aNil)) (kV 1))) (sSeq (sX (xP (kB fdivS (kB ixS (kV 0) (kC (.int 0))) (kV 1))) (stIx 0 (kC (.int 0)))) (sRet (kV 2)))) sNext) (sSeq (sX (xP (kB addS (kB ixS (kV 0) (kC (.int 2))) (kC (.int 1)))) (stIx 0 (kC (.int 2)))) (sSeq (sX (xP (kB modS (kCB (on1 intS) (aCons (kB addS (kB addS (kB mulS (kB ixS (kV 0) (kC (.int 1))) (kC (.int 48271))) (kB mulS (kB mulS (kB ixS (kV 0) (kC (.int 2))) (kB ixS (kV 0) (kC (.int 2)))) (kC (.int 2003)))) (kC (.int 91))) aNil)) (kC (.int 2147480009)))) (stIx 0 (kC (.int 1)))) (sRet (kB modS (kCB (on1 intS) (aCons (kB fdivS (kB ixS (kV 0) (kC (.int 1))) (kC (.int 197))) aNil)) (kV 1))))))
def m__law_roll : List S → R (S × List S) := fun as => finX [0] (d__law_roll (entry 3 as))
theorem ok__law_roll (T : Txt P K mg C) (F : Fact K mg "_law_roll" s__law_roll) : Cal P w K mg base 2 "_law_roll" s__law_roll ["dice", "total"] (spX K C 2 [0] m__law_roll) := by
  have nd : (["dice", "total", "found"] : List Str).Nodup := by decide +kernel
  exact cal_ofX (N := ["dice", "total", "found"]) (k := 1) (body := d__law_roll) [0] F ⟨rfl, rfl, rfl, nd, rfl, by decide +kernel, by decide +kernel⟩ rfl fun fa cdv A outer s H E hr => (dss_cons (ds_if (dt_cmp d_gt (de_ix (de_var 0) de_int) de_int rfl) (dss_cons (ds_asg 2 (de_bin d_mod (de_callTy c_int rfl T.b_int (by boot_by_name) (da_cons (de_ix (de_var 0) de_int) da_nil)) (de_var 1)) nd) (dss_cons (ds_setIx 0 (dx_pure (de_bin d_fdiv (de_ix (de_var 0) de_int) (de_var 1))) de_int) (dss_one (ds_ret (de_var 2))))) dss_nil) (dss_cons (ds_setIx 0 (dx_pure (de_bin d_add (de_ix (de_var 0) de_int) de_int)) de_int) (dss_cons (ds_setIx 0 (dx_pure (de_bin d_mod (de_callTy c_int rfl T.b_int (by boot_by_name) (da_cons (de_bin d_add (de_bin d_add (de_bin d_mul (de_ix (de_var 0) de_int) de_int) (de_bin d_mul (de_bin d_mul (de_ix (de_var 0) de_int) (de_ix (de_var 0) de_int)) de_int)) de_int) da_nil)) de_int)) de_int) (dss_one (ds_ret (de_bin d_mod (de_callTy c_int rfl T.b_int (by boot_by_name) (da_cons (de_bin d_fdiv (de_ix (de_var 0) de_int) de_int) da_nil)) (de_var 1)))))))
-- _law_pick ['dice', 'things'] own ['dice'] slots ['dice', 'things']
def d__law_pick : Env → SR := (sRetX (xB ixS (xP (kV 1)) (xCallX 2 [0] m__law_roll (xaIo 0 (xaCons (xP (kCB (on1 lenS) (aCons (kV 1) aNil))) xaNil)))))
def m__law_pick : List S → R (S × List S) := fun as => finX [0] (d__law_pick (entry 2 as))
theorem ok__law_pick (T : Txt P K mg C) (F : Fact K mg "_law_pick" s__law_pick) (c__law_roll : Cal P w K mg base 2 "_law_roll" s__law_roll ["dice", "total"] (spX K C 2 [0] m__law_roll)) : Cal P w K mg base 3 "_law_pick" s__law_pick ["dice", "things"] (spX K C 2 [0] m__law_pick) := by
  have nd : (["dice", "things"] : List Str).Nodup := by decide +kernel
  exact cal_ofX (N := ["dice", "things"]) (k := 2) (body := d__law_pick) [0] F ⟨rfl, rfl, rfl, nd, rfl, by decide +kernel, by decide +kernel⟩ rfl fun fa cdv A outer s H E hr => (dss_one (ds_retX (dx_ix (dx_pure (de_var 1)) (dx_callCX c__law_roll b__law_roll hr (by decide) rfl (dxa_io 0 (dxa_cons (dx_pure (de_callB (c_len) rfl T.b_len (by boot_by_name) (da_cons (de_var 1) da_nil))) dxa_nil))))))
-- _law_sets ['many'] own [] slots ['many', 'found', 'number', 'pair', 'own']
def d__law_sets : Env → SR := (sSeq (sAsg 1 (kLst (aCons (kTup aNil) aNil))) (sSeq (sFor (iRg rg1S (aCons (kV 0) aNil)) (gN 2) (sAsg 1 (kB addS (kV 1) (kComp (iVal false (kV 1)) (gN 4) tTrue (kB addS (kV 4) (kTup (aCons (kV 2) aNil))) [4])))) (sRet (kComp (iVal false (kCB (on1 srtS) (aCons (kComp (iVal false (kV 1)) (gN 4) tTrue (kTup (aCons (kCB (on1 lenS) (aCons (kV 4) aNil)) (aCons (kV 4) aNil))) [4]) aNil))) (gN 3) tTrue (kB ixS (kV 3) (kC (.int 1))) [3]))))
def m__law_sets : List S → R S := fun as => fin (d__law_sets (entry 5 as))
theorem ok__law_sets (T : Txt P K mg C) (F : Fact K mg "_law_sets" s__law_sets) : Cal P w K mg base 2 "_law_sets" s__law_sets ["many"] (spD K C 1 m__law_sets) := by
  have nd : (["many", "found", "number", "pair", "own"] : List Str).Nodup := by decide +kernel
  exact cal_of (N := ["many", "found", "number", "pair", "own"]) (k := 1) (body := d__law_sets) F ⟨rfl, rfl, rfl, nd, rfl, by decide +kernel, by decide +kernel⟩ fun fa cdv A outer s H E hr => (dss_cons (ds_asg 1 (de_lst (da_cons (de_tup da_nil) da_nil)) nd) (dss_cons (ds_for (passes_of rfl) rfl (di_range1 rfl T.b_range (da_cons (de_var 0) da_nil)) (dg_name 2 nd) (dss_one (ds_asg 1 (de_bin d_add (de_var 1) (de_lcW [("own", 4)] rfl nd (di_val (de_var 1)) (blkOk_by (by kernel_rfl)) (fun _ _ _ _ _ => (dg_name 4 nd)) (fun _ _ _ _ _ => dts_nil) (fun _ _ _ _ _ => (de_bin d_add (de_var 4) (de_tup (da_cons (de_var 2) da_nil)))))) nd))) (dss_one (ds_ret (de_lcW [("pair", 3)] rfl nd (di_val (de_callB (c_sorted (hr64 hr)) rfl T.b_sorted (by boot_by_name) (da_cons (de_lcW [("own", 4)] rfl nd (di_val (de_var 1)) (blkOk_by (by kernel_rfl)) (fun _ _ _ _ _ => (dg_name 4 nd)) (fun _ _ _ _ _ => dts_nil) (fun _ _ _ _ _ => (de_tup (da_cons (de_callB (c_len) rfl T.b_len (by boot_by_name) (da_cons (de_var 4) da_nil)) (da_cons (de_var 4) da_nil))))) da_nil))) (blkOk_by (by kernel_rfl)) (fun _ _ _ _ _ => (dg_name 3 nd)) (fun _ _ _ _ _ => dts_nil) (fun _ _ _ _ _ => (de_ix (de_var 3) de_int)))))))
-- _law_pick ['dice', 'things'] own ['dice', 'things'] slots ['dice', 'things']
def d__law_pick_0_1 : Env → SR := (sRetX (xIxV 1 (xCallX 2 [0] m__law_roll (xaIo 0 (xaCons (xP (kCB (on1 lenS) (aCons (kV 1) aNil))) xaNil)))))
def m__law_pick_0_1 : List S → R (S × List S) := fun as => finX [0, 1] (d__law_pick_0_1 (entry 2 as))
theorem ok__law_pick_0_1 (T : Txt P K mg C) (F : Fact K mg "_law_pick" s__law_pick) (c__law_roll : Cal P w K mg base 2 "_law_roll" s__law_roll ["dice", "total"] (spX K C 2 [0] m__law_roll)) : Cal P w K mg base 3 "_law_pick" s__law_pick ["dice", "things"] (spX K C 2 [0, 1] m__law_pick_0_1) := by
  have nd : (["dice", "things"] : List Str).Nodup := by decide +kernel
  exact cal_ofX (N := ["dice", "things"]) (k := 2) (body := d__law_pick_0_1) [0, 1] F ⟨rfl, rfl, rfl, nd, rfl, by decide +kernel, by decide +kernel⟩ rfl fun fa cdv A outer s H E hr => (dss_one (ds_retX (dx_ixV 1 (dx_callCX c__law_roll b__law_roll hr (by decide) rfl (dxa_io 0 (dxa_cons (dx_pure (de_callB (c_len) rfl T.b_len (by boot_by_name) (da_cons (de_var 1) da_nil))) dxa_nil))))))
-- _law_table ['dice', 'marks', 'shells'] own ['dice', 'rows'] slots ['dice', 'marks', 'shells', 'rows', 'shell', 'many', 'thick', 'row', 'mark']
def d__law_table : Env → SR := (sSeq (sX (xOf tupA (xaCons (xCallX 2 [0] m__law_roll (xaIo 0 (xaCons (xP (kB addS (kV 1) (kC (.int 1)))) xaNil))) (xaCons (xCallX 2 [0] m__law_pick (xaIo 0 (xaCons (xP (kLst (aCons (kC (.int 1)) (aCons (kC (.int 2)) (aCons (kC (.int 2)) (aCons (kC (.int 3)) aNil)))))) xaNil))) xaNil))) (gS (gT ((gN 5) :: ((gN 6) :: []))))) (sSeq (sAsgO 3 (kLst aNil)) (sSeq (sForX (xRg1 (xaCons (xCallX 2 [0] m__law_roll (xaIo 0 (xaCons (xP (kB addS (kV 2) (kC (.int 1)))) xaNil))) xaNil)) (gN 4) (sSeq (sAsgX 7 (xOf (on1 tupS) (xaCons (xComp (xI (iRg rg1S (aCons (kV 5) aNil))) (gN 8) (xBl (xB ltS (xCallX 2 [0] m__law_roll (xaIo 0 (xaCons (xP (kC (.int 4))) xaNil))) (xP (kV 6)))) (xP (kV 8)) [8]) xaNil))) (sAppX 3 (xIf (xAnd (xPB (kBl (kB gtS (kCB (on1 lenS) (aCons (kV 3) aNil)) (kC (.int 0))))) (xBl (xB eqS (xCallX 2 [0] m__law_roll (xaIo 0 (xaCons (xP (kC (.int 8))) xaNil))) (xP (kC (.int 0)))))) (xCallX 2 [0, 1] m__law_pick_0_1 (xaIo 0 (xaIo 3 xaNil))) (xP (kV 7)))))) (fun δ => (sRet (kTup (aCons (kV 5) (aCons (kCB (on1 tupS) (aCons (kV 3) aNil)) aNil)))) (frz 3 δ)))))
def m__law_table : List S → R (S × List S) := fun as => finX [0] (d__law_table (entry 9 as))
theorem ok__law_table (T : Txt P K mg C) (F : Fact K mg "_law_table" s__law_table) (c__law_pick : Cal P w K mg base 3 "_law_pick" s__law_pick ["dice", "things"] (spX K C 2 [0] m__law_pick)) (c__law_roll : Cal P w K mg base 2 "_law_roll" s__law_roll ["dice", "total"] (spX K C 2 [0] m__law_roll)) (c__law_pick_0_1 : Cal P w K mg base 3 "_law_pick" s__law_pick ["dice", "things"] (spX K C 2 [0, 1] m__law_pick_0_1)) : Cal P w K mg base 4 "_law_table" s__law_table ["dice", "marks", "shells"] (spX K C 3 [0] m__law_table) := by
  have nd : (["dice", "marks", "shells", "rows", "shell", "many", "thick", "row", "mark"] : List Str).Nodup := by decide +kernel
  exact cal_ofX (N := ["dice", "marks", "shells", "rows", "shell", "many", "thick", "row", "mark"]) (k := 3) (body := d__law_table) [0] F ⟨rfl, rfl, rfl, nd, rfl, by decide +kernel, by decide +kernel⟩ rfl fun fa cdv A outer s H E hr => (dss_cons (ds_unpX (dx_tup (dxa_cons (dx_callCX c__law_roll b__law_roll hr (by decide) rfl (dxa_io 0 (dxa_cons (dx_pure (de_bin d_add (de_var 1) de_int)) dxa_nil))) (dxa_cons (dx_callCX c__law_pick b__law_pick hr (by decide) rfl (dxa_io 0 (dxa_cons (dx_pure (de_lst (da_cons de_int (da_cons de_int (da_cons de_int (da_cons de_int da_nil)))))) dxa_nil))) dxa_nil))) (dg_tup rfl (dgs_cons (dg_name 5 nd) (dgs_cons (dg_name 6 nd) dgs_nil)))) (dss_cons (ds_asgO 3 (de_lst da_nil) nd) (dss_cons (ds_forX (passes_of rfl) rfl (dix_range1 rfl T.b_range (dxa_cons (dx_callCX c__law_roll b__law_roll hr (by decide) rfl (dxa_io 0 (dxa_cons (dx_pure (de_bin d_add (de_var 2) de_int)) dxa_nil))) dxa_nil)) (dg_name 4 nd) (dss_cons (ds_asgX 7 (dx_callTy c_tuple rfl T.b_tuple (by boot_by_name) (dxa_cons (dx_lcW [("mark", 8)] rfl nd (dix_pure (di_range1 rfl T.b_range (da_cons (de_var 5) da_nil))) (blkOk_by (by kernel_rfl)) (fun _ _ _ _ _ => (dg_name 8 nd)) (fun _ _ _ _ _ => (dxts_one (dxt_cmp d_lt (dx_callCX c__law_roll b__law_roll hr (by decide) rfl (dxa_io 0 (dxa_cons (dx_pure de_int) dxa_nil))) (dx_pure (de_var 6)) rfl))) (fun _ _ _ _ _ => (dx_pure (de_var 8)))) dxa_nil)) nd) (dss_one (ds_appX 3 (dx_if (dxt_bool (dxw_and (dxt_pure (dt_cmp d_gt (de_callB (c_len) rfl T.b_len (by boot_by_name) (da_cons (de_var 3) da_nil)) de_int rfl)) (dxw_and1 (dxt_cmp (d_eq (hr64 hr)) (dx_callCX c__law_roll b__law_roll hr (by decide) rfl (dxa_io 0 (dxa_cons (dx_pure de_int) dxa_nil))) (dx_pure de_int) rfl)))) (dx_callCX c__law_pick_0_1 b__law_pick hr (by decide) rfl (dxa_io 0 (dxa_io 3 dxa_nil))) (dx_pure (de_var 7))))))) (dss_one (ds_frz 3 (ds_ret (de_tup (da_cons (de_var 5) (da_cons (de_callTy c_tuple rfl T.b_tuple (by boot_by_name) (da_cons (de_var 3) da_nil)) da_nil)))))))))
-- _law_has ['row', 'marks'] own [] slots ['row', 'marks', 'mark']
def d__law_has : Env → SR := (sRet (kCB (on1 allS) (aCons (kComp (iVal false (kV 1)) (gN 2) tTrue (kB (inS false) (kV 2) (kV 0)) [2]) aNil)))
def m__law_has : List S → R S := fun as => fin (d__law_has (entry 3 as))
theorem ok__law_has (T : Txt P K mg C) (F : Fact K mg "_law_has" s__law_has) : Cal P w K mg base 2 "_law_has" s__law_has ["row", "marks"] (spD K C 2 m__law_has) := by
  have nd : (["row", "marks", "mark"] : List Str).Nodup := by decide +kernel
  exact cal_of (N := ["row", "marks", "mark"]) (k := 1) (body := d__law_has) F ⟨rfl, rfl, rfl, nd, rfl, by decide +kernel, by decide +kernel⟩ fun fa cdv A outer s H E hr => (dss_one (ds_ret (de_callB (c_all rfl) rfl T.b_all (by boot_by_name) (da_cons (de_lcW [("mark", 2)] rfl nd (di_val (de_var 1)) (blkOk_by (by kernel_rfl)) (fun _ _ _ _ _ => (dg_name 2 nd)) (fun _ _ _ _ _ => dts_nil) (fun _ _ _ _ _ => (de_cmp (d_in (hr65 hr)) (de_var 2) (de_var 0) rfl))) da_nil))))
-- _law_common ['table', 'shells'] own [] slots ['table', 'shells', 'mark', 'shell']
def d__law_common : Env → SR := (sRet (kCB (on1 tupS) (aCons (kComp (iRg rg1S (aCons (kB ixS (kV 0) (kC (.int 0))) aNil)) (gN 2) (kTru (kCB (on1 allS) (aCons (kComp (iVal false (kV 1)) (gN 3) tTrue (kB (inS false) (kV 2) (kB ixS (kB ixS (kV 0) (kC (.int 1))) (kV 3))) [3]) aNil))) (kV 2) [2]) aNil)))
def m__law_common : List S → R S := fun as => fin (d__law_common (entry 4 as))
theorem ok__law_common (T : Txt P K mg C) (F : Fact K mg "_law_common" s__law_common) : Cal P w K mg base 2 "_law_common" s__law_common ["table", "shells"] (spD K C 2 m__law_common) := by
  have nd : (["table", "shells", "mark", "shell"] : List Str).Nodup := by decide +kernel
  exact cal_of (N := ["table", "shells", "mark", "shell"]) (k := 1) (body := d__law_common) F ⟨rfl, rfl, rfl, nd, rfl, by decide +kernel, by decide +kernel⟩ fun fa cdv A outer s H E hr => (dss_one (ds_ret (de_callTy c_tuple rfl T.b_tuple (by boot_by_name) (da_cons (de_lcW [("mark", 2)] rfl nd (di_range1 rfl T.b_range (da_cons (de_ix (de_var 0) de_int) da_nil)) (blkOk_by (by kernel_rfl)) (fun _ _ _ _ _ => (dg_name 2 nd)) (fun _ _ _ _ _ => (dts_one (dt_val (de_callB (c_all rfl) rfl T.b_all (by boot_by_name) (da_cons (de_lcW [("shell", 3)] rfl nd (di_val (de_var 1)) (blkOk_by (by kernel_rfl)) (fun _ _ _ _ _ => (dg_name 3 nd)) (fun _ _ _ _ _ => dts_nil) (fun _ _ _ _ _ => (de_cmp (d_in (hr65 hr)) (de_var 2) (de_ix (de_ix (de_var 0) de_int) (de_var 3)) rfl))) da_nil))))) (fun _ _ _ _ _ => (de_var 2))) da_nil))))
-- _law_having ['table', 'marks'] own [] slots ['table', 'marks', 'shell']
def d__law_having : Env → SR := (sRet (kCB (on1 tupS) (aCons (kComp (iRg rg1S (aCons (kCB (on1 lenS) (aCons (kB ixS (kV 0) (kC (.int 1))) aNil)) aNil)) (gN 2) (kTru (kCall 2 m__law_has (aCons (kB ixS (kB ixS (kV 0) (kC (.int 1))) (kV 2)) (aCons (kV 1) aNil)))) (kV 2) [2]) aNil)))
def m__law_having : List S → R S := fun as => fin (d__law_having (entry 3 as))
theorem ok__law_having (T : Txt P K mg C) (F : Fact K mg "_law_having" s__law_having) (c__law_has : Cal P w K mg base 2 "_law_has" s__law_has ["row", "marks"] (spD K C 2 m__law_has)) : Cal P w K mg base 3 "_law_having" s__law_having ["table", "marks"] (spD K C 2 m__law_having) := by
  have nd : (["table", "marks", "shell"] : List Str).Nodup := by decide +kernel
  exact cal_of (N := ["table", "marks", "shell"]) (k := 2) (body := d__law_having) F ⟨rfl, rfl, rfl, nd, rfl, by decide +kernel, by decide +kernel⟩ fun fa cdv A outer s H E hr => (dss_one (ds_ret (de_callTy c_tuple rfl T.b_tuple (by boot_by_name) (da_cons (de_lcW [("shell", 2)] rfl nd (di_range1 rfl T.b_range (da_cons (de_callB (c_len) rfl T.b_len (by boot_by_name) (da_cons (de_ix (de_var 0) de_int) da_nil)) da_nil)) (blkOk_by (by kernel_rfl)) (fun _ _ _ _ _ => (dg_name 2 nd)) (fun _ _ _ _ _ => (dts_one (dt_val (de_callC c__law_has b__law_has hr (by decide) rfl takes0 (da_cons (de_ix (de_ix (de_var 0) de_int) (de_var 2)) (da_cons (de_var 1) da_nil)))))) (fun _ _ _ _ _ => (de_var 2))) da_nil))))
-- _law_closed ['table', 'marks'] own [] slots ['table', 'marks']
def d__law_closed : Env → SR := (sRet (kCall 2 m__law_common (aCons (kV 0) (aCons (kCall 2 m__law_having (aCons (kV 0) (aCons (kV 1) aNil))) aNil))))
def m__law_closed : List S → R S := fun as => fin (d__law_closed (entry 2 as))
theorem ok__law_closed (T : Txt P K mg C) (F : Fact K mg "_law_closed" s__law_closed) (c__law_common : Cal P w K mg base 2 "_law_common" s__law_common ["table", "shells"] (spD K C 2 m__law_common)) (c__law_having : Cal P w K mg base 3 "_law_having" s__law_having ["table", "marks"] (spD K C 2 m__law_having)) : Cal P w K mg base 4 "_law_closed" s__law_closed ["table", "marks"] (spD K C 2 m__law_closed) := by
  have nd : (["table", "marks"] : List Str).Nodup := by decide +kernel
  exact cal_of (N := ["table", "marks"]) (k := 3) (body := d__law_closed) F ⟨rfl, rfl, rfl, nd, rfl, by decide +kernel, by decide +kernel⟩ fun fa cdv A outer s H E hr => (dss_one (ds_ret (de_callC c__law_common b__law_common hr (by decide) rfl (takes_of rfl rfl rfl rfl) (da_cons (de_var 0) (da_cons (de_callC c__law_having b__law_having hr (by decide) rfl (takes_of rfl rfl rfl rfl) (da_cons (de_var 0) (da_cons (de_var 1) da_nil))) da_nil)))))
-- _law_every ['table'] own [] slots ['table', 'own']
def d__law_every : Env → SR := (sRet (kComp (iVal false (kCall 1 m__law_sets (aCons (kB ixS (kV 0) (kC (.int 0))) aNil))) (gN 1) (kBl (kB eqS (kCall 2 m__law_closed (aCons (kV 0) (aCons (kV 1) aNil))) (kV 1))) (kV 1) [1]))
def m__law_every : List S → R S := fun as => fin (d__law_every (entry 2 as))
theorem ok__law_every (T : Txt P K mg C) (F : Fact K mg "_law_every" s__law_every) (c__law_sets : Cal P w K mg base 2 "_law_sets" s__law_sets ["many"] (spD K C 1 m__law_sets)) (c__law_closed : Cal P w K mg base 4 "_law_closed" s__law_closed ["table", "marks"] (spD K C 2 m__law_closed)) : Cal P w K mg base 5 "_law_every" s__law_every ["table"] (spD K C 1 m__law_every) := by
  have nd : (["table", "own"] : List Str).Nodup := by decide +kernel
  exact cal_of (N := ["table", "own"]) (k := 4) (body := d__law_every) F ⟨rfl, rfl, rfl, nd, rfl, by decide +kernel, by decide +kernel⟩ fun fa cdv A outer s H E hr => (dss_one (ds_ret (de_lcW [("own", 1)] rfl nd (di_val (de_callC c__law_sets b__law_sets hr (by decide) rfl (takes_of rfl rfl rfl rfl) (da_cons (de_ix (de_var 0) de_int) da_nil))) (blkOk_by (by kernel_rfl)) (fun _ _ _ _ _ => (dg_name 1 nd)) (fun _ _ _ _ _ => (dts_one (dt_cmp (d_eq (hr64 hr)) (de_callC c__law_closed b__law_closed hr (by decide) rfl takes0 (da_cons (de_var 0) (da_cons (de_var 1) da_nil))) (de_var 1) rfl))) (fun _ _ _ _ _ => (de_var 1)))))
-- _law_measures ['dice', 'shells', 'wide'] own ['dice', 'rows'] slots ['dice', 'shells', 'wide', 'shell', 'many', 'most', 'rows', 'measure']
def d__law_measures : Env → SR := (sSeq (sUn3XO 4 5 6 (xCallX 2 [0] m__law_roll (xaIo 0 (xaCons (xP (kB addS (kV 2) (kC (.int 1)))) xaNil))) (xCallX 2 [0] m__law_pick (xaIo 0 (xaCons (xP (kLst (aCons (kC (.int 2)) (aCons (kC (.int 3)) (aCons (kC (.int 5)) aNil))))) xaNil)))) (sSeq (sForX (xRg1 (xaCons (xCallX 2 [0] m__law_roll (xaIo 0 (xaCons (xP (kB addS (kV 1) (kC (.int 1)))) xaNil))) xaNil)) (gN 3) (sAppX 6 (xOf (on1 tupS) (xaCons (xComp (xI (iRg rg1S (aCons (kV 4) aNil))) (gN 7) xYes (xCallX 2 [0] m__law_pick (xaIo 0 (xaCons (xP (kSl (kLst (aCons (kC (.int 0)) (aCons (kC (.int 1)) (aCons (kC (.int 2)) (aCons (kC (.int 50)) (aCons (kC (.int 99)) aNil)))))) oNo (oSome (kV 5)))) xaNil))) [7]) xaNil)))) (fun δ => (sRet (kCB (on1 tupS) (aCons (kV 6) aNil))) (frz 6 δ))))
def m__law_measures : List S → R (S × List S) := fun as => finX [0] (d__law_measures (entry 8 as))
theorem ok__law_measures (T : Txt P K mg C) (F : Fact K mg "_law_measures" s__law_measures) (c__law_roll : Cal P w K mg base 2 "_law_roll" s__law_roll ["dice", "total"] (spX K C 2 [0] m__law_roll)) (c__law_pick : Cal P w K mg base 3 "_law_pick" s__law_pick ["dice", "things"] (spX K C 2 [0] m__law_pick)) : Cal P w K mg base 4 "_law_measures" s__law_measures ["dice", "shells", "wide"] (spX K C 3 [0] m__law_measures) := by
  have nd : (["dice", "shells", "wide", "shell", "many", "most", "rows", "measure"] : List Str).Nodup := by decide +kernel
  exact cal_ofX (N := ["dice", "shells", "wide", "shell", "many", "most", "rows", "measure"]) (k := 3) (body := d__law_measures) [0] F ⟨rfl, rfl, rfl, nd, rfl, by decide +kernel, by decide +kernel⟩ rfl fun fa cdv A outer s H E hr => (dss_cons (ds_un3XO 4 5 6 rfl nd (dx_callCX c__law_roll b__law_roll hr (by decide) rfl (dxa_io 0 (dxa_cons (dx_pure (de_bin d_add (de_var 2) de_int)) dxa_nil))) (dx_callCX c__law_pick b__law_pick hr (by decide) rfl (dxa_io 0 (dxa_cons (dx_pure (de_lst (da_cons de_int (da_cons de_int (da_cons de_int da_nil))))) dxa_nil)))) (dss_cons (ds_forX (passes_of rfl) rfl (dix_range1 rfl T.b_range (dxa_cons (dx_callCX c__law_roll b__law_roll hr (by decide) rfl (dxa_io 0 (dxa_cons (dx_pure (de_bin d_add (de_var 1) de_int)) dxa_nil))) dxa_nil)) (dg_name 3 nd) (dss_one (ds_appX 6 (dx_callTy c_tuple rfl T.b_tuple (by boot_by_name) (dxa_cons (dx_lcW [("measure", 7)] rfl nd (dix_pure (di_range1 rfl T.b_range (da_cons (de_var 4) da_nil))) (blkOk_by (by kernel_rfl)) (fun _ _ _ _ _ => (dg_name 7 nd)) (fun _ _ _ _ _ => dxts_nil) (fun _ _ _ _ _ => (dx_callCX c__law_pick b__law_pick hr (by decide) rfl (dxa_io 0 (dxa_cons (dx_pure (de_slice (de_lst (da_cons de_int (da_cons de_int (da_cons de_int (da_cons de_int (da_cons de_int da_nil)))))) do_none (do_some (de_var 5)))) dxa_nil))))) dxa_nil))))) (dss_one (ds_frz 6 (ds_ret (de_callTy c_tuple rfl T.b_tuple (by boot_by_name) (da_cons (de_var 6) da_nil)))))))
-- _law_alike ['one', 'other', 'measures'] own [] slots ['one', 'other', 'measures', 'measure']
def d__law_alike : Env → SR := (sRet (kCB (on1 allS) (aCons (kComp (iVal false (kV 2)) (gN 3) tTrue (kB eqS (kB ixS (kV 0) (kV 3)) (kB ixS (kV 1) (kV 3))) [3]) aNil)))
def m__law_alike : List S → R S := fun as => fin (d__law_alike (entry 4 as))
theorem ok__law_alike (T : Txt P K mg C) (F : Fact K mg "_law_alike" s__law_alike) : Cal P w K mg base 2 "_law_alike" s__law_alike ["one", "other", "measures"] (spD K C 3 m__law_alike) := by
  have nd : (["one", "other", "measures", "measure"] : List Str).Nodup := by decide +kernel
  exact cal_of (N := ["one", "other", "measures", "measure"]) (k := 1) (body := d__law_alike) F ⟨rfl, rfl, rfl, nd, rfl, by decide +kernel, by decide +kernel⟩ fun fa cdv A outer s H E hr => (dss_one (ds_ret (de_callB (c_all rfl) rfl T.b_all (by boot_by_name) (da_cons (de_lcW [("measure", 3)] rfl nd (di_val (de_var 2)) (blkOk_by (by kernel_rfl)) (fun _ _ _ _ _ => (dg_name 3 nd)) (fun _ _ _ _ _ => dts_nil) (fun _ _ _ _ _ => (de_cmp (d_eq (hr64 hr)) (de_ix (de_var 0) (de_var 3)) (de_ix (de_var 1) (de_var 3)) rfl))) da_nil))))
-- _law_pairs ['measures'] own [] slots ['measures', 'found', 'one', 'other']
def d__law_pairs : Env → SR := (sSeq (sAsg 1 (kLst aNil)) (sSeq (sFor (iRg rg1S (aCons (kCB (on1 lenS) (aCons (kV 0) aNil)) aNil)) (gN 2) (sAsg 1 (kB addS (kV 1) (kComp (iRg rg2S (aCons (kB addS (kV 2) (kC (.int 1))) (aCons (kCB (on1 lenS) (aCons (kV 0) aNil)) aNil))) (gN 3) tTrue (kTup (aCons (kV 2) (aCons (kV 3) aNil))) [3])))) (sRet (kV 1))))
def m__law_pairs : List S → R S := fun as => fin (d__law_pairs (entry 4 as))
theorem ok__law_pairs (T : Txt P K mg C) (F : Fact K mg "_law_pairs" s__law_pairs) : Cal P w K mg base 2 "_law_pairs" s__law_pairs ["measures"] (spD K C 1 m__law_pairs) := by
  have nd : (["measures", "found", "one", "other"] : List Str).Nodup := by decide +kernel
  exact cal_of (N := ["measures", "found", "one", "other"]) (k := 1) (body := d__law_pairs) F ⟨rfl, rfl, rfl, nd, rfl, by decide +kernel, by decide +kernel⟩ fun fa cdv A outer s H E hr => (dss_cons (ds_asg 1 (de_lst da_nil) nd) (dss_cons (ds_for (passes_of rfl) rfl (di_range1 rfl T.b_range (da_cons (de_callB (c_len) rfl T.b_len (by boot_by_name) (da_cons (de_var 0) da_nil)) da_nil)) (dg_name 2 nd) (dss_one (ds_asg 1 (de_bin d_add (de_var 1) (de_lcW [("other", 3)] rfl nd (di_range2 rfl T.b_range (da_cons (de_bin d_add (de_var 2) de_int) (da_cons (de_callB (c_len) rfl T.b_len (by boot_by_name) (da_cons (de_var 0) da_nil)) da_nil))) (blkOk_by (by kernel_rfl)) (fun _ _ _ _ _ => (dg_name 3 nd)) (fun _ _ _ _ _ => dts_nil) (fun _ _ _ _ _ => (de_tup (da_cons (de_var 2) (da_cons (de_var 3) da_nil)))))) nd))) (dss_one (ds_ret (de_var 1)))))
-- _law_last [] own [] slots ['one', 'told', 'measures']
def d__law_last : Env → SR := (sSeq (sAsg 0 (kTup (aCons (kTup (aCons (kC (.int 3)) aNil)) aNil))) (sSeq (sAsg 1 (kLst (aCons (kRef (kCall 1 m_pair_table (aCons (kB mulS (kTup (aCons (kTup (aCons (kC (.int 1)) aNil)) aNil)) (kC (.int 5))) aNil))) (aCons (kRef (kCall 1 m_pair_table (aCons (kC .none) aNil))) (aCons (kRef (kCall 3 m_depends (aCons (kLst aNil) (aCons (kTup aNil) (aCons (kTup aNil) aNil))))) (aCons (kRef (kCall 3 m_depends (aCons (kV 0) (aCons (kTup (aCons (kC (.int 1)) aNil)) (aCons (kC .none) aNil))))) (aCons (kRef (kCall 3 m_depends (aCons (kV 0) (aCons (kTup (aCons (kC (.int 0)) aNil)) (aCons (kLst (aCons (kC (.int 0)) aNil)) aNil))))) (aCons (kRef (kCall 3 m_pair_against (aCons (kV 0) (aCons (kC .none) (aCons (kTup aNil) aNil))))) (aCons (kRef (kCall 3 m_pair_against (aCons (kV 0) (aCons (kTup aNil) (aCons (kTup (aCons (kC (.int 1)) aNil)) aNil))))) (aCons (kRef (kCall 2 m_told_by_measures (aCons (kV 0) (aCons (kTup (aCons (kC (.int 0)) (aCons (kC (.int 0)) aNil))) aNil)))) (aCons (kRef (kCall 1 m_names_of (aCons (kTup (aCons (kTup (aCons (kC (.int 0)) aNil)) (aCons (kTup aNil) aNil))) aNil))) aNil))))))))))) (sSeq (sIf (kBl (kB neS (kV 1) (kLst (aCons (kC (.str "measures")) (aCons (kC (.str "measures")) (aCons (kC (.str "measures")) (aCons (kC (.str "left")) (aCons (kC (.str "right")) (aCons (kC (.str "left")) (aCons (kC (.str "right")) (aCons (kC (.str "left")) (aCons (kC (.str "measures")) aNil)))))))))))) (sRet (kC (.bool false))) sNext) (sSeq (sAsg 2 (kTup (aCons (kTup (aCons (kC (.int 1)) (aCons (kC (.int 5)) (aCons (kC (.int 0)) aNil)))) (aCons (kTup (aCons (kC (.int 1)) (aCons (kC (.int 5)) (aCons (kC (.int 1)) aNil)))) (aCons (kTup (aCons (kC (.int 2)) (aCons (kC (.int 5)) (aCons (kC (.int 1)) aNil)))) aNil))))) (sSeq (sIf (tNotK (tAndK (kBl (kB eqS (kCall 1 m_pair_table (aCons (kV 2) aNil)) (kTup (aCons (kC (.int 3)) (aCons (kTup (aCons (kTup (aCons (kC (.int 0)) (aCons (kC (.int 1)) aNil))) (aCons (kTup (aCons (kC (.int 1)) aNil)) (aCons (kTup (aCons (kC (.int 1)) (aCons (kC (.int 2)) aNil))) aNil)))) aNil))))) (tAndK (kBl (kB eqS (kCall 1 m_names_of (aCons (kV 2) aNil)) (kTup (aCons (kTup (aCons (kC (.int 0)) (aCons (kC (.int 2)) aNil))) aNil)))) (kTru (kCall 3 m_depends (aCons (kV 2) (aCons (kTup (aCons (kC (.int 0)) aNil)) (aCons (kTup (aCons (kC (.int 1)) aNil)) aNil)))))))) (sRet (kC (.bool false))) sNext) (sRet (kAnd (kB eqS (kCall 3 m_pair_against (aCons (kV 2) (aCons (kTup (aCons (kC (.int 1)) aNil)) (aCons (kTup (aCons (kC (.int 0)) aNil)) aNil)))) (kTup (aCons (kC (.int 0)) (aCons (kC (.int 2)) aNil)))) (kB eqS (kCall 2 m_told_by_measures (aCons (kV 2) (aCons (kTup aNil) aNil))) (kTup (aCons (kC (.int 1)) aNil))))))))))
def m__law_last : List S → R S := fun as => fin (d__law_last (entry 3 as))
theorem ok__law_last (T : Txt P K mg C) {cdv cdR : Value} (hL : HostL base mg C "_law_last" cdv) (R_ref : FactC K mg "_law_refused" s__law_refused cdR) (F : FactC K mg "_law_last" s__law_last cdv) (c_names_of : Cal P w K mg base 7 "names_of" s_names_of ["measures"] (spD K C 1 m_names_of)) (c_told_by_measures : Cal P w K mg base 5 "told_by_measures" s_told_by_measures ["measures", "left"] (spD K C 2 m_told_by_measures)) (c_pair_against : Cal P w K mg base 5 "pair_against" s_pair_against ["measures", "left", "right"] (spD K C 3 m_pair_against)) (c_depends : Cal P w K mg base 5 "depends" s_depends ["measures", "left", "right"] (spD K C 3 m_depends)) (c_pair_table : Cal P w K mg base 5 "pair_table" s_pair_table ["measures"] (spD K C 1 m_pair_table)) : Cal P w K mg base 10 "_law_last" s__law_last [] (spD K C 0 m__law_last) := by
  have nd : (["one", "told", "measures"] : List Str).Nodup := by decide +kernel
  exact cal_ofC (N := ["one", "told", "measures"]) (k := 9) (body := d__law_last) F ⟨rfl, rfl, rfl, nd, rfl, by decide +kernel, by decide +kernel⟩ fun fa A outer s H E hr => (dss_cons (ds_asg 0 (de_tup (da_cons (de_tup (da_cons de_int da_nil)) da_nil)) nd) (dss_cons (ds_asg 1 (de_lst (da_cons (de_refused R_ref sc_ref b__law_refused (fun g q => refused_gives T.x_BadArgument T.te0 rfl rfl rfl rfl rfl (by decide) (fun _ => rfl) (fun _ => rfl) (fun _ _ _ => rfl)) rfl (lamh_of hL) hr (k := 7) (by decide) (LamX.lamS_by (by kernel_rfl)) rfl (fun _ _ _ _ _ => rfl) (fun A outer s H E fl c1 hr => (de_callC c_pair_table b_pair_table hr (by decide) rfl (takes_of rfl rfl rfl rfl) (da_cons (de_bin d_mul (de_tup (da_cons (de_tup (da_cons de_int da_nil)) da_nil)) de_int) da_nil)))) (da_cons (de_refused R_ref sc_ref b__law_refused (fun g q => refused_gives T.x_BadArgument T.te0 rfl rfl rfl rfl rfl (by decide) (fun _ => rfl) (fun _ => rfl) (fun _ _ _ => rfl)) rfl (lamh_of hL) hr (k := 7) (by decide) (LamX.lamS_by (by kernel_rfl)) rfl (fun _ _ _ _ _ => rfl) (fun A outer s H E fl c1 hr => (de_callC c_pair_table b_pair_table hr (by decide) rfl (takes_of rfl rfl rfl rfl) (da_cons de_non da_nil)))) (da_cons (de_refused R_ref sc_ref b__law_refused (fun g q => refused_gives T.x_BadArgument T.te0 rfl rfl rfl rfl rfl (by decide) (fun _ => rfl) (fun _ => rfl) (fun _ _ _ => rfl)) rfl (lamh_of hL) hr (k := 7) (by decide) (LamX.lamS_by (by kernel_rfl)) rfl (fun _ _ _ _ _ => rfl) (fun A outer s H E fl c1 hr => (de_callC c_depends b_depends hr (by decide) rfl (takes_of rfl rfl rfl rfl) (da_cons (de_lst da_nil) (da_cons (de_tup da_nil) (da_cons (de_tup da_nil) da_nil)))))) (da_cons (de_refused R_ref sc_ref b__law_refused (fun g q => refused_gives T.x_BadArgument T.te0 rfl rfl rfl rfl rfl (by decide) (fun _ => rfl) (fun _ => rfl) (fun _ _ _ => rfl)) rfl (lamh_of hL) hr (k := 7) (by decide) (LamX.lamS_by (by kernel_rfl)) rfl (fun _ _ _ _ _ => rfl) (fun A outer s H E fl c1 hr => (de_callC c_depends b_depends hr (by decide) rfl (takes_of rfl rfl rfl rfl) (da_cons (de_var 0) (da_cons (de_tup (da_cons de_int da_nil)) (da_cons de_non da_nil)))))) (da_cons (de_refused R_ref sc_ref b__law_refused (fun g q => refused_gives T.x_BadArgument T.te0 rfl rfl rfl rfl rfl (by decide) (fun _ => rfl) (fun _ => rfl) (fun _ _ _ => rfl)) rfl (lamh_of hL) hr (k := 7) (by decide) (LamX.lamS_by (by kernel_rfl)) rfl (fun _ _ _ _ _ => rfl) (fun A outer s H E fl c1 hr => (de_callC c_depends b_depends hr (by decide) rfl (takes_of rfl rfl rfl rfl) (da_cons (de_var 0) (da_cons (de_tup (da_cons de_int da_nil)) (da_cons (de_lst (da_cons de_int da_nil)) da_nil)))))) (da_cons (de_refused R_ref sc_ref b__law_refused (fun g q => refused_gives T.x_BadArgument T.te0 rfl rfl rfl rfl rfl (by decide) (fun _ => rfl) (fun _ => rfl) (fun _ _ _ => rfl)) rfl (lamh_of hL) hr (k := 7) (by decide) (LamX.lamS_by (by kernel_rfl)) rfl (fun _ _ _ _ _ => rfl) (fun A outer s H E fl c1 hr => (de_callC c_pair_against b_pair_against hr (by decide) rfl (takes_of rfl rfl rfl rfl) (da_cons (de_var 0) (da_cons de_non (da_cons (de_tup da_nil) da_nil)))))) (da_cons (de_refused R_ref sc_ref b__law_refused (fun g q => refused_gives T.x_BadArgument T.te0 rfl rfl rfl rfl rfl (by decide) (fun _ => rfl) (fun _ => rfl) (fun _ _ _ => rfl)) rfl (lamh_of hL) hr (k := 7) (by decide) (LamX.lamS_by (by kernel_rfl)) rfl (fun _ _ _ _ _ => rfl) (fun A outer s H E fl c1 hr => (de_callC c_pair_against b_pair_against hr (by decide) rfl (takes_of rfl rfl rfl rfl) (da_cons (de_var 0) (da_cons (de_tup da_nil) (da_cons (de_tup (da_cons de_int da_nil)) da_nil)))))) (da_cons (de_refused R_ref sc_ref b__law_refused (fun g q => refused_gives T.x_BadArgument T.te0 rfl rfl rfl rfl rfl (by decide) (fun _ => rfl) (fun _ => rfl) (fun _ _ _ => rfl)) rfl (lamh_of hL) hr (k := 7) (by decide) (LamX.lamS_by (by kernel_rfl)) rfl (fun _ _ _ _ _ => rfl) (fun A outer s H E fl c1 hr => (de_callC c_told_by_measures b_told_by_measures hr (by decide) rfl (takes_of rfl rfl rfl rfl) (da_cons (de_var 0) (da_cons (de_tup (da_cons de_int (da_cons de_int da_nil))) da_nil))))) (da_cons (de_refused R_ref sc_ref b__law_refused (fun g q => refused_gives T.x_BadArgument T.te0 rfl rfl rfl rfl rfl (by decide) (fun _ => rfl) (fun _ => rfl) (fun _ _ _ => rfl)) rfl (lamh_of hL) hr (k := 7) (by decide) (LamX.lamS_by (by kernel_rfl)) rfl (fun _ _ _ _ _ => rfl) (fun A outer s H E fl c1 hr => (de_callC c_names_of b_names_of hr (by decide) rfl (takes_of rfl rfl rfl rfl) (da_cons (de_tup (da_cons (de_tup (da_cons de_int da_nil)) (da_cons (de_tup da_nil) da_nil))) da_nil)))) da_nil)))))))))) nd) (dss_cons (ds_if (dt_cmp (d_neq (hr64 hr)) (de_var 1) (de_lst (da_cons de_str (da_cons de_str (da_cons de_str (da_cons de_str (da_cons de_str (da_cons de_str (da_cons de_str (da_cons de_str (da_cons de_str da_nil)))))))))) rfl) (dss_one (ds_ret de_bl)) dss_nil) (dss_cons (ds_asg 2 (de_tup (da_cons (de_tup (da_cons de_int (da_cons de_int (da_cons de_int da_nil)))) (da_cons (de_tup (da_cons de_int (da_cons de_int (da_cons de_int da_nil)))) (da_cons (de_tup (da_cons de_int (da_cons de_int (da_cons de_int da_nil)))) da_nil)))) nd) (dss_cons (ds_if (dt_not (dt_bool (dw_and (dt_cmp (d_eq (hr64 hr)) (de_callC c_pair_table b_pair_table hr (by decide) rfl (takes_of rfl rfl rfl rfl) (da_cons (de_var 2) da_nil)) (de_tup (da_cons de_int (da_cons (de_tup (da_cons (de_tup (da_cons de_int (da_cons de_int da_nil))) (da_cons (de_tup (da_cons de_int da_nil)) (da_cons (de_tup (da_cons de_int (da_cons de_int da_nil))) da_nil)))) da_nil))) rfl) (dw_and (dt_cmp (d_eq (hr64 hr)) (de_callC c_names_of b_names_of hr (by decide) rfl (takes_of rfl rfl rfl rfl) (da_cons (de_var 2) da_nil)) (de_tup (da_cons (de_tup (da_cons de_int (da_cons de_int da_nil))) da_nil)) rfl) (dw_and1 (dt_val (de_callC c_depends b_depends hr (by decide) rfl (takes_of rfl rfl rfl rfl) (da_cons (de_var 2) (da_cons (de_tup (da_cons de_int da_nil)) (da_cons (de_tup (da_cons de_int da_nil)) da_nil)))))))))) (dss_one (ds_ret de_bl)) dss_nil) (dss_one (ds_ret (de_and (de_cmp (d_eq (hr64 hr)) (de_callC c_pair_against b_pair_against hr (by decide) rfl (takes_of rfl rfl rfl rfl) (da_cons (de_var 2) (da_cons (de_tup (da_cons de_int da_nil)) (da_cons (de_tup (da_cons de_int da_nil)) da_nil)))) (de_tup (da_cons de_int (da_cons de_int da_nil))) rfl) (de_one (de_cmp (d_eq (hr64 hr)) (de_callC c_told_by_measures b_told_by_measures hr (by decide) rfl (takes_of rfl rfl rfl rfl) (da_cons (de_var 2) (da_cons (de_tup da_nil) da_nil))) (de_tup (da_cons de_int da_nil)) rfl))))))))))
-- law ['script'] own ['dice'] slots ['script', 'spot', 'dice', 'measures', 'sets', 'rows', 'table', 'rules', 'left', 'good', 'least', 'wide', 'pairs', 'due', 'turn', 'right', 'bad', 'own', 'at', 'one', 'other']
def d_law : Env → SR := (sSeq (sFor (iRg rg1S (aCons (kCB (maxS) (aCons (kC (.int 1)) (aCons (kCB (minS) (aCons (kC (.int 5)) (aCons (kCB (on1 lenS) (aCons (kV 0) aNil)) aNil))) aNil))) aNil)) (gN 1) (sSeq (sAsgO 2 (kCall 2 m__law_dice (aCons (kV 0) (aCons (kV 1) aNil)))) (sSeq (sAsgX 3 (xCallX 3 [0] m__law_measures (xaIo 2 (xaCons (xP (kC (.int 4))) (xaCons (xP (kC (.int 4))) xaNil))))) (sSeq (sUn2 11 12 (aCons (kIf (kBl (kB gtS (kCB (on1 lenS) (aCons (kV 3) aNil)) (kC (.int 0)))) (kCB (on1 lenS) (aCons (kB ixS (kV 3) (kC (.int 0))) aNil)) (kC (.int 0))) (aCons (kCall 1 m__law_pairs (aCons (kV 3) aNil)) aNil))) (sSeq (sAsg 4 (kCall 1 m__law_sets (aCons (kV 11) aNil))) (sSeq (sAsg 5 (kCB (on1 tupS) (aCons (kComp (iVal false (kV 12)) (gT ((gN 19) :: ((gN 20) :: []))) tTrue (kCB (on1 tupS) (aCons (kComp (iRg rg1S (aCons (kV 11) aNil)) (gN 18) (kBl (kB eqS (kB ixS (kB ixS (kV 3) (kV 19)) (kV 18)) (kB ixS (kB ixS (kV 3) (kV 20)) (kV 18)))) (kV 18) [18]) aNil)) [19, 20]) aNil))) (sSeq (sAsg 6 (kTup (aCons (kV 11) (aCons (kV 5) aNil)))) (sSeq (sIf (kBl (kB neS (kCallK 1 1 m_pair_table [0] (aCons (kV 3) aNil)) (kV 6))) (sRet (kC (.bool false))) sNext) (sSeq (sAsg 7 (kCall 1 m_base (aCons (kV 6) aNil))) (sSeq (sFor (iVal true (kV 4)) (gN 8) (sSeq (sAsg 13 (kComp (iRg rg1S (aCons (kV 11) aNil)) (gN 18) (kTru (kCB (on1 allS) (aCons (kComp (iVal false (kV 12)) (gT ((gN 19) :: ((gN 20) :: []))) (kTru (kCall 3 m__law_alike (aCons (kB ixS (kV 3) (kV 19)) (aCons (kB ixS (kV 3) (kV 20)) (aCons (kV 8) aNil))))) (kB eqS (kB ixS (kB ixS (kV 3) (kV 19)) (kV 18)) (kB ixS (kB ixS (kV 3) (kV 20)) (kV 18))) [19, 20]) aNil))) (kV 18) [18])) (sSeq (sIf (tOrK (kBl (kB neS (kCallK 2 2 m_told_by_measures [1, 0] (aCons (kV 8) (aCons (kV 3) aNil))) (kCB (on1 tupS) (aCons (kV 13) aNil)))) (tOrK (kBl (kB neS (kCall 2 m_closed (aCons (kV 6) (aCons (kV 8) aNil))) (kCB (on1 tupS) (aCons (kV 13) aNil)))) (kBl (kB neS (kCall 3 m_closed_by (aCons (kV 11) (aCons (kV 7) (aCons (kV 8) aNil)))) (kCB (on1 tupS) (aCons (kV 13) aNil)))))) (sRet (kC (.bool false))) sNext) (sFor (iRg rg1S (aCons (kC (.int 2)) aNil)) (gN 14) (sSeq (sAsgX 15 (xCallX 2 [0] m__law_pick (xaIo 2 (xaCons (xP (kV 4)) xaNil)))) (sSeq (sAsg 16 (kComp (iVal false (kV 12)) (gT ((gN 19) :: ((gN 20) :: []))) (tAndK (kTru (kCall 3 m__law_alike (aCons (kB ixS (kV 3) (kV 19)) (aCons (kB ixS (kV 3) (kV 20)) (aCons (kV 8) aNil))))) (tNotK (kTru (kCall 3 m__law_alike (aCons (kB ixS (kV 3) (kV 19)) (aCons (kB ixS (kV 3) (kV 20)) (aCons (kV 15) aNil))))))) (kTup (aCons (kV 19) (aCons (kV 20) aNil))) [19, 20])) (sSeq (sIf (tOrK (kBl (kB neS (kCallK 3 3 m_depends [2, 1, 0] (aCons (kV 15) (aCons (kV 8) (aCons (kV 3) aNil)))) (kB eqS (kCB (on1 lenS) (aCons (kV 16) aNil)) (kC (.int 0))))) (kBl (kB neS (kCall 2 m_holds (aCons (kV 6) (aCons (kTup (aCons (kV 8) (aCons (kV 15) aNil))) aNil))) (kB eqS (kCB (on1 lenS) (aCons (kV 16) aNil)) (kC (.int 0)))))) (sRet (kC (.bool false))) sNext) (sIf (kBl (kB neS (kCallK 3 3 m_pair_against [2, 1, 0] (aCons (kV 15) (aCons (kV 8) (aCons (kV 3) aNil)))) (kIf (kBl (kB gtS (kCB (on1 lenS) (aCons (kV 16) aNil)) (kC (.int 0)))) (kB ixS (kV 16) (kC (.int 0))) (kC .none)))) (sRet (kC (.bool false))) sNext)))))))) (sSeq (sAsg 9 (kComp (iVal false (kV 4)) (gN 17) (kBl (kB eqS (kCB (on1 lenS) (aCons (kCall 2 m_closed (aCons (kV 6) (aCons (kV 17) aNil))) aNil)) (kV 11))) (kV 17) [17])) (sSeq (sAsg 10 (kComp (iVal false (kV 9)) (gN 17) (tNotK (kTru (kCB (on1 anyS) (aCons (kComp (iVal false (kV 9)) (gN 20) tTrue (kAnd (kB neS (kV 20) (kV 17)) (kCall 2 m__law_has (aCons (kV 17) (aCons (kV 20) aNil)))) [20]) aNil)))) (kV 17) [17])) (sIf (kBl (kB neS (kCallK 1 1 m_names_of [0] (aCons (kV 3) aNil)) (kCB (on1 tupS) (aCons (kV 10) aNil)))) (sRet (kC (.bool false))) sNext))))))))))))) (sRet (kCall0 0 m__law_last)))
def m_law : List S → R S := fun as => fin (d_law (entry 21 as))
theorem ok_law (T : Txt P K mg C) (F : Fact K mg "law" s_law) (c__law_dice : Cal P w K mg base 2 "_law_dice" s__law_dice ["script", "spot"] (spD K C 2 m__law_dice)) (c__law_measures : Cal P w K mg base 4 "_law_measures" s__law_measures ["dice", "shells", "wide"] (spX K C 3 [0] m__law_measures)) (c__law_pairs : Cal P w K mg base 2 "_law_pairs" s__law_pairs ["measures"] (spD K C 1 m__law_pairs)) (c__law_sets : Cal P w K mg base 2 "_law_sets" s__law_sets ["many"] (spD K C 1 m__law_sets)) (c_pair_table : Cal P w K mg base 5 "pair_table" s_pair_table ["measures"] (spD K C 1 m_pair_table)) (c_base : Cal P w K mg base 9 "base" s_base ["table"] (spD K C 1 m_base)) (c__law_alike : Cal P w K mg base 2 "_law_alike" s__law_alike ["one", "other", "measures"] (spD K C 3 m__law_alike)) (c_closed_by : Cal P w K mg base 8 "closed_by" s_closed_by ["many", "rules", "marks"] (spD K C 3 m_closed_by)) (c_closed : Cal P w K mg base 8 "closed" s_closed ["table", "marks"] (spD K C 2 m_closed)) (c_told_by_measures : Cal P w K mg base 5 "told_by_measures" s_told_by_measures ["measures", "left"] (spD K C 2 m_told_by_measures)) (c__law_pick : Cal P w K mg base 3 "_law_pick" s__law_pick ["dice", "things"] (spX K C 2 [0] m__law_pick)) (c_holds : Cal P w K mg base 9 "holds" s_holds ["table", "rule"] (spD K C 2 m_holds)) (c_depends : Cal P w K mg base 5 "depends" s_depends ["measures", "left", "right"] (spD K C 3 m_depends)) (c_pair_against : Cal P w K mg base 5 "pair_against" s_pair_against ["measures", "left", "right"] (spD K C 3 m_pair_against)) (c__law_has : Cal P w K mg base 2 "_law_has" s__law_has ["row", "marks"] (spD K C 2 m__law_has)) (c_names_of : Cal P w K mg base 7 "names_of" s_names_of ["measures"] (spD K C 1 m_names_of)) (c__law_last : Cal P w K mg base 10 "_law_last" s__law_last [] (spD K C 0 m__law_last)) : Cal P w K mg base 11 "law" s_law ["script"] (spD K C 1 m_law) := by
  have nd : (["script", "spot", "dice", "measures", "sets", "rows", "table", "rules", "left", "good", "least", "wide", "pairs", "due", "turn", "right", "bad", "own", "at", "one", "other"] : List Str).Nodup := by decide +kernel
  exact cal_of (N := ["script", "spot", "dice", "measures", "sets", "rows", "table", "rules", "left", "good", "least", "wide", "pairs", "due", "turn", "right", "bad", "own", "at", "one", "other"]) (k := 10) (body := d_law) F ⟨rfl, rfl, rfl, nd, rfl, by decide +kernel, by decide +kernel⟩ fun fa cdv A outer s H E hr => (dss_cons (ds_for (passes_of rfl) rfl (di_range1 rfl T.b_range (da_cons (de_callB (c_max rfl) rfl T.b_max (by boot_by_name) (da_cons de_int (da_cons (de_callB (c_min rfl) rfl T.b_min (by boot_by_name) (da_cons de_int (da_cons (de_callB (c_len) rfl T.b_len (by boot_by_name) (da_cons (de_var 0) da_nil)) da_nil))) da_nil))) da_nil)) (dg_name 1 nd) (dss_cons (ds_asgO 2 (de_callC c__law_dice b__law_dice hr (by decide) rfl (takes_of rfl rfl rfl rfl) (da_cons (de_var 0) (da_cons (de_var 1) da_nil))) nd) (dss_cons (ds_asgX 3 (dx_callCX c__law_measures b__law_measures hr (by decide) rfl (dxa_io 2 (dxa_cons (dx_pure de_int) (dxa_cons (dx_pure de_int) dxa_nil)))) nd) (dss_cons (ds_un2 11 12 rfl nd (da_cons (de_if (dt_cmp d_gt (de_callB (c_len) rfl T.b_len (by boot_by_name) (da_cons (de_var 3) da_nil)) de_int rfl) (de_callB (c_len) rfl T.b_len (by boot_by_name) (da_cons (de_ix (de_var 3) de_int) da_nil)) de_int) (da_cons (de_callC c__law_pairs b__law_pairs hr (by decide) rfl (takes_of rfl rfl rfl rfl) (da_cons (de_var 3) da_nil)) da_nil))) (dss_cons (ds_asg 4 (de_callC c__law_sets b__law_sets hr (by decide) rfl (takes_of rfl rfl rfl rfl) (da_cons (de_var 11) da_nil)) nd) (dss_cons (ds_asg 5 (de_callTy c_tuple rfl T.b_tuple (by boot_by_name) (da_cons (de_lcW [("one", 19), ("other", 20)] rfl nd (di_val (de_var 12)) (blkOk_by (by kernel_rfl)) (fun _ _ _ _ _ => (dg_tup rfl (dgs_cons (dg_name 19 nd) (dgs_cons (dg_name 20 nd) dgs_nil)))) (fun _ _ _ _ _ => dts_nil) (fun _ _ _ _ _ => (de_callTy c_tuple rfl T.b_tuple (by boot_by_name) (da_cons (de_lcW [("at", 18)] rfl nd (di_range1 rfl T.b_range (da_cons (de_var 11) da_nil)) (blkOk_by (by kernel_rfl)) (fun _ _ _ _ _ => (dg_name 18 nd)) (fun _ _ _ _ _ => (dts_one (dt_cmp (d_eq (hr64 hr)) (de_ix (de_ix (de_var 3) (de_var 19)) (de_var 18)) (de_ix (de_ix (de_var 3) (de_var 20)) (de_var 18)) rfl))) (fun _ _ _ _ _ => (de_var 18))) da_nil)))) da_nil)) nd) (dss_cons (ds_asg 6 (de_tup (da_cons (de_var 11) (da_cons (de_var 5) da_nil))) nd) (dss_cons (ds_if (dt_cmp (d_neq (hr64 hr)) (de_callCK (ks := ["measures"]) (is := [0]) c_pair_table (fun _ _ _ _ _ _ us hl => match us, hl with | [_], _ => rfl) hr (by decide) rfl (takes_of rfl rfl rfl rfl) (dk_cons (de_var 3) dk_nil)) (de_var 6) rfl) (dss_one (ds_ret de_bl)) dss_nil) (dss_cons (ds_asg 7 (de_callC c_base b_base hr (by decide) rfl (takes_of rfl rfl rfl rfl) (da_cons (de_var 6) da_nil)) nd) (dss_cons (ds_for (passes_of rfl) rfl (di_val (de_var 4)) (dg_name 8 nd) (dss_cons (ds_asgLcW 13 [("at", 18)] rfl nd (di_range1 rfl T.b_range (da_cons (de_var 11) da_nil)) (blkOk_by (by kernel_rfl)) (fun _ _ _ _ _ => (dg_name 18 nd)) (fun _ _ _ _ _ => (dts_one (dt_val (de_callB (c_all rfl) rfl T.b_all (by boot_by_name) (da_cons (de_lcW [("one", 19), ("other", 20)] rfl nd (di_val (de_var 12)) (blkOk_by (by kernel_rfl)) (fun _ _ _ _ _ => (dg_tup rfl (dgs_cons (dg_name 19 nd) (dgs_cons (dg_name 20 nd) dgs_nil)))) (fun _ _ _ _ _ => (dts_one (dt_val (de_callC c__law_alike b__law_alike hr (by decide) rfl takes0 (da_cons (de_ix (de_var 3) (de_var 19)) (da_cons (de_ix (de_var 3) (de_var 20)) (da_cons (de_var 8) da_nil))))))) (fun _ _ _ _ _ => (de_cmp (d_eq (hr64 hr)) (de_ix (de_ix (de_var 3) (de_var 19)) (de_var 18)) (de_ix (de_ix (de_var 3) (de_var 20)) (de_var 18)) rfl))) da_nil))))) (fun _ _ _ _ _ => (de_var 18))) (dss_cons (ds_if (dt_bool (dw_or (dt_cmp (d_neq (hr64 hr)) (de_callCK (ks := ["left", "measures"]) (is := [1, 0]) c_told_by_measures (fun _ _ _ _ _ _ us hl => match us, hl with | [_, _], _ => rfl) hr (by decide) rfl (takes_of rfl rfl rfl rfl) (dk_cons (de_var 8) (dk_cons (de_var 3) dk_nil))) (de_callTy c_tuple rfl T.b_tuple (by boot_by_name) (da_cons (de_var 13) da_nil)) rfl) (dw_or (dt_cmp (d_neq (hr64 hr)) (de_callC c_closed b_closed hr (by decide) rfl (takes_of rfl rfl rfl rfl) (da_cons (de_var 6) (da_cons (de_var 8) da_nil))) (de_callTy c_tuple rfl T.b_tuple (by boot_by_name) (da_cons (de_var 13) da_nil)) rfl) (dw_or1 (dt_cmp (d_neq (hr64 hr)) (de_callC c_closed_by b_closed_by hr (by decide) rfl (takes_of rfl rfl rfl rfl) (da_cons (de_var 11) (da_cons (de_var 7) (da_cons (de_var 8) da_nil)))) (de_callTy c_tuple rfl T.b_tuple (by boot_by_name) (da_cons (de_var 13) da_nil)) rfl))))) (dss_one (ds_ret de_bl)) dss_nil) (dss_one (ds_for (passes_of rfl) rfl (di_range1 rfl T.b_range (da_cons de_int da_nil)) (dg_name 14 nd) (dss_cons (ds_asgX 15 (dx_callCX c__law_pick b__law_pick hr (by decide) rfl (dxa_io 2 (dxa_cons (dx_pure (de_var 4)) dxa_nil))) nd) (dss_cons (ds_asgLcW 16 [("one", 19), ("other", 20)] rfl nd (di_val (de_var 12)) (blkOk_by (by kernel_rfl)) (fun _ _ _ _ _ => (dg_tup rfl (dgs_cons (dg_name 19 nd) (dgs_cons (dg_name 20 nd) dgs_nil)))) (fun _ _ _ _ _ => (dts_one (dt_bool (dw_and (dt_val (de_callC c__law_alike b__law_alike hr (by decide) rfl takes0 (da_cons (de_ix (de_var 3) (de_var 19)) (da_cons (de_ix (de_var 3) (de_var 20)) (da_cons (de_var 8) da_nil))))) (dw_and1 (dt_not (dt_val (de_callC c__law_alike b__law_alike hr (by decide) rfl takes0 (da_cons (de_ix (de_var 3) (de_var 19)) (da_cons (de_ix (de_var 3) (de_var 20)) (da_cons (de_var 15) da_nil))))))))))) (fun _ _ _ _ _ => (de_tup (da_cons (de_var 19) (da_cons (de_var 20) da_nil))))) (dss_cons (ds_if (dt_bool (dw_or (dt_cmp (d_neq (hr64 hr)) (de_callCK (ks := ["right", "left", "measures"]) (is := [2, 1, 0]) c_depends (fun _ _ _ _ _ _ us hl => match us, hl with | [_, _, _], _ => rfl) hr (by decide) rfl (takes_of rfl rfl rfl rfl) (dk_cons (de_var 15) (dk_cons (de_var 8) (dk_cons (de_var 3) dk_nil)))) (de_cmp (d_eq (hr64 hr)) (de_callB (c_len) rfl T.b_len (by boot_by_name) (da_cons (de_var 16) da_nil)) de_int rfl) rfl) (dw_or1 (dt_cmp (d_neq (hr64 hr)) (de_callC c_holds b_holds hr (by decide) rfl (takes_of rfl rfl rfl rfl) (da_cons (de_var 6) (da_cons (de_tup (da_cons (de_var 8) (da_cons (de_var 15) da_nil))) da_nil))) (de_cmp (d_eq (hr64 hr)) (de_callB (c_len) rfl T.b_len (by boot_by_name) (da_cons (de_var 16) da_nil)) de_int rfl) rfl)))) (dss_one (ds_ret de_bl)) dss_nil) (dss_one (ds_if (dt_cmp (d_neq (hr64 hr)) (de_callCK (ks := ["right", "left", "measures"]) (is := [2, 1, 0]) c_pair_against (fun _ _ _ _ _ _ us hl => match us, hl with | [_, _, _], _ => rfl) hr (by decide) rfl (takes_of rfl rfl rfl rfl) (dk_cons (de_var 15) (dk_cons (de_var 8) (dk_cons (de_var 3) dk_nil)))) (de_if (dt_cmp d_gt (de_callB (c_len) rfl T.b_len (by boot_by_name) (da_cons (de_var 16) da_nil)) de_int rfl) (de_ix (de_var 16) de_int) de_non) rfl) (dss_one (ds_ret de_bl)) dss_nil)))))))))) (dss_cons (ds_asg 9 (de_lcW [("own", 17)] rfl nd (di_val (de_var 4)) (blkOk_by (by kernel_rfl)) (fun _ _ _ _ _ => (dg_name 17 nd)) (fun _ _ _ _ _ => (dts_one (dt_cmp (d_eq (hr64 hr)) (de_callB (c_len) rfl T.b_len (by boot_by_name) (da_cons (de_callC c_closed b_closed hr (by decide) rfl takes0 (da_cons (de_var 6) (da_cons (de_var 17) da_nil))) da_nil)) (de_var 11) rfl))) (fun _ _ _ _ _ => (de_var 17))) nd) (dss_cons (ds_asgLcW 10 [("own", 17)] rfl nd (di_val (de_var 9)) (blkOk_by (by kernel_rfl)) (fun _ _ _ _ _ => (dg_name 17 nd)) (fun _ _ _ _ _ => (dts_one (dt_not (dt_val (de_callB (c_any rfl) rfl T.b_any (by boot_by_name) (da_cons (de_lcW [("other", 20)] rfl nd (di_val (de_var 9)) (blkOk_by (by kernel_rfl)) (fun _ _ _ _ _ => (dg_name 20 nd)) (fun _ _ _ _ _ => dts_nil) (fun _ _ _ _ _ => (de_and (de_cmp (d_neq (hr64 hr)) (de_var 20) (de_var 17) rfl) (de_one (de_callC c__law_has b__law_has hr (by decide) rfl takes0 (da_cons (de_var 17) (da_cons (de_var 20) da_nil))))))) da_nil)))))) (fun _ _ _ _ _ => (de_var 17))) (dss_one (ds_if (dt_cmp (d_neq (hr64 hr)) (de_callCK (ks := ["measures"]) (is := [0]) c_names_of (fun _ _ _ _ _ _ us hl => match us, hl with | [_], _ => rfl) hr (by decide) rfl (takes_of rfl rfl rfl rfl) (dk_cons (de_var 3) dk_nil)) (de_callTy c_tuple rfl T.b_tuple (by boot_by_name) (da_cons (de_var 10) da_nil)) rfl) (dss_one (ds_ret de_bl)) dss_nil)))))))))))))) (dss_one (ds_ret (de_callC0 c__law_last b__law_last hr (by decide) rfl))))
end
end G
end DL

set_option Elab.async false
set_option linter.all false
set_option maxRecDepth 100000
set_option maxHeartbeats 0
namespace DL
namespace G
open PySem PySem.Spec L2
abbrev pr : Program := PySem.Challenge.pw_shellmarks_k13_whole_measures_that_depen
def asks : Hd.Ask where
  n := 6
  fa := [.free "abs",
    .free "all",
    .free "any",
    .free "bool",
    .free "dict",
    .free "enumerate",
    .free "int",
    .free "isinstance",
    .free "len",
    .free "list",
    .free "max",
    .free "min",
    .free "range",
    .free "sorted",
    .free "sum",
    .free "tuple",
    .free "zip",
    .free "super",
    .int "GREATEST" 99,
    .int "MOST_MARKS" 6,
    .int "MOST_MEASURED" 6,
    .int "MOST_MEASURES" 4,
    .int "MOST_RULES" 64,
    .int "MOST_SHELLS" 8,
    .glo "BadArgument",
    .exm "BadArgument" "BadArgument" true,
    .cls "Grid",
    .glo "Grid",
    .mkr "Grid",
    .noat "Grid" "many",
    .noat "Grid" "rows",
    .noat "Grid" "every",
    .noat "Grid" "all_shells",
    .noat "Grid" "columns",
    .glo "demand",
    .glo "is_in",
    .glo "is_tuple",
    .glo "are_in",
    .glo "is_set",
    .glo "mask_of",
    .glo "members_of",
    .glo "set_key",
    .glo "ordered",
    .glo "_law_refused",
    .glo "all_masks",
    .glo "is_part",
    .glo "is_table",
    .glo "demand_table",
    .glo "demand_marks",
    .meth "Grid" "common",
    .meth "Grid" "having",
    .meth "Grid" "closed",
    .glo "closed",
    .glo "is_rule",
    .glo "are_rules",
    .glo "demand_rule",
    .glo "demand_rules",
    .glo "masks_of",
    .glo "obeys",
    .glo "shell_against",
    .glo "holds",
    .glo "closed_mask",
    .glo "closed_by",
    .glo "heads_of",
    .glo "closed_all",
    .glo "base_masks",
    .glo "as_rules",
    .glo "base",
    .glo "are_measures",
    .glo "demand_measures",
    .glo "wide_of",
    .glo "pair_table",
    .glo "alike_masks",
    .glo "depends",
    .glo "told_by_measures",
    .glo "names_of",
    .glo "pair_against",
    .glo "_law_dice",
    .glo "_law_roll",
    .glo "_law_pick",
    .glo "_law_sets",
    .glo "_law_table",
    .glo "_law_has",
    .glo "_law_common",
    .glo "_law_having",
    .glo "_law_closed",
    .glo "_law_every",
    .glo "_law_measures",
    .glo "_law_alike",
    .glo "_law_pairs",
    .glo "_law_last",
    .glo "law"]
  fn := [⟨("BadArgument", some "__init__"), "__init__", "BadArgument.__init__", PySem.XOwn.xA "name" ⟨9, 17, 9, 21⟩ ⟨9, 23, 9, 27⟩, PySem.XOwn.xBd "name" ⟨10, 8, 10, 13⟩ ⟨10, 8, 10, 15⟩ ⟨10, 8, 10, 24⟩ ⟨10, 25, 10, 29⟩ ⟨10, 8, 10, 30⟩ ⟨10, 8, 10, 30⟩ ⟨11, 8, 11, 12⟩ ⟨11, 8, 11, 17⟩ ⟨11, 20, 11, 24⟩ ⟨11, 8, 11, 24⟩, PySem.XOwn.xSc "name", ["__class__"]⟩,
    ⟨("demand", none), "demand", "demand", defArgs s_demand, defBody s_demand, defScope s_demand, []⟩,
    ⟨("is_in", none), "is_in", "is_in", defArgs s_is_in, defBody s_is_in, defScope s_is_in, []⟩,
    ⟨("is_tuple", none), "is_tuple", "is_tuple", defArgs s_is_tuple, defBody s_is_tuple, defScope s_is_tuple, []⟩,
    ⟨("are_in", none), "are_in", "are_in", defArgs s_are_in, defBody s_are_in, defScope s_are_in, []⟩,
    ⟨("is_set", none), "is_set", "is_set", defArgs s_is_set, defBody s_is_set, defScope s_is_set, []⟩,
    ⟨("mask_of", none), "mask_of", "mask_of", defArgs s_mask_of, defBody s_mask_of, defScope s_mask_of, []⟩,
    ⟨("members_of", none), "members_of", "members_of", defArgs s_members_of, defBody s_members_of, defScope s_members_of, []⟩,
    ⟨("set_key", none), "set_key", "set_key", defArgs s_set_key, defBody s_set_key, defScope s_set_key, []⟩,
    ⟨("ordered", none), "ordered", "ordered", defArgs s_ordered, defBody s_ordered, defScope s_ordered, []⟩,
    ⟨("_law_refused", none), "_law_refused", "_law_refused", defArgs s__law_refused, defBody s__law_refused, defScope s__law_refused, []⟩,
    ⟨("all_masks", none), "all_masks", "all_masks", defArgs s_all_masks, defBody s_all_masks, defScope s_all_masks, []⟩,
    ⟨("is_part", none), "is_part", "is_part", defArgs s_is_part, defBody s_is_part, defScope s_is_part, []⟩,
    ⟨("is_table", none), "is_table", "is_table", defArgs s_is_table, defBody s_is_table, defScope s_is_table, []⟩,
    ⟨("demand_table", none), "demand_table", "demand_table", defArgs s_demand_table, defBody s_demand_table, defScope s_demand_table, []⟩,
    ⟨("demand_marks", none), "demand_marks", "demand_marks", defArgs s_demand_marks, defBody s_demand_marks, defScope s_demand_marks, []⟩,
    ⟨("Grid", some "common"), "common", "Grid.common", defArgs s_Grid_common, defBody s_Grid_common, defScope s_Grid_common, []⟩,
    ⟨("Grid", some "having"), "having", "Grid.having", defArgs s_Grid_having, defBody s_Grid_having, defScope s_Grid_having, []⟩,
    ⟨("Grid", some "closed"), "closed", "Grid.closed", defArgs s_Grid_closed, defBody s_Grid_closed, defScope s_Grid_closed, []⟩,
    ⟨("Grid", some "__init__"), "__init__", "Grid.__init__", defArgs s_Grid_init, defBody s_Grid_init, defScope s_Grid_init, []⟩,
    ⟨("closed", none), "closed", "closed", defArgs s_closed, defBody s_closed, defScope s_closed, []⟩,
    ⟨("is_rule", none), "is_rule", "is_rule", defArgs s_is_rule, defBody s_is_rule, defScope s_is_rule, []⟩,
    ⟨("are_rules", none), "are_rules", "are_rules", defArgs s_are_rules, defBody s_are_rules, defScope s_are_rules, []⟩,
    ⟨("demand_rule", none), "demand_rule", "demand_rule", defArgs s_demand_rule, defBody s_demand_rule, defScope s_demand_rule, []⟩,
    ⟨("demand_rules", none), "demand_rules", "demand_rules", defArgs s_demand_rules, defBody s_demand_rules, defScope s_demand_rules, []⟩,
    ⟨("masks_of", none), "masks_of", "masks_of", defArgs s_masks_of, defBody s_masks_of, defScope s_masks_of, []⟩,
    ⟨("obeys", none), "obeys", "obeys", defArgs s_obeys, defBody s_obeys, defScope s_obeys, []⟩,
    ⟨("shell_against", none), "shell_against", "shell_against", defArgs s_shell_against, defBody s_shell_against, defScope s_shell_against, []⟩,
    ⟨("holds", none), "holds", "holds", defArgs s_holds, defBody s_holds, defScope s_holds, []⟩,
    ⟨("closed_mask", none), "closed_mask", "closed_mask", defArgs s_closed_mask, defBody s_closed_mask, defScope s_closed_mask, []⟩,
    ⟨("closed_by", none), "closed_by", "closed_by", defArgs s_closed_by, defBody s_closed_by, defScope s_closed_by, []⟩,
    ⟨("heads_of", none), "heads_of", "heads_of", defArgs s_heads_of, defBody s_heads_of, defScope s_heads_of, []⟩,
    ⟨("closed_all", none), "closed_all", "closed_all", defArgs s_closed_all, defBody s_closed_all, defScope s_closed_all, []⟩,
    ⟨("base_masks", none), "base_masks", "base_masks", defArgs s_base_masks, defBody s_base_masks, defScope s_base_masks, []⟩,
    ⟨("as_rules", none), "as_rules", "as_rules", defArgs s_as_rules, defBody s_as_rules, defScope s_as_rules, []⟩,
    ⟨("base", none), "base", "base", defArgs s_base, defBody s_base, defScope s_base, []⟩,
    ⟨("are_measures", none), "are_measures", "are_measures", defArgs s_are_measures, defBody s_are_measures, defScope s_are_measures, []⟩,
    ⟨("demand_measures", none), "demand_measures", "demand_measures", defArgs s_demand_measures, defBody s_demand_measures, defScope s_demand_measures, []⟩,
    ⟨("wide_of", none), "wide_of", "wide_of", defArgs s_wide_of, defBody s_wide_of, defScope s_wide_of, []⟩,
    ⟨("pair_table", none), "pair_table", "pair_table", defArgs s_pair_table, defBody s_pair_table, defScope s_pair_table, []⟩,
    ⟨("alike_masks", none), "alike_masks", "alike_masks", defArgs s_alike_masks, defBody s_alike_masks, defScope s_alike_masks, []⟩,
    ⟨("depends", none), "depends", "depends", defArgs s_depends, defBody s_depends, defScope s_depends, []⟩,
    ⟨("told_by_measures", none), "told_by_measures", "told_by_measures", defArgs s_told_by_measures, defBody s_told_by_measures, defScope s_told_by_measures, []⟩,
    ⟨("names_of", none), "names_of", "names_of", defArgs s_names_of, defBody s_names_of, defScope s_names_of, []⟩,
    ⟨("pair_against", none), "pair_against", "pair_against", defArgs s_pair_against, defBody s_pair_against, defScope s_pair_against, []⟩,
    ⟨("_law_dice", none), "_law_dice", "_law_dice", defArgs s__law_dice, defBody s__law_dice, defScope s__law_dice, []⟩,
    ⟨("_law_roll", none), "_law_roll", "_law_roll", defArgs s__law_roll, defBody s__law_roll, defScope s__law_roll, []⟩,
    ⟨("_law_pick", none), "_law_pick", "_law_pick", defArgs s__law_pick, defBody s__law_pick, defScope s__law_pick, []⟩,
    ⟨("_law_sets", none), "_law_sets", "_law_sets", defArgs s__law_sets, defBody s__law_sets, defScope s__law_sets, []⟩,
    ⟨("_law_table", none), "_law_table", "_law_table", defArgs s__law_table, defBody s__law_table, defScope s__law_table, []⟩,
    ⟨("_law_has", none), "_law_has", "_law_has", defArgs s__law_has, defBody s__law_has, defScope s__law_has, []⟩,
    ⟨("_law_common", none), "_law_common", "_law_common", defArgs s__law_common, defBody s__law_common, defScope s__law_common, []⟩,
    ⟨("_law_having", none), "_law_having", "_law_having", defArgs s__law_having, defBody s__law_having, defScope s__law_having, []⟩,
    ⟨("_law_closed", none), "_law_closed", "_law_closed", defArgs s__law_closed, defBody s__law_closed, defScope s__law_closed, []⟩,
    ⟨("_law_every", none), "_law_every", "_law_every", defArgs s__law_every, defBody s__law_every, defScope s__law_every, []⟩,
    ⟨("_law_measures", none), "_law_measures", "_law_measures", defArgs s__law_measures, defBody s__law_measures, defScope s__law_measures, []⟩,
    ⟨("_law_alike", none), "_law_alike", "_law_alike", defArgs s__law_alike, defBody s__law_alike, defScope s__law_alike, []⟩,
    ⟨("_law_pairs", none), "_law_pairs", "_law_pairs", defArgs s__law_pairs, defBody s__law_pairs, defScope s__law_pairs, []⟩,
    ⟨("_law_last", none), "_law_last", "_law_last", defArgs s__law_last, defBody s__law_last, defScope s__law_last, []⟩,
    ⟨("law", none), "law", "law", defArgs s_law, defBody s_law, defScope s_law, []⟩]
  tf := [("ordered", none), ("all_masks", none), ("_law_last", none)]
  xs := [("BadArgument", "name")]
  file := "/claim/cut.py"
def cfg (K : PySem.W.Frag) : Cfg where
  cls := fun _ => He.ga K "Grid"
  exc := fun k => match k with | 0 => He.ga K "BadArgument" | _ => 0
  fld := fun k => match k with | 0 => "name" | _ => ""
  fl := fun _ => (["many", "rows", "every", "all_shells", "columns"] : List Str)
  T := Hd.tabl asks K
theorem txt_of {h : Heap} {K : PySem.W.Frag} {mg : Str → Option Value} (X : K.In h) (G : h.Ns mainGlobals mg) (c : Hd.Says asks h K) : Txt pr K mg (cfg K) where
  b_abs := He.free_ok X G (c.fa _ (List.mem_of_getElem? (i := 0) rfl))
  b_all := He.free_ok X G (c.fa _ (List.mem_of_getElem? (i := 1) rfl))
  b_any := He.free_ok X G (c.fa _ (List.mem_of_getElem? (i := 2) rfl))
  b_bool := He.free_ok X G (c.fa _ (List.mem_of_getElem? (i := 3) rfl))
  b_dict := He.free_ok X G (c.fa _ (List.mem_of_getElem? (i := 4) rfl))
  b_enumerate := He.free_ok X G (c.fa _ (List.mem_of_getElem? (i := 5) rfl))
  b_int := He.free_ok X G (c.fa _ (List.mem_of_getElem? (i := 6) rfl))
  b_isinstance := He.free_ok X G (c.fa _ (List.mem_of_getElem? (i := 7) rfl))
  b_len := He.free_ok X G (c.fa _ (List.mem_of_getElem? (i := 8) rfl))
  b_list := He.free_ok X G (c.fa _ (List.mem_of_getElem? (i := 9) rfl))
  b_max := He.free_ok X G (c.fa _ (List.mem_of_getElem? (i := 10) rfl))
  b_min := He.free_ok X G (c.fa _ (List.mem_of_getElem? (i := 11) rfl))
  b_range := He.free_ok X G (c.fa _ (List.mem_of_getElem? (i := 12) rfl))
  b_sorted := He.free_ok X G (c.fa _ (List.mem_of_getElem? (i := 13) rfl))
  b_sum := He.free_ok X G (c.fa _ (List.mem_of_getElem? (i := 14) rfl))
  b_tuple := He.free_ok X G (c.fa _ (List.mem_of_getElem? (i := 15) rfl))
  b_zip := He.free_ok X G (c.fa _ (List.mem_of_getElem? (i := 16) rfl))
  c_GREATEST := He.int_ok X G (c.fa _ (List.mem_of_getElem? (i := 18) rfl))
  c_MOST_MARKS := He.int_ok X G (c.fa _ (List.mem_of_getElem? (i := 19) rfl))
  c_MOST_MEASURED := He.int_ok X G (c.fa _ (List.mem_of_getElem? (i := 20) rfl))
  c_MOST_MEASURES := He.int_ok X G (c.fa _ (List.mem_of_getElem? (i := 21) rfl))
  c_MOST_RULES := He.int_ok X G (c.fa _ (List.mem_of_getElem? (i := 22) rfl))
  c_MOST_SHELLS := He.int_ok X G (c.fa _ (List.mem_of_getElem? (i := 23) rfl))
  x_BadArgument := c.xfact X G (p1 := ⟨9, 17, 9, 21⟩) (p2 := ⟨9, 23, 9, 27⟩) (q1 := ⟨10, 8, 10, 13⟩) (q2 := ⟨10, 8, 10, 15⟩) (q3 := ⟨10, 8, 10, 24⟩) (q4 := ⟨10, 25, 10, 29⟩) (q5 := ⟨10, 8, 10, 30⟩) (q6 := ⟨10, 8, 10, 30⟩) (q7 := ⟨11, 8, 11, 12⟩) (q8 := ⟨11, 8, 11, 17⟩) (q9 := ⟨11, 20, 11, 24⟩) (q10 := ⟨11, 8, 11, 24⟩) (List.mem_of_getElem? (i := 0) rfl) rfl rfl (List.mem_of_getElem? (i := 0) rfl) (List.mem_of_getElem? (i := 24) rfl) (List.mem_of_getElem? (i := 17) rfl) (by decide +kernel) (by decide +kernel) (fun env => ⟨⟨_, rfl⟩, rfl⟩)
  te0 := He.exm_ok (c.fa _ (List.mem_of_getElem? (i := 25) rfl))
  cls0 := He.cls_ok (c.fa _ (List.mem_of_getElem? (i := 26) rfl))
  fl0 := rfl
  na_many := He.noat_ok (c.fa _ (List.mem_of_getElem? (i := 29) rfl))
  na_rows := He.noat_ok (c.fa _ (List.mem_of_getElem? (i := 30) rfl))
  na_every := He.noat_ok (c.fa _ (List.mem_of_getElem? (i := 31) rfl))
  na_all_shells := He.noat_ok (c.fa _ (List.mem_of_getElem? (i := 32) rfl))
  na_columns := He.noat_ok (c.fa _ (List.mem_of_getElem? (i := 33) rfl))
theorem chain {w : World} {h base : Heap} {K : PySem.W.Frag} {mg : Str → Option Value} (X : K.In h) (G : h.Ns mainGlobals mg) (c : Hd.Says asks h K) (tb : ∀ p ∈ asks.tf.map (He.cT K), LamX.TabB base mg p.1 p.2) : Cal pr w K mg base 11 "law" s_law ["script"] (spD K (cfg K) 1 m_law) := by
  have tx := txt_of X G c
  obtain ⟨cdR, e_ref, rr⟩ := c.factC (x := "_law_refused") (st := s__law_refused) X G (List.mem_of_getElem? (i := 10) rfl) (List.mem_of_getElem? (i := 43) rfl)
  have k_demand := ok_demand (P := pr) (w := w) (base := base) (C := cfg K) (T := tx) (F := c.fact (x := "demand") (st := s_demand) X G (List.mem_of_getElem? (i := 1) rfl) (List.mem_of_getElem? (i := 34) rfl))
  have k_is_in := ok_is_in (P := pr) (w := w) (base := base) (C := cfg K) (T := tx) (F := c.fact (x := "is_in") (st := s_is_in) X G (List.mem_of_getElem? (i := 2) rfl) (List.mem_of_getElem? (i := 35) rfl))
  have k_is_tuple := ok_is_tuple (P := pr) (w := w) (base := base) (C := cfg K) (T := tx) (F := c.fact (x := "is_tuple") (st := s_is_tuple) X G (List.mem_of_getElem? (i := 3) rfl) (List.mem_of_getElem? (i := 36) rfl))
  have k_are_in := ok_are_in (P := pr) (w := w) (base := base) (C := cfg K) (T := tx) (F := c.fact (x := "are_in") (st := s_are_in) X G (List.mem_of_getElem? (i := 4) rfl) (List.mem_of_getElem? (i := 37) rfl)) (c_is_in := k_is_in) (c_is_tuple := k_is_tuple)
  have k_is_set := ok_is_set (P := pr) (w := w) (base := base) (C := cfg K) (T := tx) (F := c.fact (x := "is_set") (st := s_is_set) X G (List.mem_of_getElem? (i := 5) rfl) (List.mem_of_getElem? (i := 38) rfl)) (c_are_in := k_are_in)
  have k_mask_of := ok_mask_of (P := pr) (w := w) (base := base) (C := cfg K) (T := tx) (F := c.fact (x := "mask_of") (st := s_mask_of) X G (List.mem_of_getElem? (i := 6) rfl) (List.mem_of_getElem? (i := 39) rfl))
  have k_members_of := ok_members_of (P := pr) (w := w) (base := base) (C := cfg K) (T := tx) (F := c.fact (x := "members_of") (st := s_members_of) X G (List.mem_of_getElem? (i := 7) rfl) (List.mem_of_getElem? (i := 40) rfl))
  have k_set_key := ok_set_key (P := pr) (w := w) (base := base) (C := cfg K) (T := tx) (F := c.fact (x := "set_key") (st := s_set_key) X G (List.mem_of_getElem? (i := 8) rfl) (List.mem_of_getElem? (i := 41) rfl)) (c_members_of := k_members_of)
  obtain ⟨cd_ordered, e_ordered, f_ordered⟩ := c.factC (x := "ordered") (st := s_ordered) X G (List.mem_of_getElem? (i := 9) rfl) (List.mem_of_getElem? (i := 42) rfl)
  subst e_ordered
  have k_ordered := ok_ordered (P := pr) (w := w) (base := base) (C := cfg K) (T := tx) (hL := c.host (x := "ordered") (C := cfg K) rfl (List.mem_of_getElem? (i := 0) rfl) tb) (R_ref := rr) (F := f_ordered) (c_set_key := k_set_key)
  obtain ⟨cd_all_masks, e_all_masks, f_all_masks⟩ := c.factC (x := "all_masks") (st := s_all_masks) X G (List.mem_of_getElem? (i := 11) rfl) (List.mem_of_getElem? (i := 44) rfl)
  subst e_all_masks
  have k_all_masks := ok_all_masks (P := pr) (w := w) (base := base) (C := cfg K) (T := tx) (hL := c.host (x := "all_masks") (C := cfg K) rfl (List.mem_of_getElem? (i := 1) rfl) tb) (R_ref := rr) (F := f_all_masks) (c_set_key := k_set_key)
  have k_is_part := ok_is_part (P := pr) (w := w) (base := base) (C := cfg K) (T := tx) (F := c.fact (x := "is_part") (st := s_is_part) X G (List.mem_of_getElem? (i := 12) rfl) (List.mem_of_getElem? (i := 45) rfl))
  have k_is_table := ok_is_table (P := pr) (w := w) (base := base) (C := cfg K) (T := tx) (F := c.fact (x := "is_table") (st := s_is_table) X G (List.mem_of_getElem? (i := 13) rfl) (List.mem_of_getElem? (i := 46) rfl)) (c_is_tuple := k_is_tuple) (c_is_in := k_is_in) (c_is_set := k_is_set)
  have k_demand_table := ok_demand_table (P := pr) (w := w) (base := base) (C := cfg K) (T := tx) (F := c.fact (x := "demand_table") (st := s_demand_table) X G (List.mem_of_getElem? (i := 14) rfl) (List.mem_of_getElem? (i := 47) rfl)) (c_demand := k_demand) (c_is_table := k_is_table)
  have k_demand_marks := ok_demand_marks (P := pr) (w := w) (base := base) (C := cfg K) (T := tx) (F := c.fact (x := "demand_marks") (st := s_demand_marks) X G (List.mem_of_getElem? (i := 15) rfl) (List.mem_of_getElem? (i := 48) rfl)) (c_demand_table := k_demand_table) (c_demand := k_demand) (c_is_set := k_is_set)
  obtain ⟨fd_Grid_common, f_Grid_common⟩ := c.methF (x := "Grid") (m := "common") (qn := "Grid.common") (st := s_Grid_common) (List.mem_of_getElem? (i := 16) rfl)
  have k_Grid_common := ok_Grid_common (P := pr) (w := w) (base := base) (C := cfg K) (T := tx) (M := He.meth_ok (c.fa _ (List.mem_of_getElem? (i := 49) rfl))) (F := f_Grid_common)
  obtain ⟨fd_Grid_having, f_Grid_having⟩ := c.methF (x := "Grid") (m := "having") (qn := "Grid.having") (st := s_Grid_having) (List.mem_of_getElem? (i := 17) rfl)
  have k_Grid_having := ok_Grid_having (P := pr) (w := w) (base := base) (C := cfg K) (T := tx) (M := He.meth_ok (c.fa _ (List.mem_of_getElem? (i := 50) rfl))) (F := f_Grid_having)
  obtain ⟨fd_Grid_closed, f_Grid_closed⟩ := c.methF (x := "Grid") (m := "closed") (qn := "Grid.closed") (st := s_Grid_closed) (List.mem_of_getElem? (i := 18) rfl)
  have k_Grid_closed := ok_Grid_closed (P := pr) (w := w) (base := base) (C := cfg K) (T := tx) (M := He.meth_ok (c.fa _ (List.mem_of_getElem? (i := 51) rfl))) (F := f_Grid_closed) (c_Grid_common := k_Grid_common) (c_Grid_having := k_Grid_having)
  obtain ⟨fd_Grid_init, f_Grid_init⟩ := c.methF (x := "Grid") (m := "__init__") (qn := "Grid.__init__") (st := s_Grid_init) (List.mem_of_getElem? (i := 19) rfl)
  have k_Grid_init := ok_Grid_init (P := pr) (w := w) (base := base) (C := cfg K) (T := tx) (M := He.mkr_ok (c.fa _ (List.mem_of_getElem? (i := 28) rfl))) (hm := He.glo_ok X G (c.fa _ (List.mem_of_getElem? (i := 27) rfl))) (F := f_Grid_init) (c_mask_of := k_mask_of)
  have k_closed := ok_closed (P := pr) (w := w) (base := base) (C := cfg K) (T := tx) (F := c.fact (x := "closed") (st := s_closed) X G (List.mem_of_getElem? (i := 20) rfl) (List.mem_of_getElem? (i := 52) rfl)) (c_demand_marks := k_demand_marks) (c_members_of := k_members_of) (c_Grid_closed := k_Grid_closed) (c_Grid_init := k_Grid_init) (c_mask_of := k_mask_of)
  have k_is_rule := ok_is_rule (P := pr) (w := w) (base := base) (C := cfg K) (T := tx) (F := c.fact (x := "is_rule") (st := s_is_rule) X G (List.mem_of_getElem? (i := 21) rfl) (List.mem_of_getElem? (i := 53) rfl)) (c_is_set := k_is_set) (c_is_tuple := k_is_tuple)
  have k_are_rules := ok_are_rules (P := pr) (w := w) (base := base) (C := cfg K) (T := tx) (F := c.fact (x := "are_rules") (st := s_are_rules) X G (List.mem_of_getElem? (i := 22) rfl) (List.mem_of_getElem? (i := 54) rfl)) (c_is_rule := k_is_rule) (c_is_tuple := k_is_tuple)
  have k_demand_rule := ok_demand_rule (P := pr) (w := w) (base := base) (C := cfg K) (T := tx) (F := c.fact (x := "demand_rule") (st := s_demand_rule) X G (List.mem_of_getElem? (i := 23) rfl) (List.mem_of_getElem? (i := 55) rfl)) (c_demand_table := k_demand_table) (c_demand := k_demand) (c_is_rule := k_is_rule)
  have k_demand_rules := ok_demand_rules (P := pr) (w := w) (base := base) (C := cfg K) (T := tx) (F := c.fact (x := "demand_rules") (st := s_demand_rules) X G (List.mem_of_getElem? (i := 24) rfl) (List.mem_of_getElem? (i := 56) rfl)) (c_demand := k_demand) (c_is_in := k_is_in) (c_are_rules := k_are_rules)
  have k_masks_of := ok_masks_of (P := pr) (w := w) (base := base) (C := cfg K) (T := tx) (F := c.fact (x := "masks_of") (st := s_masks_of) X G (List.mem_of_getElem? (i := 25) rfl) (List.mem_of_getElem? (i := 57) rfl)) (c_mask_of := k_mask_of)
  have k_obeys := ok_obeys (P := pr) (w := w) (base := base) (C := cfg K) (T := tx) (F := c.fact (x := "obeys") (st := s_obeys) X G (List.mem_of_getElem? (i := 26) rfl) (List.mem_of_getElem? (i := 58) rfl)) (c_is_part := k_is_part)
  have k_shell_against := ok_shell_against (P := pr) (w := w) (base := base) (C := cfg K) (T := tx) (F := c.fact (x := "shell_against") (st := s_shell_against) X G (List.mem_of_getElem? (i := 27) rfl) (List.mem_of_getElem? (i := 59) rfl)) (c_demand_rule := k_demand_rule) (c_masks_of := k_masks_of) (c_Grid_init := k_Grid_init) (c_obeys := k_obeys)
  have k_holds := ok_holds (P := pr) (w := w) (base := base) (C := cfg K) (T := tx) (F := c.fact (x := "holds") (st := s_holds) X G (List.mem_of_getElem? (i := 28) rfl) (List.mem_of_getElem? (i := 60) rfl)) (c_demand_rule := k_demand_rule) (c_shell_against := k_shell_against)
  have k_closed_mask := ok_closed_mask (P := pr) (w := w) (base := base) (C := cfg K) (T := tx) (F := c.fact (x := "closed_mask") (st := s_closed_mask) X G (List.mem_of_getElem? (i := 29) rfl) (List.mem_of_getElem? (i := 61) rfl)) (c_is_part := k_is_part)
  have k_closed_by := ok_closed_by (P := pr) (w := w) (base := base) (C := cfg K) (T := tx) (F := c.fact (x := "closed_by") (st := s_closed_by) X G (List.mem_of_getElem? (i := 30) rfl) (List.mem_of_getElem? (i := 62) rfl)) (c_demand_rules := k_demand_rules) (c_demand := k_demand) (c_is_set := k_is_set) (c_members_of := k_members_of) (c_closed_mask := k_closed_mask) (c_mask_of := k_mask_of) (c_masks_of := k_masks_of)
  have k_heads_of := ok_heads_of (P := pr) (w := w) (base := base) (C := cfg K) (T := tx) (F := c.fact (x := "heads_of") (st := s_heads_of) X G (List.mem_of_getElem? (i := 31) rfl) (List.mem_of_getElem? (i := 63) rfl)) (c_all_masks := k_all_masks) (c_is_part := k_is_part)
  have k_closed_all := ok_closed_all (P := pr) (w := w) (base := base) (C := cfg K) (T := tx) (F := c.fact (x := "closed_all") (st := s_closed_all) X G (List.mem_of_getElem? (i := 32) rfl) (List.mem_of_getElem? (i := 64) rfl)) (c_Grid_closed := k_Grid_closed)
  have k_base_masks := ok_base_masks (P := pr) (w := w) (base := base) (C := cfg K) (T := tx) (F := c.fact (x := "base_masks") (st := s_base_masks) X G (List.mem_of_getElem? (i := 33) rfl) (List.mem_of_getElem? (i := 65) rfl)) (c_heads_of := k_heads_of)
  have k_as_rules := ok_as_rules (P := pr) (w := w) (base := base) (C := cfg K) (T := tx) (F := c.fact (x := "as_rules") (st := s_as_rules) X G (List.mem_of_getElem? (i := 34) rfl) (List.mem_of_getElem? (i := 66) rfl)) (c_members_of := k_members_of)
  have k_base := ok_base (P := pr) (w := w) (base := base) (C := cfg K) (T := tx) (F := c.fact (x := "base") (st := s_base) X G (List.mem_of_getElem? (i := 35) rfl) (List.mem_of_getElem? (i := 67) rfl)) (c_demand_table := k_demand_table) (c_as_rules := k_as_rules) (c_base_masks := k_base_masks) (c_closed_all := k_closed_all) (c_Grid_init := k_Grid_init)
  have k_are_measures := ok_are_measures (P := pr) (w := w) (base := base) (C := cfg K) (T := tx) (F := c.fact (x := "are_measures") (st := s_are_measures) X G (List.mem_of_getElem? (i := 36) rfl) (List.mem_of_getElem? (i := 68) rfl)) (c_is_tuple := k_is_tuple) (c_is_in := k_is_in)
  have k_demand_measures := ok_demand_measures (P := pr) (w := w) (base := base) (C := cfg K) (T := tx) (F := c.fact (x := "demand_measures") (st := s_demand_measures) X G (List.mem_of_getElem? (i := 37) rfl) (List.mem_of_getElem? (i := 69) rfl)) (c_demand := k_demand) (c_are_measures := k_are_measures)
  have k_wide_of := ok_wide_of (P := pr) (w := w) (base := base) (C := cfg K) (T := tx) (F := c.fact (x := "wide_of") (st := s_wide_of) X G (List.mem_of_getElem? (i := 38) rfl) (List.mem_of_getElem? (i := 70) rfl))
  have k_pair_table := ok_pair_table (P := pr) (w := w) (base := base) (C := cfg K) (T := tx) (F := c.fact (x := "pair_table") (st := s_pair_table) X G (List.mem_of_getElem? (i := 39) rfl) (List.mem_of_getElem? (i := 71) rfl)) (c_demand_measures := k_demand_measures) (c_demand := k_demand) (c_wide_of := k_wide_of)
  have k_alike_masks := ok_alike_masks (P := pr) (w := w) (base := base) (C := cfg K) (T := tx) (F := c.fact (x := "alike_masks") (st := s_alike_masks) X G (List.mem_of_getElem? (i := 40) rfl) (List.mem_of_getElem? (i := 72) rfl)) (c_mask_of := k_mask_of)
  have k_depends := ok_depends (P := pr) (w := w) (base := base) (C := cfg K) (T := tx) (F := c.fact (x := "depends") (st := s_depends) X G (List.mem_of_getElem? (i := 41) rfl) (List.mem_of_getElem? (i := 73) rfl)) (c_demand_measures := k_demand_measures) (c_demand := k_demand) (c_is_set := k_is_set) (c_wide_of := k_wide_of) (c_mask_of := k_mask_of) (c_alike_masks := k_alike_masks)
  have k_told_by_measures := ok_told_by_measures (P := pr) (w := w) (base := base) (C := cfg K) (T := tx) (F := c.fact (x := "told_by_measures") (st := s_told_by_measures) X G (List.mem_of_getElem? (i := 42) rfl) (List.mem_of_getElem? (i := 74) rfl)) (c_demand_measures := k_demand_measures) (c_demand := k_demand) (c_is_set := k_is_set) (c_wide_of := k_wide_of) (c_alike_masks := k_alike_masks) (c_mask_of := k_mask_of) (c_members_of := k_members_of)
  have k_names_of := ok_names_of (P := pr) (w := w) (base := base) (C := cfg K) (T := tx) (F := c.fact (x := "names_of") (st := s_names_of) X G (List.mem_of_getElem? (i := 43) rfl) (List.mem_of_getElem? (i := 75) rfl)) (c_demand_measures := k_demand_measures) (c_wide_of := k_wide_of) (c_ordered := k_ordered) (c_told_by_measures := k_told_by_measures) (c_members_of := k_members_of)
  have k_pair_against := ok_pair_against (P := pr) (w := w) (base := base) (C := cfg K) (T := tx) (F := c.fact (x := "pair_against") (st := s_pair_against) X G (List.mem_of_getElem? (i := 44) rfl) (List.mem_of_getElem? (i := 76) rfl)) (c_demand_measures := k_demand_measures) (c_demand := k_demand) (c_is_set := k_is_set) (c_wide_of := k_wide_of)
  have k__law_dice := ok__law_dice (P := pr) (w := w) (base := base) (C := cfg K) (T := tx) (F := c.fact (x := "_law_dice") (st := s__law_dice) X G (List.mem_of_getElem? (i := 45) rfl) (List.mem_of_getElem? (i := 77) rfl))
  have k__law_roll := ok__law_roll (P := pr) (w := w) (base := base) (C := cfg K) (T := tx) (F := c.fact (x := "_law_roll") (st := s__law_roll) X G (List.mem_of_getElem? (i := 46) rfl) (List.mem_of_getElem? (i := 78) rfl))
  have k__law_pick := ok__law_pick (P := pr) (w := w) (base := base) (C := cfg K) (T := tx) (F := c.fact (x := "_law_pick") (st := s__law_pick) X G (List.mem_of_getElem? (i := 47) rfl) (List.mem_of_getElem? (i := 79) rfl)) (c__law_roll := k__law_roll)
  have k__law_sets := ok__law_sets (P := pr) (w := w) (base := base) (C := cfg K) (T := tx) (F := c.fact (x := "_law_sets") (st := s__law_sets) X G (List.mem_of_getElem? (i := 48) rfl) (List.mem_of_getElem? (i := 80) rfl))
  have k__law_pick_0_1 := ok__law_pick_0_1 (P := pr) (w := w) (base := base) (C := cfg K) (T := tx) (F := c.fact (x := "_law_pick") (st := s__law_pick) X G (List.mem_of_getElem? (i := 47) rfl) (List.mem_of_getElem? (i := 79) rfl)) (c__law_roll := k__law_roll)
  have k__law_table := ok__law_table (P := pr) (w := w) (base := base) (C := cfg K) (T := tx) (F := c.fact (x := "_law_table") (st := s__law_table) X G (List.mem_of_getElem? (i := 49) rfl) (List.mem_of_getElem? (i := 81) rfl)) (c__law_pick := k__law_pick) (c__law_roll := k__law_roll) (c__law_pick_0_1 := k__law_pick_0_1)
  have k__law_has := ok__law_has (P := pr) (w := w) (base := base) (C := cfg K) (T := tx) (F := c.fact (x := "_law_has") (st := s__law_has) X G (List.mem_of_getElem? (i := 50) rfl) (List.mem_of_getElem? (i := 82) rfl))
  have k__law_common := ok__law_common (P := pr) (w := w) (base := base) (C := cfg K) (T := tx) (F := c.fact (x := "_law_common") (st := s__law_common) X G (List.mem_of_getElem? (i := 51) rfl) (List.mem_of_getElem? (i := 83) rfl))
  have k__law_having := ok__law_having (P := pr) (w := w) (base := base) (C := cfg K) (T := tx) (F := c.fact (x := "_law_having") (st := s__law_having) X G (List.mem_of_getElem? (i := 52) rfl) (List.mem_of_getElem? (i := 84) rfl)) (c__law_has := k__law_has)
  have k__law_closed := ok__law_closed (P := pr) (w := w) (base := base) (C := cfg K) (T := tx) (F := c.fact (x := "_law_closed") (st := s__law_closed) X G (List.mem_of_getElem? (i := 53) rfl) (List.mem_of_getElem? (i := 85) rfl)) (c__law_common := k__law_common) (c__law_having := k__law_having)
  have k__law_every := ok__law_every (P := pr) (w := w) (base := base) (C := cfg K) (T := tx) (F := c.fact (x := "_law_every") (st := s__law_every) X G (List.mem_of_getElem? (i := 54) rfl) (List.mem_of_getElem? (i := 86) rfl)) (c__law_sets := k__law_sets) (c__law_closed := k__law_closed)
  have k__law_measures := ok__law_measures (P := pr) (w := w) (base := base) (C := cfg K) (T := tx) (F := c.fact (x := "_law_measures") (st := s__law_measures) X G (List.mem_of_getElem? (i := 55) rfl) (List.mem_of_getElem? (i := 87) rfl)) (c__law_roll := k__law_roll) (c__law_pick := k__law_pick)
  have k__law_alike := ok__law_alike (P := pr) (w := w) (base := base) (C := cfg K) (T := tx) (F := c.fact (x := "_law_alike") (st := s__law_alike) X G (List.mem_of_getElem? (i := 56) rfl) (List.mem_of_getElem? (i := 88) rfl))
  have k__law_pairs := ok__law_pairs (P := pr) (w := w) (base := base) (C := cfg K) (T := tx) (F := c.fact (x := "_law_pairs") (st := s__law_pairs) X G (List.mem_of_getElem? (i := 57) rfl) (List.mem_of_getElem? (i := 89) rfl))
  obtain ⟨cd__law_last, e__law_last, f__law_last⟩ := c.factC (x := "_law_last") (st := s__law_last) X G (List.mem_of_getElem? (i := 58) rfl) (List.mem_of_getElem? (i := 90) rfl)
  subst e__law_last
  have k__law_last := ok__law_last (P := pr) (w := w) (base := base) (C := cfg K) (T := tx) (hL := c.host (x := "_law_last") (C := cfg K) rfl (List.mem_of_getElem? (i := 2) rfl) tb) (R_ref := rr) (F := f__law_last) (c_names_of := k_names_of) (c_told_by_measures := k_told_by_measures) (c_pair_against := k_pair_against) (c_depends := k_depends) (c_pair_table := k_pair_table)
  have k_law := ok_law (P := pr) (w := w) (base := base) (C := cfg K) (T := tx) (F := c.fact (x := "law") (st := s_law) X G (List.mem_of_getElem? (i := 59) rfl) (List.mem_of_getElem? (i := 91) rfl)) (c__law_dice := k__law_dice) (c__law_measures := k__law_measures) (c__law_pairs := k__law_pairs) (c__law_sets := k__law_sets) (c_pair_table := k_pair_table) (c_base := k_base) (c__law_alike := k__law_alike) (c_closed_by := k_closed_by) (c_closed := k_closed) (c_told_by_measures := k_told_by_measures) (c__law_pick := k__law_pick) (c_holds := k_holds) (c_depends := k_depends) (c_pair_against := k_pair_against) (c__law_has := k__law_has) (c_names_of := k_names_of) (c__law_last := k__law_last)
  exact k_law
theorem law_at {w : World} {h : Heap} {K : PySem.W.Frag} {mg : Str → Option Value} {f : Addr} (M : ∀ ns : List Int, ns.length ≤ 63 → m_law [.d (.list (ns.map PyData.int))] = .ok (.d (.bool true))) (X : K.In h) (G : h.Ns mainGlobals mg) (hf : mg "law" = some (.ref f)) (c : Hd.Says asks h K) :
    LamX.LawAtS PySem.Challenge.rw_shellmarks_k13_whole_measures_that_depen w K (L2.CX pr w) 11 63 "script" mg f h :=
  Hd.lawAt (p := "script") rfl M c X hf (fun base tb => chain (base := base) (w := w) X G c tb) b_law (c.fact (x := "law") (st := s_law) X G (List.mem_of_getElem? (i := 59) rfl) (List.mem_of_getElem? (i := 91) rfl))
def others : List PySem.Str := (["_wall", "ShellError", "BadArgument", "MOST_MARKS", "MOST_SHELLS", "demand", "is_in", "is_tuple", "are_in", "is_set", "mask_of", "members_of", "set_key", "ordered", "all_masks", "is_part", "is_table", "demand_table", "demand_marks", "Grid", "closed", "MOST_RULES", "is_rule", "are_rules", "demand_rule", "demand_rules", "masks_of", "obeys", "holds", "shell_against"] : List PySem.Str) ++ (["closed_mask", "closed_by", "heads_of", "closed_all", "base_masks", "as_rules", "base", "MOST_MEASURES", "MOST_MEASURED", "GREATEST", "are_measures", "demand_measures", "wide_of", "pair_table", "alike_masks", "depends", "told_by_measures", "names_of", "pair_against", "_law_dice", "_law_roll", "_law_pick", "_law_refused", "_law_sets", "_law_table", "_law_has", "_law_common", "_law_having", "_law_closed", "_law_every"] : List PySem.Str) ++ (["_law_measures", "_law_alike", "_law_pairs", "_law_last"] : List PySem.Str)
theorem run (w : World) : HandSHeadRun.RunEq (PySem.W.OpenLaw.row PySem.Challenge.rw_shellmarks_k13_whole_measures_that_depen) (PySem.W.view pr [71]) (Hd.hook asks) (Hd.obT asks) 6000 others w := by
  intro os
  kernel_rfl
end G
end DL

set_option Elab.async false
set_option linter.all false
set_option maxRecDepth 100000
set_option maxHeartbeats 1000000
namespace DL
namespace G
open PySem PySem.Spec L2
abbrev I (n : Nat) : PyData := .int (n : Int)
abbrev ti (l : List Nat) : PyData := .tuple (l.map I)
def bt (m : Nat) : List Nat := (List.range 6).filter fun i => m.testBit i
def combs : Nat → List Nat → List (List Nat)
  | 0, _ => [[]]
  | _ + 1, [] => []
  | k + 1, x :: xs => (combs k xs).map (x :: ·) ++ combs (k + 1) xs
def allM (n : Nat) : List Nat := ((List.range (n + 1)).flatMap fun k => combs k (List.range n)).map fun l => (l.map fun i => 2 ^ i).sum
def isB (b : Bool) : R S → Bool
  | .ok (.d (.bool c)) => c == b
  | _ => false
theorem isB_ok {b : Bool} {r : R S} (h : isB b r = true) : r = .ok (.d (.bool b)) := by
  unfold isB at h
  split at h
  · rw [beq_iff_eq.mp h]
  · cases h
def isI (b : Nat) : R S → Bool
  | .ok (.d (.int c)) => decide (c = (b : Int))
  | _ => false
theorem isI_ok {b : Nat} {r : R S} (h : isI b r = true) : r = .ok (.d (I b)) := by
  unfold isI at h
  split at h
  · rw [of_decide_eq_true h]
  · cases h
def sameI : List PyData → List Nat → Bool
  | [], [] => true
  | .int c :: r, b :: s => decide (c = (b : Int)) && sameI r s
  | _, _ => false
theorem sameI_ok : ∀ {r : List PyData} {s : List Nat}, sameI r s = true → r = s.map I
  | [], [], _ => rfl
  | .int c :: r, b :: s, h => by
    obtain ⟨h1, h2⟩ := Bool.and_eq_true_iff.mp h
    rw [List.map_cons, ← sameI_ok h2, of_decide_eq_true h1]
  | [], _ :: _, h => by cases h
  | _ :: _, [], h => by cases ‹PyData› <;> cases h
  | .none :: _, _ :: _, h => by cases h
  | .bool _ :: _, _ :: _, h => by cases h
  | .str _ :: _, _ :: _, h => by cases h
  | .list _ :: _, _ :: _, h => by cases h
  | .tuple _ :: _, _ :: _, h => by cases h
  | .dict _ :: _, _ :: _, h => by cases h
def isTu (l : List Nat) : R S → Bool
  | .ok (.d (.tuple r)) => sameI r l
  | _ => false
theorem isTu_ok {l : List Nat} {r : R S} (h : isTu l r = true) : r = .ok (.d (ti l)) := by
  unfold isTu at h
  split at h
  · rw [sameI_ok h]
  · cases h
def isL (l : List Nat) : R S → Bool
  | .ok (.l .fr r) => sameI r l
  | _ => false
theorem isL_ok {l : List Nat} {r : R S} (h : isL l r = true) : r = .ok (.l .fr (l.map I)) := by
  unfold isL at h
  split at h
  · rw [sameI_ok h]
  · cases h
def sameT : List PyData → List (List Nat) → Bool
  | [], [] => true
  | .tuple c :: r, b :: s => sameI c b && sameT r s
  | _, _ => false
theorem sameT_ok : ∀ {r : List PyData} {s : List (List Nat)}, sameT r s = true → r = s.map ti
  | [], [], _ => rfl
  | .tuple c :: r, b :: s, h => by
    obtain ⟨h1, h2⟩ := Bool.and_eq_true_iff.mp h
    rw [List.map_cons, ← sameT_ok h2, sameI_ok h1]
  | [], _ :: _, h => by cases h
  | _ :: _, [], h => by cases ‹PyData› <;> cases h
  | .none :: _, _ :: _, h => by cases h
  | .bool _ :: _, _ :: _, h => by cases h
  | .str _ :: _, _ :: _, h => by cases h
  | .list _ :: _, _ :: _, h => by cases h
  | .int _ :: _, _ :: _, h => by cases h
  | .dict _ :: _, _ :: _, h => by cases h
def isLT (l : List (List Nat)) : R S → Bool
  | .ok (.l .fr r) => sameT r l
  | _ => false
theorem isLT_ok {l : List (List Nat)} {r : R S} (h : isLT l r = true) : r = .ok (.l .fr (l.map ti)) := by
  unfold isLT at h
  split at h
  · rw [sameT_ok h]
  · cases h
theorem all_lt {n : Nat} {p : Nat → Bool} (h : (List.range n).all p = true) {m : Nat} (hm : m < n) : p m = true := List.all_eq_true.mp h m (List.mem_range.mpr hm)
theorem f_set : ((List.range 7).all fun n => (List.range (2 ^ n)).all fun m => isB true (m_is_set [.d (ti (bt m)), .d (I n)])) = true := by decide +kernel
theorem v_set {n m : Nat} (hn : n < 7) (hm : m < 2 ^ n) : m_is_set [.d (ti (bt m)), .d (I n)] = .ok (.d (.bool true)) := isB_ok (all_lt (all_lt f_set hn) hm)
theorem f_mask : ((List.range 64).all fun m => isI m (m_mask_of [.d (ti (bt m))])) = true := by decide +kernel
theorem v_mask {m : Nat} (hm : m < 64) : m_mask_of [.d (ti (bt m))] = .ok (.d (I m)) := isI_ok (all_lt f_mask hm)
theorem f_mem : ((List.range 64).all fun m => isTu (bt m) (m_members_of [.d (I m)])) = true := by decide +kernel
theorem v_mem {m : Nat} (hm : m < 64) : m_members_of [.d (I m)] = .ok (.d (ti (bt m))) := isTu_ok (all_lt f_mem hm)
theorem f_all : ((List.range 7).all fun n => isL (allM n) (m_all_masks [.d (I n)])) = true := by decide +kernel
theorem v_all {n : Nat} (hn : n < 7) : m_all_masks [.d (I n)] = .ok (.l .fr ((allM n).map I)) := isL_ok (all_lt f_all hn)
theorem f_sets : ((List.range 7).all fun n => isLT ((allM n).map bt) (m__law_sets [.d (I n)])) = true := by decide +kernel
theorem v_sets {n : Nat} (hn : n < 7) : m__law_sets [.d (I n)] = .ok (.l .fr (((allM n).map bt).map ti)) := isLT_ok (all_lt f_sets hn)
theorem f_allM : ((List.range 7).all fun n => (allM n).all (fun m => decide (m < 2 ^ n)) && ((List.range (2 ^ n)).all (fun m => (allM n).contains m) && decide ((allM n).Pairwise fun a b => b &&& a ≠ b))) = true := by decide +kernel
theorem f_bt : ((List.range 64).all fun m => (List.range 64).all fun k => decide (bt m = bt k → m = k)) = true := by decide +kernel
theorem sh_int (i : Int) : SeqAt.shaped (.int i) = true := rfl
@[simp] theorem eq_int (i j : Int) : eqS (.d (.int i)) (.d (.int j)) = .ok (.d (.bool (i == j))) := by
  simp [eqS, sh2, sh_int, PyData.eqv]
@[simp] theorem ne_int (i j : Int) : neS (.d (.int i)) (.d (.int j)) = .ok (.d (.bool (!(i == j)))) := by
  simp [neS, sh2, sh_int, PyData.eqv]
@[simp] theorem beq_nat (a b : Nat) : ((a : Int) == (b : Int)) = (a == b) := by
  by_cases h : a = b
  · subst h; simp
  · have : ¬ (a : Int) = (b : Int) := fun z => h (Int.ofNat_inj.mp z)
    rw [beq_eq_false_iff_ne.mpr this, beq_eq_false_iff_ne.mpr h]
theorem and_nat (a b : Nat) : Builtin.bitAnd (a : Int) (b : Int) = ((a &&& b : Nat) : Int) := by
  have h1 : decide ((0 : Int) ≤ (a : Int)) = true := by simp
  have h2 : decide ((0 : Int) ≤ (b : Int)) = true := by simp
  unfold Builtin.bitAnd
  rw [h1, h2]
  rfl
@[simp] theorem and_S (a b : Nat) : andS (.d (I a)) (.d (I b)) = .ok (.d (I (a &&& b))) := by
  show R.ok (S.d (.int (Builtin.bitAnd (a : Int) (b : Int)))) = _
  rw [and_nat]
@[simp] theorem shr_S (a b : Nat) : shrS (.d (I a)) (.d (I b)) = .ok (.d (I (a / 2 ^ b))) := by
  simp [shrS]
@[simp] theorem le_S (a b : Int) : leS (.d (.int a)) (.d (.int b)) = .ok (.d (.bool (decide (a ≤ b)))) := (rfl)
@[simp] theorem lt_S (a b : Int) : ltS (.d (.int a)) (.d (.int b)) = .ok (.d (.bool (decide (a < b)))) := (rfl)
@[simp] theorem sub_S (a b : Int) : subS (.d (.int a)) (.d (.int b)) = .ok (.d (.int (a - b))) := (rfl)
@[simp] theorem isi_ap {T : String} {f : Env → R S} {δ : Env} : isiS T f δ = (f δ >>= fun s => s.rd >>= fun d => .ok (.d (.bool (DL.isT T d)))) := (rfl)
@[simp] theorem isT_ii (i : Int) : DL.isT "int" (.int i) = true := (rfl)
@[simp] theorem isT_ib (i : Int) : DL.isT "bool" (.int i) = false := by show DL.isTN "bool" "int" = false; decide +kernel
@[simp] theorem isT_tt (i : List PyData) : DL.isT "tuple" (.tuple i) = true := (rfl)
theorem testb (m i : Nat) : ((m / 2 ^ i) &&& 1 == 1) = m.testBit i := by
  rw [Nat.testBit_eq_decide_div_mod_eq, Nat.and_one_is_mod]
  rfl
def bitN (m i : Nat) : Nat := (m / 2 ^ i) &&& 1
@[simp high] theorem bit_and (m i : Nat) : andS (.d (I (m / 2 ^ i))) (.d (.int 1)) = .ok (.d (I (bitN m i))) := and_S (m / 2 ^ i) 1
@[simp high] theorem bit_eq (m i : Nat) : eqS (.d (I (bitN m i))) (.d (.int 1)) = .ok (.d (.bool (m.testBit i))) := by
  have h : eqS (.d (I (bitN m i))) (.d (.int 1)) = .ok (.d (.bool (((bitN m i : Nat) : Int) == ((1 : Nat) : Int)))) := eq_int _ _
  rw [h, beq_nat, ← testb m i]
  rfl
theorem v_part (a b : Nat) : m_is_part [.d (I a), .d (I b)] = .ok (.d (.bool (a &&& b == a))) := by
  refine fin_retE (s := .d (.bool (a &&& b == a))) ?_ rfl
  simp [entry]
theorem v_is_in (v lo hi : Int) : m_is_in [.d (.int v), .d (.int lo), .d (.int hi)] = .ok (.d (.bool (decide (lo ≤ v) && decide (v ≤ hi)))) := by
  refine fin_retE (s := .d (.bool (decide (lo ≤ v) && decide (v ≤ hi)))) ?_ rfl
  simp [entry]
  by_cases h : lo ≤ v <;> simp [h]
theorem v_tuple (ds : List PyData) (lo hi : Int) : m_is_tuple [.d (.tuple ds), .d (.int lo), .d (.int hi)] = .ok (.d (.bool (decide (lo ≤ ds.length) && decide ((ds.length : Int) ≤ hi)))) := by
  refine fin_retE (s := .d (.bool (decide (lo ≤ ds.length) && decide ((ds.length : Int) ≤ hi)))) ?_ rfl
  simp [entry]
  by_cases h : lo ≤ (ds.length : Int) <;> simp [h]
abbrev rw_ (rs : List Nat) : PyData := .tuple (rs.map fun m => ti (bt m))
abbrev tb (n : Nat) (rs : List Nat) : PyData := .tuple [I n, rw_ rs]
structure Good (n : Nat) (rs : List Nat) : Prop where
  hn : n < 7
  len : rs.length ≤ 8
  row : ∀ r ∈ rs, r < 2 ^ n
theorem Good.r64 {n : Nat} {rs : List Nat} (h : Good n rs) {r : Nat} (m : r ∈ rs) : r < 64 :=
  Nat.lt_of_lt_of_le (h.row r m) (Nat.pow_le_pow_right (by decide) (show n ≤ 6 from Nat.le_of_lt_succ h.hn))
@[simp] theorem atI_n {α : Type} (l : List α) (i : Nat) : atI l (i : Int) = l[i]? := by
  unfold atI ixN
  by_cases h : (i : Int) < l.length
  · simp [h]
  · simp [h]
    omega
@[simp] theorem atI_0 {α : Type} {a : α} {l : List α} : atI (a :: l) 0 = some a := atI_n (a :: l) 0
@[simp] theorem atI_1 {α : Type} {a b : α} {l : List α} : atI (a :: b :: l) 1 = some b := atI_n (a :: b :: l) 1
theorem v_table {n : Nat} {rs : List Nat} (h : Good n rs) : m_is_table [.d (tb n rs)] = .ok (.d (.bool true)) := by
  have hn := h.hn
  have hl := h.len
  refine fin_seq (δ' := [some (.d (tb n rs)), none]) ?_ ?_
  · rw [if_ok (c := false)]
    · rfl
    · have h6 : ¬ (6 : Int) < (n : Int) := by omega
      have h8 : (rs.length : Int) ≤ 8 := by omega
      simp [entry, v_tuple, v_is_in, h6, h8]
  · refine fin_retE (s := .d (.bool true)) ?_ rfl
    have hc : kComp (iVal false (kB ixS (kV 0) (kC (.int 1)))) (gN 1) tTrue (kCall 2 m_is_set (aCons (kV 1) (aCons (kB ixS (kV 0) (kC (.int 0))) aNil))) [1] [some (.d (tb n rs)), none] = .ok (.l .fr (rs.map fun m => .bool true)) := by
      refine comp_map (enc := fun m => ti (bt m)) _ rs (by simp) (by omega) fun a m => ?_
      simp [turn, wipeD, v_set hn (h.row a m)]
    rw [ap_kCB, ap_aCons, hc]
    simp [bls_map]
theorem v_demand (x : PyData) : m_demand [.d (.bool true), .d x] = .ok (.d .none) := by
  show fin _ = _
  unfold d_demand
  rw [if_ok (c := false)]
  · rfl
  · simp [entry]
theorem v_dtable {n : Nat} {rs : List Nat} (h : Good n rs) : m_demand_table [.d (tb n rs)] = .ok (.d .none) := by
  show fin _ = _
  unfold d_demand_table
  rw [drop_ok (s := .d .none)]
  · rfl
  · simp [entry, v_table h, v_demand]
@[simp] theorem nq_many_rows : ((Str.ofString "many") == (Str.ofString "rows")) = false := by decide +kernel
@[simp] theorem nq_many_every : ((Str.ofString "many") == (Str.ofString "every")) = false := by decide +kernel
@[simp] theorem nq_many_all_shells : ((Str.ofString "many") == (Str.ofString "all_shells")) = false := by decide +kernel
@[simp] theorem nq_many_columns : ((Str.ofString "many") == (Str.ofString "columns")) = false := by decide +kernel
@[simp] theorem nq_rows_many : ((Str.ofString "rows") == (Str.ofString "many")) = false := by decide +kernel
@[simp] theorem nq_rows_every : ((Str.ofString "rows") == (Str.ofString "every")) = false := by decide +kernel
@[simp] theorem nq_rows_all_shells : ((Str.ofString "rows") == (Str.ofString "all_shells")) = false := by decide +kernel
@[simp] theorem nq_rows_columns : ((Str.ofString "rows") == (Str.ofString "columns")) = false := by decide +kernel
@[simp] theorem nq_every_many : ((Str.ofString "every") == (Str.ofString "many")) = false := by decide +kernel
@[simp] theorem nq_every_rows : ((Str.ofString "every") == (Str.ofString "rows")) = false := by decide +kernel
@[simp] theorem nq_every_all_shells : ((Str.ofString "every") == (Str.ofString "all_shells")) = false := by decide +kernel
@[simp] theorem nq_every_columns : ((Str.ofString "every") == (Str.ofString "columns")) = false := by decide +kernel
@[simp] theorem nq_all_shells_many : ((Str.ofString "all_shells") == (Str.ofString "many")) = false := by decide +kernel
@[simp] theorem nq_all_shells_rows : ((Str.ofString "all_shells") == (Str.ofString "rows")) = false := by decide +kernel
@[simp] theorem nq_all_shells_every : ((Str.ofString "all_shells") == (Str.ofString "every")) = false := by decide +kernel
@[simp] theorem nq_all_shells_columns : ((Str.ofString "all_shells") == (Str.ofString "columns")) = false := by decide +kernel
@[simp] theorem nq_columns_many : ((Str.ofString "columns") == (Str.ofString "many")) = false := by decide +kernel
@[simp] theorem nq_columns_rows : ((Str.ofString "columns") == (Str.ofString "rows")) = false := by decide +kernel
@[simp] theorem nq_columns_every : ((Str.ofString "columns") == (Str.ofString "every")) = false := by decide +kernel
@[simp] theorem nq_columns_all_shells : ((Str.ofString "columns") == (Str.ofString "all_shells")) = false := by decide +kernel
def col (rs : List Nat) (i : Nat) : Nat := ((rs.zipIdx.filter fun p => p.1.testBit i).map fun p => 2 ^ p.2).sum
def gobj (n : Nat) (rs : List Nat) : List (Str × PyData) := [("many", I n), ("rows", .list (rs.map I)), ("every", I (2 ^ n - 1)), ("all_shells", I (2 ^ rs.length - 1)), ("columns", .list ((List.range n).map fun i => I (col rs i)))]
theorem nSet_ok {f : Str} {cn : Nat} {fe : Env → R S} {δ : Env} {gs : List (Str × PyData)} {s : S} {d : PyData} {k : Env → List (Str × PyData) → NR} (e : fe (δ.set 0 (some (.obj cn gs))) = .ok s) (a : s.arg = .ok (.d d)) (h : (decide (gs.lookup f = none) && decide (gs.length < 10)) = true) {gs' : List (Str × PyData)} (eg : gs ++ [(f, d)] = gs') :
    nSeq (nSet f cn fe) k δ gs = k δ gs' := by
  subst eg
  unfold nSeq nSet
  simp only [e, a, h]
theorem sub_pow (k : Nat) : ((2 : Int) ^ k - 1) = ((2 ^ k - 1 : Nat) : Int) := by
  have h : 1 ≤ 2 ^ k := Nat.one_le_two_pow
  rw [Int.ofNat_sub h]
  simp
theorem pow_S (k : Nat) (h : k ≤ 1000000) : shlS (.d (.int 1)) (.d (I k)) = .ok (.d (I (2 ^ k))) := by
  have h2 : cPowB 1 (k : Int) = true := by
    unfold cPowB
    simp
    omega
  unfold shlS
  rw [ii_int, h2, chk_true]
  simp
theorem csm_nat (k : Nat) (h : k ≤ 1000000) : cSm (k : Int) = true := by
  have h1 : (-(2 ^ 62) : Int) ≤ (k : Int) := Int.le_trans (by decide) (Int.natCast_nonneg k)
  have h2 : (k : Int) < 2 ^ 62 := Int.lt_of_le_of_lt (Int.ofNat_le.mpr h) (by decide)
  unfold cSm
  rw [decide_eq_true h1, decide_eq_true h2]
  rfl
theorem rangeP_nat (k : Nat) : rangeP 0 1 ((k : Int).toNat) = (List.range k).map I := by
  unfold rangeP
  rw [Int.toNat_natCast]
  refine List.map_congr_left fun a _ => ?_
  show PyData.int (0 + (a : Int) * 1) = PyData.int (a : Int)
  rw [Int.mul_one, Int.zero_add]
theorem rng_map (k : Nat) (h : k ≤ 1000000) : rg1S [.d (I k)] = .ok ((List.range k).map I) := by
  show (S.i (.d (I k)) >>= fun j => chk (cSm j) (.ok (rangeP 0 1 j.toNat))) = _
  rw [S.i_int, R.ok_bind, csm_nat k h, chk_true, rangeP_nat]
theorem sum_cast {α : Type} (f : α → Nat) (l : List α) : (l.map fun a => ((f a : Nat) : Int)).sum = (((l.map f).sum : Nat) : Int) := by
  induction l with
  | nil => rfl
  | cons a l ih => simp only [List.map_cons, List.sum_cons, ih, Int.natCast_add]
theorem zip_lt {rs : List Nat} {a : Nat × Nat} (m : a ∈ rs.zipIdx) : rs[a.2]? = some a.1 ∧ a.2 < rs.length := by
  have h := List.mem_zipIdx_iff_getElem?.mp m
  exact ⟨h, (List.getElem?_eq_some_iff.mp h).1⟩
def g4 (n : Nat) (rs : List Nat) : List (Str × PyData) := [("many", I n), ("rows", .list (rs.map I)), ("every", I (2 ^ n - 1)), ("all_shells", I (2 ^ rs.length - 1))]
theorem g4_many (n : Nat) (rs : List Nat) : List.lookup ("many" : Str) (g4 n rs) = some (I n) := rfl
theorem g4_rows (n : Nat) (rs : List Nat) : List.lookup ("rows" : Str) (g4 n rs) = some (PyData.list (rs.map I)) := by simp [g4, List.lookup]
theorem g4_cols (n : Nat) (rs : List Nat) : List.lookup ("columns" : Str) (g4 n rs) = none := by simp [g4, List.lookup]
theorem enum_nat (l : List Nat) : enumP (l.map I) = l.zipIdx.map fun p : Nat × Nat => .tuple [I p.2, I p.1] := by simp [enumP, List.zipIdx_map]
abbrev colE : Env → R S := kCB (on1 sumS) (aCons (kComp (iEnumF false (kU (fldS 0 "rows") (kV 0))) (gT [gN 4, gN 3]) (kBl (kB eqS (kB andS (kB shrS (kV 3) (kV 2)) (kC (.int 1))) (kC (.int 1)))) (kB shlS (kC (.int 1)) (kV 4)) [4, 3]) aNil)
theorem v_col {n : Nat} {rs : List Nat} (hl : rs.length ≤ 8) (x : S) (i : Nat) : colE [some (.obj 0 (g4 n rs)), some x, some (.d (I i)), none, none] = .ok (.d (I (col rs i))) := by
  have hc : kComp (iEnumF false (kU (fldS 0 "rows") (kV 0))) (gT [gN 4, gN 3]) (kBl (kB eqS (kB andS (kB shrS (kV 3) (kV 2)) (kC (.int 1))) (kC (.int 1)))) (kB shlS (kC (.int 1)) (kV 4)) [4, 3] [some (.obj 0 (g4 n rs)), some x, some (.d (I i)), none, none] = .ok (.l .fr ((rs.zipIdx.filter fun p => p.1.testBit i).map fun p => I (2 ^ p.2))) := by
    refine comp_filter (enc := fun p : Nat × Nat => .tuple [I p.2, I p.1]) (fun p => p.1.testBit i) _ rs.zipIdx ?_ ?_ fun a m => ?_
    · simp only [ap_iEnum, ap_kU, kV_0c, R.ok_bind, fld_ob, decide_true, chk_true, g4_rows, itsJ_list, enum_nat]
    · rw [List.length_zipIdx]; omega
    · have hk := (zip_lt m).2
      have hp := pow_S a.2 (by omega)
      simp [turn, wipeD, hp]
      cases a.1.testBit i <;> simp
  have e2 : sumS (.l .fr ((rs.zipIdx.filter fun p => p.1.testBit i).map fun p => I (2 ^ p.2))) = .ok (.d (I (col rs i))) := by
    rw [sum_l, ints_map (p := fun p : Nat × Nat => ((2 ^ p.2 : Nat) : Int)), R.ok_bind, sum_cast (fun p : Nat × Nat => 2 ^ p.2)]
    rfl
  unfold colE
  rw [ap_kCB, ap_aCons, hc]
  simp only [R.ok_bind, ap_aNil, on1_1, e2, S.pd_d]
theorem v_cols {n : Nat} {rs : List Nat} (hl : rs.length ≤ 8) (x : S) : ∀ (l : List Nat) (o2 : Option S), ∃ δ', colsL 2 0 (g4 n rs) colE (l.map I) [none, some x, o2, none, none] = .ok (l.map fun i => I (col rs i), δ')
  | [], o2 => ⟨_, rfl⟩
  | i :: l, o2 => by
    obtain ⟨δ', e⟩ := v_cols hl x l (some (.d (I i)))
    refine ⟨δ', ?_⟩
    rw [List.map_cons, List.map_cons]
    unfold colsL
    simp only [List.set_cons_succ, List.set_cons_zero] at e ⊢
    rw [e, v_col hl]
    rfl
theorem nCols_ok {f : Str} {cn i : Nat} {fi : Env → R (List PyData)} {fe : Env → R S} {δ δ' : Env} {gs : List (Str × PyData)} {ds rs : List PyData} (e1 : fi (δ.set 0 (some (.obj cn gs))) = .ok ds) (e2 : colsL i cn gs fe ds δ = .ok (rs, δ')) (h1 : gs.lookup f = none) (h2 : gs.length < 10) (h3 : ds.length ≤ 1000000) :
    nCols f cn i fi fe δ gs = .next δ' (gs ++ [(f, .list rs)]) := by
  unfold nCols
  simp only [e1, e2]
  rw [decide_eq_true h1, decide_eq_true h2, decide_eq_true h3]
  rfl
abbrev gE (n : Nat) (rs : List Nat) (gs : List (Str × PyData)) : Env := [some (.obj 0 gs), some (.d (tb n rs)), none, none, none]
theorem gi1 (n : Nat) (rs : List Nat) : (kB ixS (kV 1) (kC (.int 0))) (gE n rs []) = .ok (.d (I n)) := by simp
theorem gi2 {n : Nat} {rs : List Nat} (h : Good n rs) : kComp (iVal false (kB ixS (kV 1) (kC (.int 1)))) (gN 3) tTrue (kCall 1 m_mask_of (aCons (kV 3) aNil)) [3] (gE n rs [("many", I n)]) = .ok (.l .fr (rs.map I)) :=
  comp_map (enc := fun m => ti (bt m)) _ rs (by simp) (Nat.le_trans h.len (by decide)) fun a m => by simp [turn, wipeD, v_mask (h.r64 m)]
def g2 (n : Nat) (rs : List Nat) : List (Str × PyData) := [("many", I n), ("rows", .list (rs.map I))]
def g3 (n : Nat) (rs : List Nat) : List (Str × PyData) := [("many", I n), ("rows", .list (rs.map I)), ("every", I (2 ^ n - 1))]
theorem g2_many (n : Nat) (rs : List Nat) : List.lookup ("many" : Str) (g2 n rs) = some (I n) := rfl
theorem g3_rows (n : Nat) (rs : List Nat) : List.lookup ("rows" : Str) (g3 n rs) = some (PyData.list (rs.map I)) := by simp [g3, List.lookup]
theorem sub1 (k : Nat) : subS (.d (I (2 ^ k))) (.d (.int 1)) = .ok (.d (I (2 ^ k - 1))) := by
  rw [sub_S]
  have h : ((2 ^ k : Nat) : Int) - 1 = ((2 ^ k - 1 : Nat) : Int) := (Int.ofNat_sub Nat.one_le_two_pow).symm
  rw [h]
theorem gi3 {n : Nat} {rs : List Nat} (h : n ≤ 1000000) : (kB subS (kB shlS (kC (.int 1)) (kU (fldS 0 "many") (kV 0))) (kC (.int 1))) (gE n rs (g2 n rs)) = .ok (.d (I (2 ^ n - 1))) := by
  simp only [ap_kB, ap_kC, ap_kU, kV_0c, R.ok_bind, fld_ob, decide_true, chk_true, g2_many, pow_S n h, sub1]
theorem gi4 {n : Nat} {rs : List Nat} (h : rs.length ≤ 1000000) : (kB subS (kB shlS (kC (.int 1)) (kCB (on1 lenS) (aCons (kU (fldS 0 "rows") (kV 0)) aNil))) (kC (.int 1))) (gE n rs (g3 n rs)) = .ok (.d (I (2 ^ rs.length - 1))) := by
  simp only [ap_kB, ap_kC, ap_kU, ap_kCB, ap_aCons, ap_aNil, on1_1, len_lst, kV_0c, R.ok_bind, fld_ob, decide_true, chk_true, g3_rows, List.length_map, pow_S rs.length h, sub1]
theorem gq1 : (decide (List.lookup ("many" : Str) ([] : List (Str × PyData)) = none) && decide (([] : List (Str × PyData)).length < 10)) = true := by decide +kernel
theorem gq2 (n : Nat) : (decide (List.lookup ("rows" : Str) ([("many", I n)] : List (Str × PyData)) = none) && decide (([("many", I n)] : List (Str × PyData)).length < 10)) = true := by simp [List.lookup]
theorem gq3 (n : Nat) (rs : List Nat) : (decide (List.lookup ("every" : Str) (g2 n rs) = none) && decide ((g2 n rs).length < 10)) = true := by simp [g2, List.lookup]
theorem gq4 (n : Nat) (rs : List Nat) : (decide (List.lookup ("all_shells" : Str) (g3 n rs) = none) && decide ((g3 n rs).length < 10)) = true := by simp [g3, List.lookup]
theorem gi5 {n : Nat} {rs : List Nat} (hn : n ≤ 1000000) : iRg rg1S (aCons (kU (fldS 0 "many") (kV 0)) aNil) (gE n rs (g4 n rs)) = .ok ((List.range n).map I) := by
  have e : (aCons (kU (fldS 0 "many") (kV 0)) aNil) (gE n rs (g4 n rs)) = .ok [.d (I n)] := rfl
  rw [ap_iRg, e, R.ok_bind]
  exact rng_map n hn
theorem v_grid {n : Nat} {rs : List Nat} (h : Good n rs) : m_Grid_init [.d (tb n rs)] = .ok (gobj n rs) := by
  have hn : n ≤ 1000000 := Nat.le_trans (Nat.le_of_lt h.hn) (by decide)
  have hl : rs.length ≤ 1000000 := Nat.le_trans h.len (by decide)
  show finN (d_Grid_init (entryN 5 [.d (tb n rs)]) []) = _
  have e0 : entryN 5 [.d (tb n rs)] = [none, some (.d (tb n rs)), none, none, none] := rfl
  rw [e0]
  unfold d_Grid_init
  rw [nSet_ok (gi1 n rs) rfl gq1 (gs' := [("many", I n)]) rfl, nSet_ok (gi2 h) rfl (gq2 n) (gs' := g2 n rs) rfl, nSet_ok (gi3 hn) rfl (gq3 n rs) (gs' := g3 n rs) rfl, nSet_ok (gi4 hl) rfl (gq4 n rs) (gs' := g4 n rs) rfl]
  obtain ⟨δ', e⟩ := v_cols (n := n) h.len (.d (tb n rs)) (List.range n) none
  have hz := nCols_ok (f := "columns") (δ := [none, some (.d (tb n rs)), none, none, none]) (gi5 hn) e (g4_cols n rs) (show 4 < 10 by decide) (by rw [List.length_map, List.length_range]; exact hn)
  exact congrArg finN hz
theorem aug_ok {i : Nat} {g : S → S → R S} {f : Env → R S} {δ : Env} {x y : S} {z : PyData} (e1 : kV i δ = .ok x) (e2 : f δ = .ok y) (e3 : g x y = .ok (.d z)) : sAug i g f δ = .next (δ.set i (some (.d z))) := by
  unfold sAug
  rw [e1]
  show sE _ _ δ = _
  rw [sE_ok (s := .d z) (by rw [e2]; exact e3)]
  rfl
def gS_ (n : Nat) (rs : List Nat) : S := .obj 0 (gobj n rs)
@[simp] theorem kV_g {n : Nat} {rs : List Nat} {r : Env} : kV 0 (some (gS_ n rs) :: r) = .ok (gS_ n rs) := (rfl)
theorem go_many (n : Nat) (rs : List Nat) : fldS 0 "many" (gS_ n rs) = .ok (.d (I n)) := rfl
theorem go_rows (n : Nat) (rs : List Nat) : fldS 0 "rows" (gS_ n rs) = .ok (.d (.list (rs.map I))) := by simp [gS_, gobj, List.lookup]
theorem go_every (n : Nat) (rs : List Nat) : fldS 0 "every" (gS_ n rs) = .ok (.d (I (2 ^ n - 1))) := by simp [gS_, gobj, List.lookup]
theorem go_shells (n : Nat) (rs : List Nat) : fldS 0 "all_shells" (gS_ n rs) = .ok (.d (I (2 ^ rs.length - 1))) := by simp [gS_, gobj, List.lookup]
theorem go_cols (n : Nat) (rs : List Nat) : fldS 0 "columns" (gS_ n rs) = .ok (.d (.list ((List.range n).map fun i => I (col rs i)))) := by simp [gS_, gobj, List.lookup]
def ands {α : Type} (l : List α) (p : α → Bool) (v : α → Nat) (a : Nat) : Nat := l.foldl (fun a x => if p x then a &&& v x else a) a
theorem ands_bit {α : Type} (p : α → Bool) (v : α → Nat) (k : Nat) : ∀ (l : List α) (a : Nat), (ands l p v a).testBit k = (a.testBit k && l.all fun x => !p x || (v x).testBit k)
  | [], a => by simp [ands]
  | x :: l, a => by
    have h : ands (x :: l) p v a = ands l p v (if p x then a &&& v x else a) := rfl
    rw [h, ands_bit p v k l, List.all_cons]
    cases p x
    · simp
    · simp [Nat.testBit_and, Bool.and_assoc]
def cm (rs : List Nat) (n s : Nat) : Nat := ands rs.zipIdx (fun p => s.testBit p.2) (·.1) (2 ^ n - 1)
def hv (rs : List Nat) (n m : Nat) : Nat := ands (List.range n) (fun i => m.testBit i) (col rs) (2 ^ rs.length - 1)
theorem v_common (n : Nat) (rs : List Nat) (s : Nat) : m_Grid_common [gS_ n rs, .d (I s)] = .ok (.d (I (cm rs n s))) := by
  show fin (d_Grid_common [some (gS_ n rs), some (.d (I s)), none, none, none]) = _
  refine fin_seq (asgd_ok (x := I (2 ^ n - 1)) (by rw [ap_kU, kV_g, R.ok_bind, go_every])) ?_
  obtain ⟨δ', e, o3, o4, rfl⟩ := for_rel (enc := fun p : Nat × Nat => .tuple [I p.2, I p.1]) (fun (a : Nat) δ => ∃ o3 o4, δ = [some (gS_ n rs), some (.d (I s)), some (.d (I a)), o3, o4]) (fun a p => if s.testBit p.2 then a &&& p.1 else a) rs.zipIdx (b := 2 ^ n - 1) (δ := [some (gS_ n rs), some (.d (I s)), none, none, none].set 2 (some (.d (I (2 ^ n - 1)))))
    (fi := iEnumF true (kU (fldS 0 "rows") (kV 0))) (g := gT [gN 3, gN 4]) (u := sIf (kBl (kB eqS (kB andS (kB shrS (kV 1) (kV 3)) (kC (.int 1))) (kC (.int 1)))) (sAug 2 andS (kV 4)) sNext) (by
      rw [ap_iEnum, ap_kU]
      simp only [List.set_cons_succ, List.set_cons_zero, kV_g, R.ok_bind, go_rows, itsJ_list, enum_nat]) ⟨none, none, rfl⟩ (fun a p δ m ⟨o3, o4, hδ⟩ => by
      subst hδ
      refine ⟨[some (gS_ n rs), some (.d (I s)), some (.d (I a)), some (.d (I p.2)), some (.d (I p.1))], [some (gS_ n rs), some (.d (I s)), some (.d (I (if s.testBit p.2 then a &&& p.1 else a))), some (.d (I p.2)), some (.d (I p.1))], by simp, ?_, _, _, rfl⟩
      rw [if_ok (c := s.testBit p.2) (by simp)]
      cases s.testBit p.2
      · rfl
      · rw [if_pos rfl, if_pos rfl]
        exact aug_ok (x := .d (I a)) (y := .d (I p.1)) (by simp) (by simp) (and_S a p.1))
  exact fin_seq e (fin_retE (s := .d (I (cm rs n s))) (by simp; rfl) rfl)
theorem enum_rng (n : Nat) (f : Nat → PyData) : enumP ((List.range n).map f) = (List.range n).map fun i : Nat => .tuple [I i, f i] := by
  unfold enumP
  rw [List.zipIdx_map, List.map_map]
  apply List.ext_getElem
  · simp
  · intro i h1 h2
    simp
theorem v_having (n : Nat) (rs : List Nat) (s : Nat) : m_Grid_having [gS_ n rs, .d (I s)] = .ok (.d (I (hv rs n s))) := by
  show fin (d_Grid_having [some (gS_ n rs), some (.d (I s)), none, none, none]) = _
  refine fin_seq (asgd_ok (x := I (2 ^ rs.length - 1)) (by rw [ap_kU, kV_g, R.ok_bind, go_shells])) ?_
  obtain ⟨δ', e, o3, o4, rfl⟩ := for_rel (enc := fun i : Nat => .tuple [I i, I (col rs i)]) (fun (a : Nat) δ => ∃ o3 o4, δ = [some (gS_ n rs), some (.d (I s)), some (.d (I a)), o3, o4]) (fun a i => if s.testBit i then a &&& col rs i else a) (List.range n) (b := 2 ^ rs.length - 1) (δ := [some (gS_ n rs), some (.d (I s)), none, none, none].set 2 (some (.d (I (2 ^ rs.length - 1)))))
    (fi := iEnumF true (kU (fldS 0 "columns") (kV 0))) (g := gT [gN 3, gN 4]) (u := sIf (kBl (kB eqS (kB andS (kB shrS (kV 1) (kV 3)) (kC (.int 1))) (kC (.int 1)))) (sAug 2 andS (kV 4)) sNext) (by
      rw [ap_iEnum, ap_kU]
      simp only [List.set_cons_succ, List.set_cons_zero, kV_g, R.ok_bind, go_cols, itsJ_list, enum_rng]) ⟨none, none, rfl⟩ (fun a i δ m ⟨o3, o4, hδ⟩ => by
      subst hδ
      refine ⟨[some (gS_ n rs), some (.d (I s)), some (.d (I a)), some (.d (I i)), some (.d (I (col rs i)))], [some (gS_ n rs), some (.d (I s)), some (.d (I (if s.testBit i then a &&& col rs i else a))), some (.d (I i)), some (.d (I (col rs i)))], by simp, ?_, _, _, rfl⟩
      rw [if_ok (c := s.testBit i) (by simp)]
      cases s.testBit i
      · rfl
      · rw [if_pos rfl, if_pos rfl]
        exact aug_ok (x := .d (I a)) (y := .d (I (col rs i))) (by simp) (by simp) (and_S a (col rs i)))
  exact fin_seq e (fin_retE (s := .d (I (hv rs n s))) (by simp; rfl) rfl)
def clo (rs : List Nat) (n m : Nat) : Nat := cm rs n (hv rs n m)
theorem v_closed (n : Nat) (rs : List Nat) (m : Nat) : m_Grid_closed [gS_ n rs, .d (I m)] = .ok (.d (I (clo rs n m))) := by
  show fin (d_Grid_closed [some (gS_ n rs), some (.d (I m))]) = _
  refine fin_retE (s := .d (I (clo rs n m))) ?_ rfl
  have e1 : kMeth 0 2 m_Grid_having (kV 0) (aCons (kV 1) aNil) [some (gS_ n rs), some (.d (I m))] = .ok (.d (I (hv rs n m))) := by
    rw [ap_kMeth (c := 0) (gs := gobj n rs) rfl]
    have := v_having n rs m
    unfold gS_ at this
    simp [this]
  rw [ap_kMeth (c := 0) (gs := gobj n rs) rfl, ap_aCons, e1]
  have := v_common n rs (hv rs n m)
  unfold gS_ at this
  simp [this, clo]
theorem rg_ok {fs : Env → R (List S)} {δ : Env} {k : Nat} (e : fs δ = .ok [.d (I k)]) (h : k ≤ 1000000) : iRg rg1S fs δ = .ok ((List.range k).map I) := by
  rw [ap_iRg, e, R.ok_bind]
  exact rng_map k h
theorem v_call (n : Nat) (rs : List Nat) (hn : n < 7) : m_closed_all [gS_ n rs] = .ok (.l .fr ((List.range (2 ^ n)).map fun m => I (clo rs n m))) := by
  show fin (d_closed_all [some (gS_ n rs), none]) = _
  have h64 : 2 ^ n ≤ 64 := Nat.pow_le_pow_right (by decide) (show n ≤ 6 by omega)
  refine fin_retE (s := .l .fr ((List.range (2 ^ n)).map fun m => I (clo rs n m))) ?_ rfl
  refine comp_map (enc := fun m : Nat => I m) _ (List.range (2 ^ n)) ?_ (by rw [List.length_range]; omega) fun a m => ?_
  · refine rg_ok ?_ (by omega)
    rw [ap_aCons, ap_kB, ap_kC, ap_kU, kV_g]
    simp only [R.ok_bind, go_many, pow_S n (show n ≤ 1000000 by omega), ap_aNil]
  · unfold turn
    rw [ap_gN]
    simp only [R.ok_bind, ap_tTrue, if_true]
    have := v_closed n rs a
    unfold gS_ at this
    rw [ap_kMeth (c := 0) (gs := gobj n rs) rfl]
    simp [wipeD, gS_, this]
theorem sub_nat (a b : Nat) (h : b ≤ a) : subS (.d (I a)) (.d (I b)) = .ok (.d (I (a - b))) := by
  rw [sub_S, ← Int.ofNat_sub h]
theorem v_make {n : Nat} {rs : List Nat} (h : Good n rs) (δ : Env) (i : Nat) (e : kV i δ = .ok (.d (tb n rs))) : kMake 0 1 m_Grid_init (aCons (kV i) aNil) δ = .ok (gS_ n rs) := by
  rw [ap_kMake, ap_aCons, e]
  have := v_grid h
  simp [allD, this, gS_]
theorem call_dt {n : Nat} {rs : List Nat} (h : Good n rs) (δ : Env) (i : Nat) (e : kV i δ = .ok (.d (tb n rs))) : sDrop (kCall 1 m_demand_table (aCons (kV i) aNil)) δ = .next δ := by
  refine drop_ok (s := .d .none) ?_
  rw [ap_kCall, ap_aCons, e]
  have := v_dtable h
  simp [this]
theorem f_bes : ((List.range 7).all fun n => (List.range (7 - n)).all fun k => (List.range (2 ^ n)).all fun r => (List.range (2 ^ k)).all fun s => decide (bt r ++ (bt s).map (n + ·) = bt (r + s * 2 ^ n))) = true := by decide +kernel
theorem bes_bt {n k r s : Nat} (h : n + k < 7) (hr : r < 2 ^ n) (hs : s < 2 ^ k) : bt r ++ (bt s).map (n + ·) = bt (r + s * 2 ^ n) :=
  of_decide_eq_true (all_lt (all_lt (all_lt (all_lt f_bes (show n < 7 by omega)) (show k < 7 - n by omega)) hr) hs)
theorem zip_maps {α β : Type} (f : α → PyData) (g : β → PyData) : ∀ (as : List α) (bs : List β), zipP (as.map f) (bs.map g) = (as.zip bs).map fun p => .tuple [f p.1, g p.2]
  | [], _ => by simp [zipP]
  | _ :: _, [] => by simp [zipP]
  | a :: as, b :: bs => by
    have := zip_maps f g as bs
    simp only [zipP] at this
    simp [zipP, this]
theorem bt_len (m : Nat) : (bt m).length ≤ 6 := by
  have := List.length_filter_le (fun i => m.testBit i) (List.range 6)
  rw [List.length_range] at this
  exact this
theorem ti_app (n : Nat) (x y : List Nat) : (PyData.tuple (x.map I ++ y.map fun i => I (n + i))) = ti (x ++ y.map (n + ·)) := by
  show PyData.tuple _ = PyData.tuple ((x ++ y.map (n + ·)).map I)
  rw [List.map_append, List.map_map]
  rfl
def lk (n r : Nat) : Nat := r + (2 ^ n - 1 - r) * 2 ^ n
theorem good_opp {n : Nat} {rs : List Nat} (h : Good n rs) : Good n (rs.map fun r => 2 ^ n - 1 - r) := by
  refine ⟨h.hn, by rw [List.length_map]; exact h.len, fun r hr => ?_⟩
  obtain ⟨a, _, rfl⟩ := List.mem_map.mp hr
  have := Nat.two_pow_pos n
  omega
theorem zip_map_self {α β γ : Type} (f : α → β) (g : α × β → γ) : ∀ l : List α, (l.zip (l.map f)).map g = l.map fun a => g (a, f a)
  | [] => rfl
  | a :: l => by rw [List.map_cons, List.zip_cons_cons, List.map_cons, List.map_cons, zip_map_self f g l]
theorem loop_relP {α β : Type} {enc : α → PyData} {Rl : β → Env → Prop} {st : β → α → β} {g : PyData → Env → R Env} {u : Env → SR} {b0 : β} {l : List α} (hs : ∀ p a q δ, l = p ++ a :: q → Rl (p.foldl st b0) δ → ∃ δ1 δ2, g (enc a) δ = .ok δ1 ∧ u δ1 = .next δ2 ∧ Rl (st (p.foldl st b0) a) δ2) :
    ∀ (q p : List α) δ, l = p ++ q → Rl (p.foldl st b0) δ → ∃ δ', sLoop g u (q.map enc) δ = .next δ' ∧ Rl (l.foldl st b0) δ'
  | [], p, δ, e, h => by
    rw [List.append_nil] at e
    exact ⟨δ, rfl, by rw [e]; exact h⟩
  | a :: q, p, δ, e, h => by
    obtain ⟨δ1, δ2, e1, e2, h2⟩ := hs p a q δ e h
    obtain ⟨δ', e3, h'⟩ := loop_relP hs q (p ++ [a]) δ2 (by rw [e]; simp) (by rw [List.foldl_append]; exact h2)
    refine ⟨δ', ?_, h'⟩
    rw [List.map_cons]
    unfold sLoop
    simp only [e1, e2]
    exact e3
theorem for_relP {α β : Type} {enc : α → PyData} (Rl : β → Env → Prop) (st : β → α → β) {fi : Env → R (List PyData)} {g : PyData → Env → R Env} {u : Env → SR} (l : List α) {b : β} {δ : Env} (hi : fi δ = .ok (l.map enc)) (h0 : Rl b δ)
    (hs : ∀ p a q δ, l = p ++ a :: q → Rl (p.foldl st b) δ → ∃ δ1 δ2, g (enc a) δ = .ok δ1 ∧ u δ1 = .next δ2 ∧ Rl (st (p.foldl st b) a) δ2) : ∃ δ', sFor fi g u δ = .next δ' ∧ Rl (l.foldl st b) δ' := by
  unfold sFor
  rw [hi]
  exact loop_relP hs l [] δ rfl h0
def hstep (c : Nat → Nat) (found : List Nat) (m : Nat) : List Nat := if c m != m && (found.filter fun o => o != m && (o &&& m == o)).all (fun o => c o &&& m == c o) then found ++ [m] else found
def heads (c : Nat → Nat) (l : List Nat) : List Nat := l.foldl (hstep c) []
theorem hstep_cases (c : Nat → Nat) (found : List Nat) (m : Nat) : hstep c found m = found ∨ hstep c found m = found ++ [m] := by
  unfold hstep
  split
  · exact .inr rfl
  · exact .inl rfl
theorem heads_from (c : Nat → Nat) : ∀ (l : List Nat) (f : List Nat), (∀ x ∈ l.foldl (hstep c) f, x ∈ f ∨ x ∈ l) ∧ (l.foldl (hstep c) f).length ≤ f.length + l.length ∧ (∀ x ∈ f, x ∈ l.foldl (hstep c) f)
  | [], f => ⟨fun x h => .inl h, Nat.le_refl _, fun x h => h⟩
  | m :: l, f => by
    obtain ⟨h1, h2, h3⟩ := heads_from c l (hstep c f m)
    rw [List.foldl_cons]
    rcases hstep_cases c f m with e | e
    · rw [e] at h1 h2 h3 ⊢
      refine ⟨fun x h => (h1 x h).imp id (List.mem_cons_of_mem _), ?_, h3⟩
      rw [List.length_cons]
      omega
    · rw [e] at h1 h2 h3 ⊢
      refine ⟨fun x h => ?_, ?_, fun x h => h3 x (List.mem_append_left _ h)⟩
      · rcases h1 x h with h | h
        · rcases List.mem_append.mp h with h | h
          · exact .inl h
          · exact .inr (by rw [List.mem_singleton.mp h]; exact List.mem_cons_self)
        · exact .inr (List.mem_cons_of_mem _ h)
      · rw [List.length_append, List.length_singleton] at h2
        rw [List.length_cons]
        omega
theorem allM_ok {n : Nat} (hn : n < 7) : (∀ m ∈ allM n, m < 2 ^ n) ∧ (∀ m, m < 2 ^ n → m ∈ allM n) ∧ (allM n).Pairwise fun a b => b &&& a ≠ b := by
  have h := all_lt f_allM hn
  obtain ⟨h1, h⟩ := Bool.and_eq_true_iff.mp h
  obtain ⟨h2, h3⟩ := Bool.and_eq_true_iff.mp h
  refine ⟨fun m hm => of_decide_eq_true (List.all_eq_true.mp h1 m hm), fun m hm => ?_, of_decide_eq_true h3⟩
  have := all_lt h2 hm
  exact List.contains_iff_mem.mp this
theorem f_len : ((List.range 7).all fun n => decide ((allM n).length ≤ 64)) = true := by decide +kernel
theorem allM_len {n : Nat} (hn : n < 7) : (allM n).length ≤ 64 := of_decide_eq_true (all_lt f_len hn)
theorem all_map {α : Type} (l : List α) (p : α → Bool) : (l.map p).all id = l.all p := by
  induction l with
  | nil => rfl
  | cons a l ih => simp only [List.map_cons, List.all_cons, ih]; rfl
theorem any_map {α : Type} (l : List α) (p : α → Bool) : (l.map p).any id = l.any p := by
  induction l with
  | nil => rfl
  | cons a l ih => simp only [List.map_cons, List.any_cons, ih]; rfl
theorem retO_ok {i : Nat} {δ : Env} {ds : List PyData} (e : δ[i]? = some (some (.l .ow ds))) : fin (sRetO i δ) = .ok (.l .fr ds) := by
  unfold sRetO
  rw [e]
  rfl
theorem ixc (c : Nat → Nat) {k m : Nat} (h : m < k) : ixS (.d (.list ((List.range k).map fun m => I (c m)))) (.d (I m)) = .ok (.d (I (c m))) := by
  rw [ix_lst, atI_n, List.getElem?_map, List.getElem?_range h]
  rfl
theorem v_heads (c : Nat → Nat) {n : Nat} (hn : n < 7) : m_heads_of [.d (I n), .d (.list ((List.range (2 ^ n)).map fun m => I (c m)))] = .ok (.l .fr ((heads c (allM n)).map I)) := by
  show fin (d_heads_of [some (.d (I n)), some (.d (.list ((List.range (2 ^ n)).map fun m => I (c m)))), none, none, none, none]) = _
  have ix := fun m (h : m < 2 ^ n) => ixc c h
  generalize hC : PyData.list ((List.range (2 ^ n)).map fun m => I (c m)) = C at *
  obtain ⟨a1, a2, a3⟩ := allM_ok hn
  refine fin_seq (asgO_ok (ds := []) (by simp)) ?_
  obtain ⟨δ', e, o3, o4, rfl⟩ := for_relP (enc := fun m : Nat => I m) (fun (f : List Nat) δ => ∃ o3 o4, δ = [some (.d (I n)), some (.d C), some (.l .ow (f.map I)), o3, o4, none]) (hstep c) (allM n) (b := []) (δ := [some (.d (I n)), some (.d C), some (.l .ow []), none, none, none])
    (fi := iVal true (kCall 1 m_all_masks (aCons (kV 0) aNil))) (g := gN 3) (u := sIf (kBl (kB neS (kB ixS (kV 1) (kV 3)) (kV 3))) (sSeq (sAsg 4 (kComp (iVal false (kV 2)) (gN 5) (tAndK (kBl (kB neS (kV 5) (kV 3))) (kTru (kCall 2 m_is_part (aCons (kV 5) (aCons (kV 3) aNil))))) (kV 5) [5])) (sIf (kTru (kCB (on1 allS) (aCons (kComp (iVal false (kV 4)) (gN 5) tTrue (kCall 2 m_is_part (aCons (kB ixS (kV 1) (kV 5)) (aCons (kV 3) aNil))) [5]) aNil))) (sApp 2 (kV 3)) sNext)) sNext)
    (by simp [v_all hn]) ⟨none, none, rfl⟩ (fun p m q δ hl ⟨o3, o4, hδ⟩ => by
      subst hδ
      obtain ⟨f1, f2, _⟩ := heads_from c p []
      have hp : ∀ x ∈ p.foldl (hstep c) [], x < 2 ^ n := fun x hx => by
        rcases f1 x hx with h | h
        · cases h
        · exact a1 x (by rw [hl]; exact List.mem_append_left _ h)
      have hm : m < 2 ^ n := a1 m (by rw [hl]; exact List.mem_append_right _ List.mem_cons_self)
      have hlen : (p.foldl (hstep c) []).length ≤ 64 := by
        have := allM_len hn
        rw [hl, List.length_append] at this
        simp at f2
        omega
      generalize p.foldl (hstep c) [] = F at *
      refine ⟨[some (.d (I n)), some (.d C), some (.l .ow (F.map I)), some (.d (I m)), o4, none], ?_⟩
      have e1 : kBl (kB neS (kB ixS (kV 1) (kV 3)) (kV 3)) [some (.d (I n)), some (.d C), some (.l .ow (F.map I)), some (.d (I m)), o4, none] = .ok (c m != m) := by
        simp [ix m hm, bne]
      have e2 : kComp (iVal false (kV 2)) (gN 5) (tAndK (kBl (kB neS (kV 5) (kV 3))) (kTru (kCall 2 m_is_part (aCons (kV 5) (aCons (kV 3) aNil))))) (kV 5) [5] [some (.d (I n)), some (.d C), some (.l .ow (F.map I)), some (.d (I m)), o4, none] = .ok (.l .fr ((F.filter fun o => o != m && (o &&& m == o)).map I)) := by
        refine comp_filter (enc := fun m : Nat => I m) _ _ F (by simp) (by omega) fun o ho => ?_
        cases h1 : (o == m) <;> cases h2 : (o &&& m == o) <;> simp [turn, wipeD, v_part, bne, h1, h2]
      have e3 : kTru (kCB (on1 allS) (aCons (kComp (iVal false (kV 4)) (gN 5) tTrue (kCall 2 m_is_part (aCons (kB ixS (kV 1) (kV 5)) (aCons (kV 3) aNil))) [5]) aNil)) [some (.d (I n)), some (.d C), some (.l .ow (F.map I)), some (.d (I m)), some (.d (.list ((F.filter fun o => o != m && (o &&& m == o)).map I))), none] = .ok ((F.filter fun o => o != m && (o &&& m == o)).all fun o => c o &&& m == c o) := by
        have hc : kComp (iVal false (kV 4)) (gN 5) tTrue (kCall 2 m_is_part (aCons (kB ixS (kV 1) (kV 5)) (aCons (kV 3) aNil))) [5] [some (.d (I n)), some (.d C), some (.l .ow (F.map I)), some (.d (I m)), some (.d (.list ((F.filter fun o => o != m && (o &&& m == o)).map I))), none] = .ok (.l .fr ((F.filter fun o => o != m && (o &&& m == o)).map fun o => .bool (c o &&& m == c o))) := by
          refine comp_map (enc := fun m : Nat => I m) _ _ (by simp) (Nat.le_trans (List.length_filter_le _ _) (by omega)) fun o ho => ?_
          simp [turn, wipeD, v_part, ix o (hp o (List.mem_filter.mp ho).1)]
        rw [ap_kTru, ap_kCB, ap_aCons, hc]
        simp [bls_map, all_map]
      refine ⟨[some (.d (I n)), some (.d C), some (.l .ow ((hstep c F m).map I)), some (.d (I m)), if c m != m then some (.d (.list ((F.filter fun o => o != m && (o &&& m == o)).map I))) else o4, none], by simp, ?_, _, _, rfl⟩
      rw [if_ok e1]
      unfold hstep
      cases hcm : (c m != m)
      · rfl
      · rw [if_pos rfl, if_pos rfl, seq_ok (asgl_ok e2)]
        refine Eq.trans (if_ok (u := sApp 2 (kV 3)) (w := sNext) e3) ?_
        cases hq : (F.filter fun o => o != m && (o &&& m == o)).all fun o => c o &&& m == c o
        · rfl
        · rw [if_pos rfl]
          refine (app_ok (xs := F.map I) (s := .d (I m)) (y := I m) rfl (by simp) rfl (by rw [List.length_map]; omega)).trans ?_
          simp)
  refine fin_seq e ?_
  exact retO_ok rfl
theorem sub_iff {a b : Nat} : a &&& b = a ↔ ∀ i, a.testBit i = true → b.testBit i = true := by
  constructor
  · intro h i hi
    rw [← h, Nat.testBit_and] at hi
    exact (Bool.and_eq_true_iff.mp hi).2
  · intro h
    apply Nat.eq_of_testBit_eq
    intro i
    rw [Nat.testBit_and]
    cases e : a.testBit i
    · rfl
    · rw [h i e]; rfl
theorem sub_le {a b : Nat} (h : a &&& b = a) : a ≤ b := by
  rw [← h]
  exact Nat.and_le_right
theorem col_gen (i : Nat) : ∀ (rs : List Nat) (s : Nat), (((rs.zipIdx s).filter fun p => p.1.testBit i).map fun p => 2 ^ p.2).sum = 2 ^ s * (rs.foldr (fun (r a : Nat) => (if r.testBit i then 1 else 0) + 2 * a) 0)
  | [], s => by simp
  | r :: rs, s => by
    rw [List.zipIdx_cons, List.filter_cons, List.foldr_cons]
    have ih := col_gen i rs (s + 1)
    cases h : r.testBit i
    · simp only [h, Bool.false_eq_true, if_false]
      rw [ih, Nat.pow_succ, Nat.mul_assoc, Nat.zero_add]
    · simp only [h, if_true, List.map_cons, List.sum_cons]
      rw [ih, Nat.pow_succ, Nat.mul_assoc, Nat.mul_add, Nat.mul_one]
theorem cb_bit (i : Nat) : ∀ (rs : List Nat) (k : Nat), (rs.foldr (fun (r a : Nat) => (if r.testBit i then 1 else 0) + 2 * a) 0).testBit k = (match rs[k]? with | some r => r.testBit i | none => false)
  | [], k => by simp
  | r :: rs, 0 => by
    rw [List.foldr_cons]
    simp only [List.getElem?_cons_zero]
    rw [Nat.testBit_zero]
    cases r.testBit i <;> simp <;> omega
  | r :: rs, k + 1 => by
    rw [List.foldr_cons, List.getElem?_cons_succ, ← cb_bit i rs k, Nat.testBit_succ]
    congr 1
    cases r.testBit i <;> simp <;> omega
theorem col_bit (rs : List Nat) (i k : Nat) : (col rs i).testBit k = (match rs[k]? with | some r => r.testBit i | none => false) := by
  unfold col
  rw [col_gen i rs 0, Nat.pow_zero, Nat.one_mul, cb_bit]
theorem hv_bit {rs : List Nat} {n m k : Nat} (hm : m < 2 ^ n) {r : Nat} (hk : rs[k]? = some r) : (hv rs n m).testBit k = true ↔ m &&& r = m := by
  have hlt : k < rs.length := (List.getElem?_eq_some_iff.mp hk).1
  unfold hv
  rw [ands_bit, Nat.testBit_two_pow_sub_one, decide_eq_true hlt, Bool.true_and, List.all_eq_true, sub_iff]
  constructor
  · intro h i hi
    have hin : i < n := by
      rcases Nat.lt_or_ge i n with z | z
      · exact z
      · rw [Nat.testBit_lt_two_pow (Nat.lt_of_lt_of_le hm (Nat.pow_le_pow_right (by decide) z))] at hi
        cases hi
    have := h i (List.mem_range.mpr hin)
    rw [hi, col_bit, hk] at this
    simpa using this
  · intro h i _
    cases e : m.testBit i
    · rfl
    · rw [col_bit, hk]
      simpa using h i e
theorem clo_bit {rs : List Nat} {n m : Nat} (hm : m < 2 ^ n) (i : Nat) : (clo rs n m).testBit i = true ↔ i < n ∧ ∀ r ∈ rs, m &&& r = m → r.testBit i = true := by
  unfold clo cm
  rw [ands_bit, Nat.testBit_two_pow_sub_one, Bool.and_eq_true_iff, decide_eq_true_iff, List.all_eq_true]
  refine and_congr_right fun _ => ?_
  constructor
  · intro h r hr hs
    obtain ⟨k, hk⟩ := List.mem_iff_getElem?.mp hr
    have := h (r, k) (List.mem_zipIdx_iff_getElem?.mpr hk)
    rw [(hv_bit hm hk).mpr hs] at this
    simpa using this
  · intro h p hp
    have hk := (zip_lt hp).1
    cases e : (hv rs n m).testBit p.2
    · rfl
    · have := h p.1 (List.mem_of_getElem? hk) ((hv_bit hm hk).mp e)
      rw [this]
      rfl
structure Cl (n : Nat) (c : Nat → Nat) : Prop where
  lt : ∀ m, m < 2 ^ n → c m < 2 ^ n
  ext : ∀ m, m < 2 ^ n → m &&& c m = m
  mono : ∀ a b, a < 2 ^ n → b < 2 ^ n → a &&& b = a → c a &&& c b = c a
  idem : ∀ m, m < 2 ^ n → c (c m) = c m
theorem bit_lt {n m : Nat} (h : ∀ i, m.testBit i = true → i < n) : m < 2 ^ n := by
  refine Nat.lt_pow_two_of_testBit m fun i hi => ?_
  cases e : m.testBit i
  · rfl
  · have := h i e
    omega
theorem sub_trans {a b c : Nat} (h1 : a &&& b = a) (h2 : b &&& c = b) : a &&& c = a := sub_iff.mpr fun i hi => sub_iff.mp h2 i (sub_iff.mp h1 i hi)
theorem sub_anti {a b : Nat} (h1 : a &&& b = a) (h2 : b &&& a = b) : a = b := Nat.le_antisymm (sub_le h1) (sub_le h2)
theorem lt_bit {n m i : Nat} (hm : m < 2 ^ n) (hi : m.testBit i = true) : i < n := by
  rcases Nat.lt_or_ge i n with z | z
  · exact z
  · rw [Nat.testBit_lt_two_pow (Nat.lt_of_lt_of_le hm (Nat.pow_le_pow_right (by decide) z))] at hi
    cases hi
theorem clo_cl (rs : List Nat) (n : Nat) : Cl n (clo rs n) := by
  have lt : ∀ m, m < 2 ^ n → clo rs n m < 2 ^ n := fun m hm => bit_lt fun i hi => ((clo_bit hm i).mp hi).1
  have ext : ∀ m, m < 2 ^ n → m &&& clo rs n m = m := fun m hm => sub_iff.mpr fun i hi => (clo_bit hm i).mpr ⟨lt_bit hm hi, fun r _ hs => sub_iff.mp hs i hi⟩
  have mono : ∀ a b, a < 2 ^ n → b < 2 ^ n → a &&& b = a → clo rs n a &&& clo rs n b = clo rs n a := fun a b ha hb hab => sub_iff.mpr fun i hi => (clo_bit hb i).mpr ⟨((clo_bit ha i).mp hi).1, fun r hr hs => ((clo_bit ha i).mp hi).2 r hr (sub_trans hab hs)⟩
  refine ⟨lt, ext, mono, fun m hm => sub_anti (sub_iff.mpr fun i hi => ?_) (ext _ (lt m hm))⟩
  have h2 := (clo_bit (lt m hm) i).mp hi
  exact (clo_bit hm i).mpr ⟨h2.1, fun r hr hs => h2.2 r hr (sub_iff.mpr fun j hj => ((clo_bit hm j).mp hj).2 r hr hs)⟩
def pass (ps : List (Nat × Nat)) (m : Nat) : Nat := ps.foldl (fun m p => if p.1 &&& m == p.1 then m ||| p.2 else m) m
def bm (c : Nat → Nat) (l : List Nat) : List (Nat × Nat) := (heads c l).map fun m => (m, c m - m)
theorem foldl_inv {α β : Type} (P : β → Prop) (st : β → α → β) : ∀ (l : List α) (b : β), (∀ b a, a ∈ l → P b → P (st b a)) → P b → P (l.foldl st b)
  | [], b, _, h => h
  | a :: l, b, hs, h => foldl_inv P st l (st b a) (fun b x m => hs b x (List.mem_cons_of_mem _ m)) (hs b a List.mem_cons_self h)
theorem sub_bits0 : ∀ (i a b : Nat), (∀ j, a.testBit j = true → b.testBit j = true) → a ≤ b → (b - a).testBit i = (b.testBit i && !a.testBit i)
  | 0, a, b, h, hl => by
    have h0 := h 0
    rw [Nat.testBit_zero, Nat.testBit_zero] at h0
    rw [Nat.testBit_zero, Nat.testBit_zero, Nat.testBit_zero]
    by_cases ha : a % 2 = 1
    · have hb : b % 2 = 1 := of_decide_eq_true (h0 (decide_eq_true ha))
      rw [decide_eq_true ha, decide_eq_true hb, decide_eq_false (by omega)]
      rfl
    · by_cases hb : b % 2 = 1
      · rw [decide_eq_false ha, decide_eq_true hb, decide_eq_true (by omega)]
        rfl
      · rw [decide_eq_false ha, decide_eq_false hb, decide_eq_false (by omega)]
        rfl
  | i + 1, a, b, h, hl => by
    have h0 := h 0
    rw [Nat.testBit_zero, Nat.testBit_zero] at h0
    have h1 : a % 2 = 1 → b % 2 = 1 := fun z => of_decide_eq_true (h0 (decide_eq_true z))
    rw [Nat.testBit_succ, Nat.testBit_succ, Nat.testBit_succ, show (b - a) / 2 = b / 2 - a / 2 by omega]
    refine sub_bits0 i (a / 2) (b / 2) (fun j hj => ?_) (by omega)
    rw [← Nat.testBit_succ] at hj ⊢
    exact h (j + 1) hj
theorem sub_bits {a b : Nat} (h : a &&& b = a) (i : Nat) : (b - a).testBit i = (b.testBit i && !a.testBit i) := sub_bits0 i a b (sub_iff.mp h) (sub_le h)
theorem or_sub {a b : Nat} (h : a &&& b = a) (x : Nat) (hx : a &&& x = a) : x ||| (b - a) = x ||| b := by
  apply Nat.eq_of_testBit_eq
  intro i
  rw [Nat.testBit_or, Nat.testBit_or, sub_bits h]
  cases ha : a.testBit i
  · simp
  · rw [sub_iff.mp hx i ha]; simp
theorem sub_refl (a : Nat) : a &&& a = a := Nat.and_self a
theorem or_le_sub {a b x : Nat} (h1 : a &&& x = a) (h2 : b &&& x = b) : (a ||| b) &&& x = a ||| b := sub_iff.mpr fun i hi => by
  rw [Nat.testBit_or] at hi
  rcases Bool.or_eq_true_iff.mp hi with h | h
  · exact sub_iff.mp h1 i h
  · exact sub_iff.mp h2 i h
theorem sub_orl (a b : Nat) : a &&& (a ||| b) = a := sub_iff.mpr fun i hi => by rw [Nat.testBit_or, hi]; rfl
theorem sub_orr (a b : Nat) : b &&& (a ||| b) = b := sub_iff.mpr fun i hi => by rw [Nat.testBit_or, hi]; simp
theorem rest_sub {a b x : Nat} (hab : a &&& b = a) (ha : a &&& x = a) : (b - a) &&& x = b - a ↔ b &&& x = b := by
  constructor
  · intro h
    refine sub_iff.mpr fun i hi => ?_
    cases e : a.testBit i
    · refine sub_iff.mp h i ?_
      rw [sub_bits hab, hi, e]; rfl
    · exact sub_iff.mp ha i e
  · intro h
    refine sub_iff.mpr fun i hi => ?_
    rw [sub_bits hab] at hi
    exact sub_iff.mp h i (Bool.and_eq_true_iff.mp hi).1
def obs (ps : List (Nat × Nat)) (x : Nat) : Prop := ∀ p ∈ ps, p.1 &&& x = p.1 → p.2 &&& x = p.2
theorem heads_mem {c : Nat → Nat} {l : List Nat} {o : Nat} (h : o ∈ heads c l) : o ∈ l := by
  rcases (heads_from c l []).1 o h with h | h
  · cases h
  · exact h
theorem base_full {n : Nat} {c : Nat → Nat} (C : Cl n c) {l : List Nat} (hl : ∀ m, m < 2 ^ n → m ∈ l) (hs : ∀ m ∈ l, m < 2 ^ n) {x : Nat} (hx : x < 2 ^ n) (ob : obs (bm c l) x) : c x = x := by
  obtain ⟨p, q, e⟩ := List.append_of_mem (hl x hx)
  have e0 : heads c l = (x :: q).foldl (hstep c) (p.foldl (hstep c) []) := by
    unfold heads
    rw [e, List.foldl_append]
  have sub : ∀ o ∈ p.foldl (hstep c) [], o ∈ heads c l := fun o ho => by
    rw [e0]
    exact (heads_from c (x :: q) _).2.2 o ho
  have rule : ∀ o ∈ heads c l, (o, c o - o) ∈ bm c l := fun o ho => List.mem_map.mpr ⟨o, ho, rfl⟩
  have stays : ∀ o ∈ heads c l, o &&& x = o → c o &&& x = c o := fun o ho hox => by
    have h1 := ob _ (rule o ho) hox
    exact (rest_sub (C.ext o (hs o (heads_mem ho))) hox).mp h1
  by_cases hc : c x = x
  · exact hc
  have hin : x ∈ heads c l := by
    rw [e0, List.foldl_cons]
    refine (heads_from c q _).2.2 x ?_
    have : hstep c (p.foldl (hstep c) []) x = p.foldl (hstep c) [] ++ [x] := by
      unfold hstep
      rw [if_pos]
      refine Bool.and_eq_true_iff.mpr ⟨by simpa using hc, List.all_eq_true.mpr fun o ho => ?_⟩
      obtain ⟨h1, h2⟩ := List.mem_filter.mp ho
      have h3 := (Bool.and_eq_true_iff.mp h2).2
      exact beq_iff_eq.mpr (stays o (sub o h1) (beq_iff_eq.mp h3))
    rw [this]
    exact List.mem_append_right _ List.mem_cons_self
  exact sub_anti (stays x hin (sub_refl x)) (C.ext x hx)
theorem step_sub (m : Nat) (p : Nat × Nat) : m &&& (if p.1 &&& m == p.1 then m ||| p.2 else m) = m := by
  split
  · exact sub_orl _ _
  · exact sub_refl _
theorem pass_sub : ∀ (ps : List (Nat × Nat)) (m : Nat), m &&& pass ps m = m
  | [], m => sub_refl m
  | p :: ps, m => sub_trans (step_sub m p) (pass_sub ps _)
theorem pass_fix : ∀ (ps : List (Nat × Nat)) (m : Nat), pass ps m = m → obs ps m
  | [], m, _, q, hq, _ => by cases hq
  | p :: ps, m, e, q, hq, hs => by
    have h1 : m &&& (if p.1 &&& m == p.1 then m ||| p.2 else m) = m := step_sub m p
    have h2 := pass_sub ps (if p.1 &&& m == p.1 then m ||| p.2 else m)
    have e' : pass ps (if p.1 &&& m == p.1 then m ||| p.2 else m) = m := e
    rw [e'] at h2
    have e3 : (if p.1 &&& m == p.1 then m ||| p.2 else m) = m := sub_anti h2 h1
    rcases List.mem_cons.mp hq with rfl | hq
    · rw [if_pos (beq_iff_eq.mpr hs)] at e3
      have := sub_orr m q.2
      rw [e3] at this
      exact this
    · rw [e3] at e'
      exact pass_fix ps m e' q hq hs
theorem pass_inv {n : Nat} {c : Nat → Nat} (C : Cl n c) {l : List Nat} (hs : ∀ m ∈ l, m < 2 ^ n) {m : Nat} (hm : m < 2 ^ n) (x : Nat) (h : m &&& x = m ∧ x &&& c m = x) : m &&& pass (bm c l) x = m ∧ pass (bm c l) x &&& c m = pass (bm c l) x := by
  unfold pass
  refine foldl_inv (fun x => m &&& x = m ∧ x &&& c m = x) _ (bm c l) x (fun y p hp hy => ?_) h
  obtain ⟨o, ho, rfl⟩ := List.mem_map.mp hp
  have hol := hs o (heads_mem ho)
  split
  · rename_i z
    have z := beq_iff_eq.mp z
    refine ⟨sub_trans hy.1 (sub_orl _ _), or_le_sub hy.2 ?_⟩
    have h1 : o &&& c m = o := sub_trans z hy.2
    have h2 := C.mono o (c m) hol (C.lt m hm) h1
    rw [C.idem m hm] at h2
    exact (rest_sub (C.ext o hol) h1).mpr h2
  · exact hy
theorem fix_is {n : Nat} {c : Nat → Nat} (C : Cl n c) {l : List Nat} (hl : ∀ m, m < 2 ^ n → m ∈ l) (hs : ∀ m ∈ l, m < 2 ^ n) {m r : Nat} (hm : m < 2 ^ n) (h : m &&& r = m ∧ r &&& c m = r) (e : pass (bm c l) r = r) : r = c m := by
  have hr : r < 2 ^ n := Nat.lt_of_le_of_lt (sub_le h.2) (C.lt m hm)
  have h1 := base_full C hl hs hr (pass_fix _ _ e)
  have h2 := C.mono m r hm hr h.1
  rw [h1] at h2
  exact sub_anti h.2 h2
abbrev ep (p : Nat × Nat) : PyData := .tuple [I p.1, I p.2]
abbrev er (p : Nat × Nat) : PyData := .tuple [ti (bt p.1), ti (bt p.2)]
theorem bm_lt {n : Nat} {c : Nat → Nat} (C : Cl n c) {l : List Nat} (hs : ∀ m ∈ l, m < 2 ^ n) {p : Nat × Nat} (hp : p ∈ bm c l) : p.1 < 2 ^ n ∧ p.2 < 2 ^ n := by
  obtain ⟨o, ho, rfl⟩ := List.mem_map.mp hp
  have h1 := hs o (heads_mem ho)
  have h2 := C.lt o h1
  exact ⟨h1, Nat.lt_of_le_of_lt (Nat.sub_le _ _) h2⟩
theorem heads_len (c : Nat → Nat) {n : Nat} (hn : n < 7) : (heads c (allM n)).length ≤ 64 := by
  have h1 := (heads_from c (allM n) []).2.1
  have h2 := allM_len hn
  unfold heads
  simp at h1
  omega
theorem v_bmasks {n : Nat} (hn : n < 7) {c : Nat → Nat} (C : Cl n c) : m_base_masks [.d (I n), .d (.list ((List.range (2 ^ n)).map fun m => I (c m)))] = .ok (.l .fr ((bm c (allM n)).map ep)) := by
  show fin (d_base_masks [some (.d (I n)), some (.d (.list ((List.range (2 ^ n)).map fun m => I (c m)))), none]) = _
  have ix := fun m (h : m < 2 ^ n) => ixc c h
  have hh := v_heads c hn
  generalize PyData.list ((List.range (2 ^ n)).map fun m => I (c m)) = L at *
  refine fin_retE (s := .l .fr ((bm c (allM n)).map ep)) ?_ rfl
  unfold bm
  rw [List.map_map]
  refine comp_map (enc := fun m : Nat => I m) (fun m => ep (m, c m - m)) (heads c (allM n)) (by simp [hh]) (Nat.le_trans (heads_len c hn) (by decide)) fun m hm => ?_
  have h1 := (allM_ok hn).1 m (heads_mem hm)
  have h2 := sub_nat (c m) m (sub_le (C.ext m h1))
  have h3 := ix m h1
  simp only [turn, ap_gN, R.ok_bind, wipeD, List.set_cons_succ, List.set_cons_zero, ap_tTrue, if_true, ap_kTup, ap_aCons, ap_kB, kV_s, kV_0d, h3, h2, ap_aNil, pds_cons, pds_nil, S.pd_d, List.length_cons, List.length_nil]
  rfl
theorem v_asrules (ps : List (Nat × Nat)) (hl : ps.length ≤ 1000000) (h : ∀ p ∈ ps, p.1 < 64 ∧ p.2 < 64) : m_as_rules [.d (.list (ps.map ep))] = .ok (.d (.tuple (ps.map er))) := by
  show fin (d_as_rules [some (.d (.list (ps.map ep))), none, none]) = _
  refine fin_retE (s := .d (.tuple (ps.map er))) ?_ rfl
  have hc : kComp (iVal false (kV 0)) (gT ((gN 1) :: ((gN 2) :: []))) tTrue (kTup (aCons (kCall 1 m_members_of (aCons (kV 1) aNil)) (aCons (kCall 1 m_members_of (aCons (kV 2) aNil)) aNil))) [1, 2] [some (.d (.list (ps.map ep))), none, none] = .ok (.l .fr (ps.map er)) := by
    refine comp_map (enc := ep) er ps (by simp) hl fun p hp => ?_
    have h1 := v_mem (h p hp).1
    have h2 := v_mem (h p hp).2
    simp only [turn, ap_gT, gAll_cons, gAll_nil, ap_gN, R.ok_bind, wipeD, List.set_cons_succ, List.set_cons_zero, ap_tTrue, if_true, ap_kTup, ap_aCons, ap_kCall, kV_s, kV_0d, ap_aNil, args_cons, args_nil, arg_d, List.length_cons, List.length_nil, decide_true, chk_true, h1, h2, pds_cons, pds_nil, S.pd_d]
    rfl
  rw [ap_kCB, ap_aCons, hc]
  simp
theorem v_base {n : Nat} {rs : List Nat} (h : Good n rs) : m_base [.d (tb n rs)] = .ok (.d (.tuple ((bm (clo rs n) (allM n)).map er))) := by
  show fin (d_base [some (.d (tb n rs))]) = _
  refine fin_seq (call_dt h _ 0 rfl) ?_
  refine fin_retE (s := .d (.tuple ((bm (clo rs n) (allM n)).map er))) ?_ rfl
  have h1 := v_make h [some (.d (tb n rs))] 0 rfl
  have h2 := v_call n rs h.hn
  have h3 := v_bmasks h.hn (clo_cl rs n)
  have h4 := v_asrules (bm (clo rs n) (allM n)) (by unfold bm; rw [List.length_map]; exact Nat.le_trans (heads_len _ h.hn) (by decide)) fun p hp => by
    have := bm_lt (clo_cl rs n) (allM_ok h.hn).1 hp
    have h64 : 2 ^ n ≤ 64 := Nat.pow_le_pow_right (by decide) (show n ≤ 6 from Nat.le_of_lt_succ h.hn)
    omega
  have ha : S.arg (gS_ n rs) = .ok (gS_ n rs) := rfl
  generalize (List.range (2 ^ n)).map (fun m => I (clo rs n m)) = L at *
  generalize (bm (clo rs n) (allM n)).map ep = L2 at *
  simp only [ap_kCall, ap_aCons, h1, R.ok_bind, ap_aNil, args_cons, args_nil, ha, List.length_cons, List.length_nil, decide_true, chk_true, h2, ap_kB, ap_kC, kV_0d, ix_tup, atI_0, arg_d, arg_fr, h3, h4]
theorem v_rule {n : Nat} (hn : n < 7) {p : Nat × Nat} (h : p.1 < 2 ^ n ∧ p.2 < 2 ^ n) : m_is_rule [.d (er p), .d (I n)] = .ok (.d (.bool true)) := by
  show fin (d_is_rule [some (.d (er p)), some (.d (I n))]) = _
  refine fin_retE (s := .d (.bool true)) ?_ rfl
  simp [v_tuple, v_set hn h.1, v_set hn h.2]
theorem v_rules {n : Nat} (hn : n < 7) {ps : List (Nat × Nat)} (hl : ps.length ≤ 64) (h : ∀ p ∈ ps, p.1 < 2 ^ n ∧ p.2 < 2 ^ n) : m_are_rules [.d (.tuple (ps.map er)), .d (I n)] = .ok (.d (.bool true)) := by
  show fin (d_are_rules [some (.d (.tuple (ps.map er))), some (.d (I n)), none]) = _
  refine fin_retE (s := .d (.bool true)) ?_ rfl
  have hc : kComp (iVal false (kV 0)) (gN 2) tTrue (kCall 2 m_is_rule (aCons (kV 2) (aCons (kV 1) aNil))) [2] [some (.d (.tuple (ps.map er))), some (.d (I n)), none] = .ok (.l .fr (ps.map fun _ => .bool true)) := by
    refine comp_map (enc := er) _ ps (by simp) (by omega) fun p hp => ?_
    have := v_rule hn (h p hp)
    simp only [turn, ap_gN, R.ok_bind, wipeD, List.set_cons_succ, List.set_cons_zero, ap_tTrue, if_true, ap_kCall, ap_aCons, kV_s, kV_0d, ap_aNil, args_cons, args_nil, arg_d, List.length_cons, List.length_nil, decide_true, chk_true, this, S.pd_d]
  rw [ap_kAnd, ap_kCB, ap_aCons, hc]
  have h8 : (ps.length : Int) ≤ 64 := by omega
  simp [v_tuple, bls_map, h8]
theorem v_drules {n : Nat} (hn : n < 7) {ps : List (Nat × Nat)} (hl : ps.length ≤ 64) (h : ∀ p ∈ ps, p.1 < 2 ^ n ∧ p.2 < 2 ^ n) : m_demand_rules [.d (I n), .d (.tuple (ps.map er))] = .ok (.d .none) := by
  show fin (d_demand_rules [some (.d (I n)), some (.d (.tuple (ps.map er)))]) = _
  have h6 : ((n : Int) ≤ 6) := by omega
  have h1 := v_demand (.str "many")
  have h2 := v_demand (.str "rules")
  have h3 := v_rules hn hl h
  refine fin_seq (drop_ok (s := .d .none) ?_) ?_
  · simp [v_is_in, h6, h1]
  · rw [drop_ok (s := .d .none)]
    · rfl
    · simp [h3, h2]
theorem v_masks (ps : List (Nat × Nat)) (hl : ps.length ≤ 64) (h : ∀ p ∈ ps, p.1 < 64 ∧ p.2 < 64) : m_masks_of [.d (.tuple (ps.map er))] = .ok (.l .fr (ps.map ep)) := by
  show fin (d_masks_of [some (.d (.tuple (ps.map er))), none, none]) = _
  refine fin_retE (s := .l .fr (ps.map ep)) ?_ rfl
  refine comp_map (enc := er) ep ps (by simp) (by omega) fun p hp => ?_
  have h1 := v_mask (h p hp).1
  have h2 := v_mask (h p hp).2
  simp only [turn, ap_gT, gAll_cons, gAll_nil, ap_gN, R.ok_bind, wipeD, List.set_cons_succ, List.set_cons_zero, ap_tTrue, if_true, ap_kTup, ap_aCons, ap_kCall, kV_s, kV_0d, ap_aNil, args_cons, args_nil, arg_d, List.length_cons, List.length_nil, decide_true, chk_true, h1, h2, pds_cons, pds_nil, S.pd_d]
  rfl
theorem or_nat (a b : Nat) : Builtin.bitOr (a : Int) (b : Int) = ((a ||| b : Nat) : Int) := by
  have na : ∀ a : Nat, Builtin.bitNot (a : Int) = -((a : Int) + 1) := fun a => by unfold Builtin.bitNot; omega
  have nn : ∀ a : Nat, Builtin.bitNot (-((a : Int) + 1)) = (a : Int) := fun a => by unfold Builtin.bitNot; omega
  have d : ∀ a : Nat, decide ((0 : Int) ≤ -((a : Int) + 1)) = false := fun a => by rw [decide_eq_false_iff_not]; omega
  unfold Builtin.bitOr
  rw [na, na]
  unfold Builtin.bitAnd
  rw [d, d]
  simp only [nn, Int.toNat_natCast]
  rw [na, nn]
theorem or_S (a b : Nat) : orS (.d (I a)) (.d (I b)) = .ok (.d (I (a ||| b))) := by
  show R.ok (S.d (.int (Builtin.bitOr (a : Int) (b : Int)))) = _
  rw [or_nat]
abbrev cE (ps : List (Nat × Nat)) (m : Nat) (b : PyData) (o3 o4 : Option S) : Env := [some (.d (.list (ps.map ep))), some (.d (I m)), some (.d b), o3, o4]
abbrev cBody : Env → SR := sSeq (sAsg 2 (kV 1)) (sFor (iVal true (kV 0)) (gT ((gN 3) :: ((gN 4) :: []))) (sIf (kTru (kCall 2 m_is_part (aCons (kV 3) (aCons (kV 1) aNil)))) (sAug 1 orS (kV 4)) sNext))
theorem c_turn (ps : List (Nat × Nat)) (m : Nat) (b : PyData) (o3 o4 : Option S) : ∃ o3' o4', cBody (cE ps m b o3 o4) = .next (cE ps (pass ps m) (I m) o3' o4') := by
  obtain ⟨δ', e, o3', o4', rfl⟩ := for_rel (enc := ep) (fun (a : Nat) δ => ∃ o3 o4, δ = cE ps a (I m) o3 o4) (fun m p => if p.1 &&& m == p.1 then m ||| p.2 else m) ps (b := m) (δ := cE ps m (I m) o3 o4) (fi := iVal true (kV 0)) (g := gT ((gN 3) :: ((gN 4) :: []))) (u := sIf (kTru (kCall 2 m_is_part (aCons (kV 3) (aCons (kV 1) aNil)))) (sAug 1 orS (kV 4)) sNext)
    (by simp) ⟨o3, o4, rfl⟩ (fun a p δ hp ⟨o3, o4, hδ⟩ => by
      subst hδ
      refine ⟨cE ps a (I m) (some (.d (I p.1))) (some (.d (I p.2))), cE ps (if p.1 &&& a == p.1 then a ||| p.2 else a) (I m) (some (.d (I p.1))) (some (.d (I p.2))), by simp, ?_, _, _, rfl⟩
      rw [if_ok (c := p.1 &&& a == p.1) (by simp [v_part])]
      cases p.1 &&& a == p.1
      · rfl
      · rw [if_pos rfl, if_pos rfl]
        exact aug_ok (x := .d (I a)) (y := .d (I p.2)) (by simp) (by simp) (or_S a p.2))
  refine ⟨o3', o4', ?_⟩
  refine seq_nx (δ' := cE ps m (I m) o3 o4) (asgd_ok (by simp)) e
theorem while_go {t : Env → R Bool} {u : Env → SR} {k : Nat} {δ δ2 : Env} (e1 : t δ = .ok true) (e2 : u δ = .next δ2) : sWhileN t u (k + 1) δ = sWhileN t u k δ2 := by
  conv => lhs; unfold sWhileN
  simp only [e1, e2]
theorem while_end {t : Env → R Bool} {u : Env → SR} {k : Nat} {δ : Env} (e1 : t δ = .ok false) : sWhileN t u (k + 1) δ = .next δ := by
  conv => lhs; unfold sWhileN
  simp only [e1]
theorem c_run (ps : List (Nat × Nat)) (N : Nat) (P : Nat → Prop) (hP : ∀ x, P x → P (pass ps x)) (hN : ∀ x, P x → x < N) : ∀ (k m : Nat) (b : Nat) (o3 o4 : Option S), P m → N ≤ m + k → b ≠ m →
    ∃ r o3' o4', sWhileN (kBl (kB neS (kV 2) (kV 1))) cBody (k + 1) (cE ps m (I b) o3 o4) = .next (cE ps r (I r) o3' o4') ∧ P r ∧ pass ps r = r
  | 0, m, b, o3, o4, h, hk, hb => by
    have := hN m h
    omega
  | k + 1, m, b, o3, o4, h, hk, hb => by
    obtain ⟨o3', o4', e⟩ := c_turn ps m (I b) o3 o4
    have et : kBl (kB neS (kV 2) (kV 1)) (cE ps m (I b) o3 o4) = .ok true := by simp [hb]
    rw [while_go et e]
    by_cases hp : pass ps m = m
    · rw [hp]
      refine ⟨m, o3', o4', ?_, h, hp⟩
      exact while_end (by simp)
    · have hlt : m < pass ps m := Nat.lt_of_le_of_ne (sub_le (pass_sub ps m)) (Ne.symm hp)
      exact c_run ps N P hP hN k (pass ps m) m o3' o4' (hP m h) (by omega) (fun z => hp z.symm)
theorem v_cmask (ps : List (Nat × Nat)) (N m : Nat) (hN : N ≤ 64) (P : Nat → Prop) (hP : ∀ x, P x → P (pass ps x)) (hlt : ∀ x, P x → x < N) (h : P m) : ∃ r, m_closed_mask [.d (.list (ps.map ep)), .d (I m)] = .ok (.d (I r)) ∧ P r ∧ pass ps r = r := by
  obtain ⟨o3', o4', e⟩ := c_turn ps m .none none none
  have hlt' : pass ps m < N := hlt _ (hP m h)
  have key : ∃ r o3 o4, sWhileN (kBl (kB neS (kV 2) (kV 1))) cBody 1000 (cE ps m .none none none) = .next (cE ps r (I r) o3 o4) ∧ P r ∧ pass ps r = r := by
    have et : kBl (kB neS (kV 2) (kV 1)) (cE ps m .none none none) = .ok true := by
      have : neS (.d .none) (.d (I m)) = .ok (.d (.bool true)) := rfl
      simp [this]
    rw [show (1000 : Nat) = 998 + 1 + 1 from rfl, while_go et e]
    by_cases hp : pass ps m = m
    · rw [hp]
      exact ⟨m, o3', o4', while_end (by simp), h, hp⟩
    · exact c_run ps N P hP hlt 998 (pass ps m) m o3' o4' (hP m h) (by omega) (fun z => hp z.symm)
  obtain ⟨r, o3, o4, e1, e2, e3⟩ := key
  refine ⟨r, ?_, e2, e3⟩
  show fin (d_closed_mask [some (.d (.list (ps.map ep))), some (.d (I m)), none, none, none]) = _
  refine fin_seq (δ' := cE ps m .none none none) (asgd_ok (by simp)) ?_
  refine fin_seq (δ' := cE ps r (I r) o3 o4) e1 ?_
  exact fin_retE (s := .d (I r)) (by simp) rfl
theorem v_cby {n : Nat} (hn : n < 7) {c : Nat → Nat} (C : Cl n c) {m : Nat} (hm : m < 2 ^ n) : m_closed_by [.d (I n), .d (.tuple ((bm c (allM n)).map er)), .d (ti (bt m))] = .ok (.d (ti (bt (c m)))) := by
  obtain ⟨a1, a2, a3⟩ := allM_ok hn
  have h64 : 2 ^ n ≤ 64 := Nat.pow_le_pow_right (by decide) (show n ≤ 6 by omega)
  have hl : (bm c (allM n)).length ≤ 64 := by unfold bm; rw [List.length_map]; exact heads_len c hn
  have hb := fun p (hp : p ∈ bm c (allM n)) => bm_lt C a1 hp
  obtain ⟨r, e, hr, hf⟩ := v_cmask (bm c (allM n)) (2 ^ n) m h64 (fun x => m &&& x = m ∧ x &&& c m = x) (fun x h => pass_inv C a1 hm x h) (fun x h => Nat.lt_of_le_of_lt (sub_le h.2) (C.lt m hm)) ⟨sub_refl m, C.ext m hm⟩
  have hrc := fix_is C a2 a1 hm hr hf
  subst hrc
  show fin (d_closed_by [some (.d (I n)), some (.d (.tuple ((bm c (allM n)).map er))), some (.d (ti (bt m)))]) = _
  have h1 := v_drules hn hl hb
  have h2 := v_demand (.str "marks")
  have h3 := v_set hn hm
  have h4 := v_masks _ hl fun p hp => by
    have := hb p hp
    omega
  have h5 := v_mask (m := m) (by omega)
  have h6 := v_mem (m := c m) (by have := C.lt m hm; omega)
  refine fin_seq (drop_ok (s := .d .none) ?_) ?_
  · simp only [ap_kCall, ap_aCons, kV_0d, kV_s, R.ok_bind, ap_aNil, args_cons, args_nil, arg_d, List.length_cons, List.length_nil, decide_true, chk_true, h1]
  refine fin_seq (drop_ok (s := .d .none) ?_) ?_
  · simp only [ap_kCall, ap_aCons, ap_kC, kV_0d, kV_s, R.ok_bind, ap_aNil, args_cons, args_nil, arg_d, List.length_cons, List.length_nil, decide_true, chk_true, h2, h3]
  · refine fin_retE (s := .d (ti (bt (c m)))) ?_ rfl
    simp only [ap_kCall, ap_aCons, ap_kC, kV_0d, kV_s, R.ok_bind, ap_aNil, args_cons, args_nil, arg_d, arg_fr, List.length_cons, List.length_nil, decide_true, chk_true, h4, h5, e, h6]
mutual
theorem eqv_self : ∀ d : PyData, d.canLay0 = true → PyData.eqv d d = true
  | .none, _ => rfl
  | .bool b, _ => by simp [PyData.eqv]
  | .int b, _ => by simp [PyData.eqv]
  | .str b, _ => by simp [PyData.eqv]
  | .list xs, h => by
    have := eqvs_self xs (by simpa [PyData.canLay0] using h)
    simpa [PyData.eqv] using this
  | .tuple xs, h => by
    have := eqvs_self xs (by simpa [PyData.canLay0] using h)
    simpa [PyData.eqv] using this
  | .dict kvs, h => by simp [PyData.canLay0] at h
theorem eqvs_self : ∀ ds : List PyData, PyData.canLayAll0 ds = true → PyData.eqvAll ds ds = true
  | [], _ => rfl
  | d :: ds, h => by
    have h : (d.canLay0 && PyData.canLayAll0 ds) = true := by simpa [PyData.canLayAll0] using h
    obtain ⟨h1, h2⟩ := Bool.and_eq_true_iff.mp h
    have e1 := eqv_self d h1
    have e2 := eqvs_self ds h2
    simp [PyData.eqvAll, e1, e2]
end
def Fl (k : Nat) (d : PyData) : Prop := d.canLay0 = true ∧ d.depth ≤ k
theorem fl_int (i : Int) : Fl 0 (.int i) := ⟨rfl, Nat.le_refl _⟩
theorem fl_all {k : Nat} : ∀ {ds : List PyData}, (∀ d ∈ ds, Fl k d) → PyData.canLayAll0 ds = true ∧ PyData.depthAll ds ≤ k
  | [], _ => ⟨rfl, Nat.zero_le _⟩
  | d :: ds, h => by
    obtain ⟨h1, h2⟩ := h d List.mem_cons_self
    obtain ⟨h3, h4⟩ := fl_all fun x hx => h x (List.mem_cons_of_mem _ hx)
    refine ⟨?_, ?_⟩
    · show (d.canLay0 && PyData.canLayAll0 ds) = true
      rw [h1, h3]; rfl
    · show max d.depth (PyData.depthAll ds) ≤ k
      omega
theorem fl_tup {k : Nat} {ds : List PyData} (h : ∀ d ∈ ds, Fl k d) : Fl (k + 1) (.tuple ds) :=
  let ⟨a, b⟩ := fl_all h
  ⟨a, Nat.succ_le_succ b⟩
theorem fl_lst {k : Nat} {ds : List PyData} (h : ∀ d ∈ ds, Fl k d) : Fl (k + 1) (.list ds) :=
  let ⟨a, b⟩ := fl_all h
  ⟨a, Nat.succ_le_succ b⟩
theorem Fl.up {j k : Nat} {d : PyData} (h : Fl j d) (l : j ≤ k) : Fl k d := ⟨h.1, Nat.le_trans h.2 l⟩
theorem Fl.sh {k : Nat} {d : PyData} (h : Fl k d) (l : k ≤ 64) : SeqAt.shaped d = true := Bool.and_eq_true_iff.mpr ⟨h.1, decide_eq_true (Nat.le_trans h.2 l)⟩
theorem fl_ti (l : List Nat) : Fl 1 (ti l) := fl_tup fun d h => by
  obtain ⟨a, _, rfl⟩ := List.mem_map.mp h
  exact fl_int _
theorem fl_li (l : List Nat) : Fl 1 (.list (l.map I)) := fl_lst fun d h => by
  obtain ⟨a, _, rfl⟩ := List.mem_map.mp h
  exact fl_int _
theorem fl_er (p : Nat × Nat) : Fl 2 (er p) := fl_tup fun d h => by
  simp at h
  rcases h with rfl | rfl <;> exact fl_ti _
theorem fl_tb (n : Nat) (rs : List Nat) : Fl 3 (tb n rs) := fl_tup fun d h => by
  simp at h
  rcases h with rfl | rfl
  · exact (fl_int _).up (by decide)
  · refine fl_tup fun d h => ?_
    obtain ⟨a, _, rfl⟩ := List.mem_map.mp h
    exact fl_ti _
theorem ne_self {k : Nat} {d : PyData} (h : Fl k d) (l : k ≤ 64) : neS (.d d) (.d d) = .ok (.d (.bool false)) := by
  unfold neS sh2
  simp only [S.rd_d, R.ok_bind, h.sh l, eqv_self d h.1]
  rfl
theorem eqv_ints : ∀ (a b : List Nat), PyData.eqvAll (a.map I) (b.map I) = (a == b)
  | [], [] => rfl
  | [], _ :: _ => rfl
  | _ :: _, [] => rfl
  | x :: a, y :: b => by
    have h1 : PyData.eqv (I x) (I y) = (x == y) := beq_nat x y
    show (PyData.eqv (I x) (I y) && PyData.eqvAll (a.map I) (b.map I)) = _
    rw [h1, eqv_ints a b]
    rfl
theorem ne_ti (a b : List Nat) : neS (.d (ti a)) (.d (ti b)) = .ok (.d (.bool (a != b))) := by
  unfold neS sh2
  simp only [S.rd_d, R.ok_bind, (fl_ti a).sh (by decide), (fl_ti b).sh (by decide)]
  show R.ok (S.d (.bool (!PyData.eqvAll (a.map I) (b.map I)))) = _
  rw [eqv_ints]
  rfl
theorem any_eqv (k : Nat) : ∀ l : List Nat, anyEqv (l.map I) (I k) = l.contains k
  | [] => rfl
  | x :: l => by
    have h1 : PyData.eqv (I x) (I k) = (x == k) := beq_nat x k
    have h2 : anyEqv ((x :: l).map I) (I k) = (PyData.eqv (I x) (I k) || anyEqv (l.map I) (I k)) := rfl
    rw [h2, h1, any_eqv k l, List.contains_cons]
    congr 1
    by_cases h : x = k
    · subst h; rfl
    · rw [beq_eq_false_iff_ne.mpr h, beq_eq_false_iff_ne.mpr (Ne.symm h)]
theorem in_S (neg : Bool) (k : Nat) (l : List Nat) : inS neg (.d (I k)) (.d (ti l)) = .ok (.d (.bool (if neg then !l.contains k else l.contains k))) := by
  unfold inS sh2
  simp only [S.rd_d, R.ok_bind, S.its_t, (fl_int (k : Int)).sh (by decide), (fl_li l).sh (by decide)]
  show R.ok (S.d (.bool (if neg then !(anyEqv (l.map I) (I k)) else anyEqv (l.map I) (I k)))) = _
  rw [any_eqv]
theorem add_I (a b : Nat) : addS (.d (I a)) (.d (I b)) = .ok (.d (I (a + b))) := by
  rw [add_int, ← Int.natCast_add]
theorem add_ti (a b : List Nat) (h : a.length + b.length ≤ 1000000) : addS (.d (ti a)) (.d (ti b)) = .ok (.d (ti (a ++ b))) := by
  rw [add_tup, List.length_map, List.length_map, decide_eq_true h, chk_true, ← List.map_append]
theorem v_has (row marks : List Nat) (hl : marks.length ≤ 1000000) : m__law_has [.d (ti row), .d (ti marks)] = .ok (.d (.bool (marks.all row.contains))) := by
  show fin (d__law_has [some (.d (ti row)), some (.d (ti marks)), none]) = _
  refine fin_retE (s := .d (.bool (marks.all row.contains))) ?_ rfl
  have hc : kComp (iVal false (kV 1)) (gN 2) tTrue (kB (inS false) (kV 2) (kV 0)) [2] [some (.d (ti row)), some (.d (ti marks)), none] = .ok (.l .fr (marks.map fun k => .bool (row.contains k))) := by
    refine comp_map (enc := fun k : Nat => I k) _ marks (by simp) hl fun k hk => ?_
    simp only [turn, ap_gN, R.ok_bind, wipeD, List.set_cons_succ, List.set_cons_zero, ap_tTrue, if_true, ap_kB, kV_s, kV_0d, in_S, S.pd_d]
    rfl
  rw [ap_kCB, ap_aCons, hc]
  simp only [R.ok_bind, ap_aNil, on1_1, all_l, bls_map, all_map]
theorem f_has : ((List.range 64).all fun m => (List.range 64).all fun r => ((bt m).all (bt r).contains == (m &&& r == m))) = true := by decide +kernel
theorem has_bt {m r : Nat} (hm : m < 64) (hr : r < 64) : (bt m).all (bt r).contains = (m &&& r == m) := beq_iff_eq.mp (all_lt (all_lt f_has hm) hr)
theorem v_hasM {m r : Nat} (hm : m < 64) (hr : r < 64) : m__law_has [.d (ti (bt r)), .d (ti (bt m))] = .ok (.d (.bool (m &&& r == m))) := by
  rw [v_has _ _ (Nat.le_trans (bt_len m) (by decide)), has_bt hm hr]
theorem fold_filter {α : Type} (q : α → Bool) : ∀ (l f : List α), l.foldl (fun F p => if q p then F ++ [p] else F) f = f ++ l.filter q
  | [], f => by simp
  | a :: l, f => by
    rw [List.foldl_cons, fold_filter q l, List.filter_cons]
    cases q a <;> simp
def least (l : List Nat) : List Nat := l.filter fun o => !l.any fun x => x != o && (x &&& o == x)
theorem hv_zero {n : Nat} {rs : List Nat} {m : Nat} (hm : m < 2 ^ n) : (hv rs n m == 0) = !rs.any fun r => m &&& r == m := by
  cases e : rs.any fun r => m &&& r == m
  · have : hv rs n m = 0 := by
      apply Nat.eq_of_testBit_eq
      intro k
      rw [Nat.zero_testBit]
      cases hk : (hv rs n m).testBit k
      · rfl
      · have h1 := hk
        unfold hv at h1
        rw [ands_bit, Nat.testBit_two_pow_sub_one, Bool.and_eq_true_iff, decide_eq_true_iff] at h1
        have h2 := (hv_bit hm (List.getElem?_eq_getElem h1.1)).mp hk
        have h3 : rs.any (fun r => m &&& r == m) = true := List.any_eq_true.mpr ⟨_, List.getElem_mem h1.1, beq_iff_eq.mpr h2⟩
        rw [e] at h3
        cases h3
    rw [this]; rfl
  · obtain ⟨r, hr, hs⟩ := List.any_eq_true.mp e
    obtain ⟨k, hk⟩ := List.mem_iff_getElem?.mp hr
    have h1 := (hv_bit hm hk).mpr (beq_iff_eq.mp hs)
    have : hv rs n m ≠ 0 := fun z => by rw [z, Nat.zero_testBit] at h1; cases h1
    exact beq_eq_false_iff_ne.mpr this
theorem un2_ok {i j : Nat} {fs : Env → R (List S)} {δ : Env} {s t y z : S} (e : fs δ = .ok [s, t]) (e1 : s.arg = .ok y) (e2 : t.arg = .ok z) : sUn2 i j fs δ = .next ((δ.set i (some y)).set j (some z)) := by
  unfold sUn2
  rw [sA_ok e]
  simp only [e1, e2]
abbrev D3 (a b c : Int) : List PyData := [.int a, .int b, .int c]
@[simp] theorem int_S (i : Int) : intS (.d (.int i)) = .ok (.d (.int i)) := (rfl)
theorem mul_l {i j : Int} (h1 : -(2 ^ 64) < i) (h2 : i < 2 ^ 64) : mulS (.d (.int i)) (.d (.int j)) = .ok (.d (.int (i * j))) := by
  have : cMulB i j = true := by
    unfold cMulB
    rw [decide_eq_true h1, decide_eq_true h2]
    rfl
  show chk (cMulB i j) _ = _
  rw [this, chk_true]
theorem mul_r {i j : Int} (h1 : -(2 ^ 64) < j) (h2 : j < 2 ^ 64) : mulS (.d (.int i)) (.d (.int j)) = .ok (.d (.int (i * j))) := by
  have : cMulB i j = true := by
    unfold cMulB
    rw [decide_eq_true h1, decide_eq_true h2, Bool.or_eq_true]
    exact .inr rfl
  show chk (cMulB i j) _ = _
  rw [this, chk_true]
theorem mod_S {i j : Int} (h : j ≠ 0) : modS (.d (.int i)) (.d (.int j)) = .ok (.d (.int (i.fmod j))) := by
  unfold modS
  rw [ii_int, decide_eq_true h, chk_true]
theorem fdiv_S {i j : Int} (h : 0 < j) (h2 : j < 1073741824) : fdivS (.d (.int i)) (.d (.int j)) = .ok (.d (.int (i.fdiv j))) := by
  have : cDivB i j = true := by
    unfold cDivB
    rw [decide_eq_true (show j ≠ 0 by omega), decide_eq_true (show j.natAbs < 1073741824 by omega)]
    rfl
  unfold fdivS
  rw [ii_int, this, chk_true]
theorem gt_S (a b : Int) : gtS (.d (.int a)) (.d (.int b)) = .ok (.d (.bool (decide (b < a)))) := rfl
theorem stx_ok {i j : Nat} {fi : Env → R S} {s : S} {δ : Env} {ds : List PyData} {k : Int} {x : PyData} (h1 : δ[i]? = some (some (.l .ow ds))) (h2 : fi δ = .ok (.d (.int k))) (h3 : s.pd = .ok x) (h4 : ixN ds.length k = some j) : stIx i fi s δ = .next (δ.set i (some (.l .ow (ds.set j x)))) := by
  unfold stIx
  rw [h1, h2, h3]
  simp only [h4]
theorem sx_ok {f : Env → R S} {g : S → Env → SR} {δ : Env} {s : S} (h : f δ = .ok s) : sX (xP f) g δ = g s δ := by
  unfold sX xP
  rw [h]
theorem st0 (a b c x : Int) (r : Env) : stIx 0 (kC (.int 0)) (.d (.int x)) (some (.l .ow (D3 a b c)) :: r) = .next (some (.l .ow (D3 x b c)) :: r) := rfl
theorem st1 (a b c x : Int) (r : Env) : stIx 0 (kC (.int 1)) (.d (.int x)) (some (.l .ow (D3 a b c)) :: r) = .next (some (.l .ow (D3 a x c)) :: r) := rfl
theorem st2 (a b c x : Int) (r : Env) : stIx 0 (kC (.int 2)) (.d (.int x)) (some (.l .ow (D3 a b c)) :: r) = .next (some (.l .ow (D3 a b x)) :: r) := rfl
theorem seq_ret {u w : Env → SR} {δ δ' : Env} {s : S} (h : u δ = .ret s δ') : sSeq u w δ = .ret s δ' := by
  unfold sSeq
  rw [h]
theorem ix3 (a b c : Int) : ixS (.l .ow (D3 a b c)) (.d (.int 0)) = .ok (.d (.int a)) ∧ ixS (.l .ow (D3 a b c)) (.d (.int 1)) = .ok (.d (.int b)) ∧ ixS (.l .ow (D3 a b c)) (.d (.int 2)) = .ok (.d (.int c)) := ⟨rfl, rfl, rfl⟩
theorem v_roll (a b c t : Int) (h0 : 0 < t) (ht : t < 1073741824) (hc0 : 0 ≤ c) (hc : c < 1000000) : ∃ r a' b' c', m__law_roll [.l .ow (D3 a b c), .d (.int t)] = .ok (.d (.int r), [.l .ow (D3 a' b' c')]) ∧ 0 ≤ r ∧ r < t ∧ 0 ≤ c' ∧ c' ≤ c + 1 := by
  obtain ⟨i0, i1, i2⟩ := ix3 a b c
  have run : m__law_roll [.l .ow (D3 a b c), .d (.int t)] = finX [0] (d__law_roll [some (.l .ow (D3 a b c)), some (.d (.int t)), none]) := rfl
  by_cases ha : 0 < a
  · refine ⟨a.fmod t, a.fdiv t, b, c, ?_, Int.fmod_nonneg_of_pos _ h0, Int.fmod_lt_of_pos _ h0, hc0, by omega⟩
    have e : d__law_roll [some (.l .ow (D3 a b c)), some (.d (.int t)), none] = .ret (.d (.int (a.fmod t))) [some (.l .ow (D3 (a.fdiv t) b c)), some (.d (.int t)), some (.d (.int (a.fmod t)))] := by
      unfold d__law_roll
      refine seq_ret ?_
      rw [if_ok (c := true) (by simp only [ap_kBl, ap_kB, kV_0o, ap_kC, R.ok_bind, i0, gt_S, S.b_bool, decide_eq_true ha]), if_pos rfl]
      rw [seq_ok (asgd_ok (x := .int (a.fmod t)) (by simp only [ap_kB, ap_kCB, ap_aCons, ap_aNil, kV_0o, kV_s, kV_0d, ap_kC, R.ok_bind, i0, on1_1, int_S, mod_S (show t ≠ 0 by omega)]))]
      simp only [List.set_cons_succ, List.set_cons_zero]
      rw [seq_ok (δ' := [some (.l .ow (D3 (a.fdiv t) b c)), some (.d (.int t)), some (.d (.int (a.fmod t)))]) ((sx_ok (s := .d (.int (a.fdiv t))) (by simp only [ap_kB, kV_0o, kV_s, kV_0d, ap_kC, R.ok_bind, i0, fdiv_S h0 ht])).trans (st0 a b c (a.fdiv t) _))]
      exact ret_ok rfl
    rw [run, e]
    rfl
  · have hm : ∀ z : Int, (z.fmod 2147480009) = z.fmod 2147480009 := fun _ => rfl
    refine ⟨((((b * 48271 + (c + 1) * (c + 1) * 2003 + 91).fmod 2147480009).fdiv 197)).fmod t, a, (b * 48271 + (c + 1) * (c + 1) * 2003 + 91).fmod 2147480009, c + 1, ?_, Int.fmod_nonneg_of_pos _ h0, Int.fmod_lt_of_pos _ h0, by omega, by omega⟩
    generalize hb : (b * 48271 + (c + 1) * (c + 1) * 2003 + 91).fmod 2147480009 = b'
    obtain ⟨j0, j1, j2⟩ := ix3 a b (c + 1)
    obtain ⟨k0, k1, k2⟩ := ix3 a b' (c + 1)
    have e : d__law_roll [some (.l .ow (D3 a b c)), some (.d (.int t)), none] = .ret (.d (.int ((b'.fdiv 197).fmod t))) [some (.l .ow (D3 a b' (c + 1))), some (.d (.int t)), none] := by
      unfold d__law_roll
      rw [seq_ok (δ' := [some (.l .ow (D3 a b c)), some (.d (.int t)), none])]
      · rw [seq_ok (δ' := [some (.l .ow (D3 a b (c + 1))), some (.d (.int t)), none]) ((sx_ok (s := .d (.int (c + 1))) (by simp only [ap_kB, kV_0o, ap_kC, R.ok_bind, i2, add_int])).trans (st2 a b c (c + 1) _))]
        rw [seq_ok (δ' := [some (.l .ow (D3 a b' (c + 1))), some (.d (.int t)), none]) ((sx_ok (s := .d (.int b')) (by
          have m1 := mul_r (i := b) (j := 48271) (by decide) (by decide)
          have m2 := mul_l (i := c + 1) (j := c + 1) (by omega) (by omega)
          have m3 := mul_r (i := (c + 1) * (c + 1)) (j := 2003) (by decide) (by decide)
          have m4 := mod_S (i := b * 48271 + (c + 1) * (c + 1) * 2003 + 91) (j := 2147480009) (by decide)
          simp only [ap_kB, ap_kCB, ap_aCons, ap_aNil, kV_0o, ap_kC, R.ok_bind, j0, j1, j2, m1, m2, m3, add_int, on1_1, int_S, m4, hb])).trans (st1 a b (c + 1) b' _))]
        refine ret_ok ?_
        simp only [ap_kB, ap_kCB, ap_aCons, ap_aNil, kV_0o, kV_s, kV_0d, ap_kC, R.ok_bind, k1, on1_1, int_S, fdiv_S (i := b') (j := 197) (by decide) (by decide), mod_S (i := b'.fdiv 197) (show t ≠ 0 by omega)]
      · rw [if_ok (c := false) (by simp only [ap_kBl, ap_kB, kV_0o, ap_kC, R.ok_bind, i0, gt_S, S.b_bool, decide_eq_false ha])]
        rfl
    rw [run, e]
    rfl
theorem xcall1 {j : Nat} {f : Env → R S} {m : List S → R (S × List S)} {δ : Env} {s0 s t x z : S} (h0 : δ[j]? = some (some s0)) (ho : s0.own = true) (hf : f δ = .ok x) (hxo : x.own = false) (hx : x.arg = .ok z) (hm : m [s0, z] = .ok (s, [t])) (hs : s.still = true) : xCallX 2 [0] m (xaIo j (xaCons (xP f) xaNil)) δ = .ok (s, δ.set j (some t)) := by
  have e1 : xaIo j (xaCons (xP f) xaNil) δ = .ok ([.io j, .v x], δ) := by
    unfold xaIo
    rw [h0]
    simp only [ho]
    unfold xaIo0 xaCons xP xaNil
    simp only [hf, R.ok_bind, hxo]
  unfold xCallX
  rw [e1]
  have e2 : agArgs δ [.io j, .v x] = .ok [s0, z] := by
    unfold agArgs
    rw [h0]
    simp only [ho]
    unfold agArgs
    simp only [hx, R.ok_bind, agArgs]
  simp only [R.ok_bind, e2, agIo, List.map_cons, List.map_nil, List.length_cons, List.length_nil]
  rw [hm]
  simp only [R.ok_bind, hs, setAll]
  simp
theorem pick_at {α : Type} (xs : List α) (h : xs ≠ []) (r : Int) (h0 : 0 ≤ r) (h1 : r < xs.length) : ∃ x ∈ xs, atI xs r = some x := by
  obtain ⟨k, rfl⟩ := Int.eq_ofNat_of_zero_le h0
  have hk : k < xs.length := by omega
  exact ⟨xs[k], List.getElem_mem hk, by rw [atI_n, List.getElem?_eq_getElem hk]⟩
theorem v_pick (a b c : Int) (xs : List PyData) (h : xs ≠ []) (hl : xs.length ≤ 1000) (hc0 : 0 ≤ c) (hc : c < 1000000) : ∃ x ∈ xs, ∃ a' b' c', m__law_pick [.l .ow (D3 a b c), .d (.list xs)] = .ok (.d x, [.l .ow (D3 a' b' c')]) ∧ 0 ≤ c' ∧ c' ≤ c + 1 := by
  have hp : 0 < xs.length := List.length_pos_iff.mpr h
  obtain ⟨r, a', b', c', e, r0, r1, c0, c1⟩ := v_roll a b c xs.length (by omega) (by omega) hc0 hc
  obtain ⟨x, hx, ex⟩ := pick_at xs h r r0 r1
  refine ⟨x, hx, a', b', c', ?_, c0, c1⟩
  have e2 : xCallX 2 [0] m__law_roll (xaIo 0 (xaCons (xP (kCB (on1 lenS) (aCons (kV 1) aNil))) xaNil)) [some (.l .ow (D3 a b c)), some (.d (.list xs))] = .ok (.d (.int r), [some (.l .ow (D3 a' b' c')), some (.d (.list xs))]) :=
    xcall1 (s0 := .l .ow (D3 a b c)) (x := .d (.int xs.length)) (z := .d (.int xs.length)) rfl rfl (by simp) rfl rfl e rfl
  have e3 : d__law_pick [some (.l .ow (D3 a b c)), some (.d (.list xs))] = .ret (.d x) [some (.l .ow (D3 a' b' c')), some (.d (.list xs))] := by
    unfold d__law_pick sRetX sX
    have : (xB ixS (xP (kV 1)) (xCallX 2 [0] m__law_roll (xaIo 0 (xaCons (xP (kCB (on1 lenS) (aCons (kV 1) aNil))) xaNil)))) [some (.l .ow (D3 a b c)), some (.d (.list xs))] = .ok (.d x, [some (.l .ow (D3 a' b' c')), some (.d (.list xs))]) := by
      unfold xB
      have e4 : xP (kV 1) [some (.l .ow (D3 a b c)), some (.d (.list xs))] = .ok (.d (.list xs), [some (.l .ow (D3 a b c)), some (.d (.list xs))]) := rfl
      rw [e4, R.ok_bind]
      simp only [e2, R.ok_bind]
      show (ixS (.d (.list xs)) (.d (.int r)) >>= fun z => _) = _
      rw [ix_lst, ex]
      rfl
    rw [this]
  show finX [0] (d__law_pick [some (.l .ow (D3 a b c)), some (.d (.list xs))]) = _
  rw [e3]
  rfl
theorem v_pick01 (a b c : Int) (xs : List PyData) (h : xs ≠ []) (hl : xs.length ≤ 1000) (hc0 : 0 ≤ c) (hc : c < 1000000) : ∃ x ∈ xs, ∃ a' b' c', m__law_pick_0_1 [.l .ow (D3 a b c), .l .ow xs] = .ok (.d x, [.l .ow (D3 a' b' c'), .l .ow xs]) ∧ 0 ≤ c' ∧ c' ≤ c + 1 := by
  have hp : 0 < xs.length := List.length_pos_iff.mpr h
  obtain ⟨r, a', b', c', e, r0, r1, c0, c1⟩ := v_roll a b c xs.length (by omega) (by omega) hc0 hc
  obtain ⟨x, hx, ex⟩ := pick_at xs h r r0 r1
  refine ⟨x, hx, a', b', c', ?_, c0, c1⟩
  have e2 : xCallX 2 [0] m__law_roll (xaIo 0 (xaCons (xP (kCB (on1 lenS) (aCons (kV 1) aNil))) xaNil)) [some (.l .ow (D3 a b c)), some (.l .ow xs)] = .ok (.d (.int r), [some (.l .ow (D3 a' b' c')), some (.l .ow xs)]) :=
    xcall1 (s0 := .l .ow (D3 a b c)) (x := .d (.int xs.length)) (z := .d (.int xs.length)) rfl rfl (by simp) rfl rfl e rfl
  have e3 : d__law_pick_0_1 [some (.l .ow (D3 a b c)), some (.l .ow xs)] = .ret (.d x) [some (.l .ow (D3 a' b' c')), some (.l .ow xs)] := by
    unfold d__law_pick_0_1 sRetX sX
    have : (xIxV 1 (xCallX 2 [0] m__law_roll (xaIo 0 (xaCons (xP (kCB (on1 lenS) (aCons (kV 1) aNil))) xaNil)))) [some (.l .ow (D3 a b c)), some (.l .ow xs)] = .ok (.d x, [some (.l .ow (D3 a' b' c')), some (.l .ow xs)]) := by
      unfold xIxV
      rw [e2]
      show (ixS (.l .ow xs) (.d (.int r)) >>= fun z => _) = _
      rw [ix_l, ex]
      rfl
    rw [this]
  show finX [0, 1] (d__law_pick_0_1 [some (.l .ow (D3 a b c)), some (.l .ow xs)]) = _
  rw [e3]
  rfl
def mkN (p : Nat → Bool) : Nat → Nat
  | 0 => 0
  | n + 1 => mkN p n + (if p n then 2 ^ n else 0)
theorem mkN_lt (p : Nat → Bool) : ∀ n, mkN p n < 2 ^ n
  | 0 => by simp [mkN]
  | n + 1 => by
    have := mkN_lt p n
    unfold mkN
    rw [Nat.pow_succ]
    split <;> omega
theorem mkN_bit (p : Nat → Bool) (i : Nat) : ∀ n, (mkN p n).testBit i = (decide (i < n) && p i)
  | 0 => by simp [mkN]
  | n + 1 => by
    have ih := mkN_bit p i n
    have lt := mkN_lt p n
    unfold mkN
    cases hp : p n
    · simp only [Bool.false_eq_true, if_false, Nat.add_zero]
      rw [ih]
      by_cases h : i < n
      · rw [decide_eq_true h, decide_eq_true (show i < n + 1 by omega)]
      · by_cases h2 : i = n
        · subst h2; simp [hp]
        · rw [decide_eq_false h, decide_eq_false (show ¬ i < n + 1 by omega)]
    · simp only [if_true]
      rw [Nat.add_comm]
      by_cases h : i < n
      · rw [Nat.testBit_two_pow_add_gt h, ih, decide_eq_true h, decide_eq_true (show i < n + 1 by omega)]
      · by_cases h2 : i = n
        · subst h2
          rw [Nat.testBit_two_pow_add_eq, ih]
          simp [hp]
        · rw [decide_eq_false (show ¬ i < n + 1 by omega), Bool.false_and]
          refine Nat.testBit_lt_two_pow (Nat.lt_of_lt_of_le (show 2 ^ n + mkN p n < 2 ^ (n + 1) by rw [Nat.pow_succ]; omega) (Nat.pow_le_pow_right (by decide) (by omega)))
theorem filter_range {n : Nat} (hn : n < 7) (p : Nat → Bool) : (List.range n).filter p = bt (mkN p n) := by
  unfold bt
  have e : (List.range 6).filter (fun i => (mkN p n).testBit i) = (List.range 6).filter (fun i => decide (i < n) && p i) := by
    congr 1
    funext i
    exact mkN_bit p i n
  rw [e]
  match n, hn with
  | 0, _ => simp
  | 1, _ => simp [List.range_succ, List.filter_cons]
  | 2, _ => simp [List.range_succ, List.filter_cons]
  | 3, _ => simp [List.range_succ, List.filter_cons]
  | 4, _ => simp [List.range_succ, List.filter_cons]
  | 5, _ => simp [List.range_succ, List.filter_cons]
  | 6, _ => simp [List.range_succ, List.filter_cons]
theorem roll_in {j : Nat} {δ : Env} {a b c r a' b' c' : Int} {t : Int} (h : δ[j]? = some (some (.l .ow (D3 a b c)))) (f : Env → R S) (hf : f δ = .ok (.d (.int t))) (e : m__law_roll [.l .ow (D3 a b c), .d (.int t)] = .ok (.d (.int r), [.l .ow (D3 a' b' c')])) :
    xCallX 2 [0] m__law_roll (xaIo j (xaCons (xP f) xaNil)) δ = .ok (.d (.int r), δ.set j (some (.l .ow (D3 a' b' c')))) := xcall1 h rfl hf rfl rfl e rfl
theorem xcomp_ok {fi : Env → R (List PyData)} {gg : PyData → Env → R Env} {t : XB} {f : XE} {vs : List Nat} {δ δ1 δ2 δ3 : Env} {ds xs : List PyData} (e1 : fi δ = .ok ds) (ew : wipeD δ vs = δ1) (e2 : compX gg t f vs ds δ1 = .ok (xs, δ2)) (hl : ds.length ≤ 1000000) (e3 : restD δ vs (wipeD δ2 vs) = δ3) : xComp (xI fi) gg t f vs δ = .ok (.l .fr xs, δ3) := by
  unfold xComp xI
  rw [e1]
  simp only [R.ok_bind]
  rw [ew, e2]
  simp only [R.ok_bind]
  rw [decide_eq_true hl, chk_true, e3]
theorem xof1 {f : XE} {g : S → R S} {δ δ1 : Env} {x z : S} (e : f δ = .ok (x, δ1)) (ho : x.own = false) (eg : g x = .ok z) : xOf (on1 g) (xaCons f xaNil) δ = .ok (z, δ1) := by
  unfold xOf xaCons xaNil
  rw [e]
  simp only [R.ok_bind, ho, agS, on1_1, eg]
theorem xcall01 {δ : Env} {a b c a' b' c' : Int} {xs : List PyData} {x : PyData} (h0 : δ[0]? = some (some (.l .ow (D3 a b c)))) (h3 : δ[3]? = some (some (.l .ow xs))) (hm : m__law_pick_0_1 [.l .ow (D3 a b c), .l .ow xs] = .ok (.d x, [.l .ow (D3 a' b' c'), .l .ow xs])) :
    xCallX 2 [0, 1] m__law_pick_0_1 (xaIo 0 (xaIo 3 xaNil)) δ = .ok (.d x, (δ.set 0 (some (.l .ow (D3 a' b' c')))).set 3 (some (.l .ow xs))) := by
  have e1 : xaIo 0 (xaIo 3 xaNil) δ = .ok ([.io 0, .io 3], δ) := by
    have e3 : xaIo 3 xaNil δ = .ok ([.io 3], δ) := by
      unfold xaIo
      rw [h3]
      rfl
    unfold xaIo
    rw [h0]
    show xaIo0 0 (xaIo 3 xaNil) δ = _
    unfold xaIo0
    rw [e3]
    rfl
  unfold xCallX
  rw [e1]
  have e2 : agArgs δ [.io 0, .io 3] = .ok [.l .ow (D3 a b c), .l .ow xs] := by
    unfold agArgs
    rw [h0]
    show ((agArgs δ [.io 3]) >>= fun zs => _) = _
    unfold agArgs
    rw [h3]
    rfl
  simp only [R.ok_bind, e2, agIo, List.map_cons, List.map_nil, List.length_cons, List.length_nil]
  rw [hm]
  simp only [R.ok_bind, setAll]
  rfl
theorem xtup2 {A B : XE} {δ δ1 δ2 : Env} {x y : S} {u v : PyData} (e1 : A δ = .ok (x, δ1)) (e2 : B δ1 = .ok (y, δ2)) (h1 : x.own = false) (h2 : y.own = false) (p1 : x.pd = .ok u) (p2 : y.pd = .ok v) : xOf tupA (xaCons A (xaCons B xaNil)) δ = .ok (.d (.tuple [u, v]), δ2) := by
  have e3 : xaCons B xaNil δ1 = .ok ([.v y], δ2) := by
    unfold xaCons xaNil
    rw [e2]
    simp only [R.ok_bind, h2]
  have e4 : xaCons A (xaCons B xaNil) δ = .ok ([.v x, .v y], δ2) := by
    unfold xaCons at e3 ⊢
    rw [e1]
    simp only [R.ok_bind]
    rw [e3]
    simp only [R.ok_bind, h1]
  unfold xOf
  rw [e4]
  simp only [R.ok_bind, agS, tupA, pds_cons, pds_nil, p1, p2]
  rfl
theorem sX_ok {f : XE} {g : S → Env → SR} {δ δ1 : Env} {s : S} (e : f δ = .ok (s, δ1)) : sX f g δ = g s δ1 := by
  unfold sX
  rw [e]
theorem asgX_ok {i : Nat} {f : XE} {δ δ1 : Env} {x : PyData} (e : f δ = .ok (.d x, δ1)) : sAsgX i f δ = .next (δ1.set i (some (.d x))) := by
  unfold sAsgX
  rw [sX_ok e]
  rfl
theorem xrg1_ok {A : XE} {δ δ1 : Env} {k : Nat} (e : A δ = .ok (.d (I k), δ1)) (hk : k ≤ 1000000) : xRg1 (xaCons A xaNil) δ = .ok ((List.range k).map I, δ1) := by
  have e3 : xaCons A xaNil δ = .ok ([.v (.d (I k))], δ1) := by
    unfold xaCons xaNil
    rw [e]
    rfl
  unfold xRg1
  rw [e3]
  simp only [R.ok_bind, agS, rng_map k hk]
theorem forX_rel {α β : Type} {enc : α → PyData} (Rl : β → Env → Prop) (st : β → α → β) {fi : XI} {g : PyData → Env → R Env} {u : Env → SR} (l : List α) {b : β} {δ δ1 : Env} (hi : fi δ = .ok (l.map enc, δ1)) (h0 : Rl b δ1)
    (hs : ∀ p a q δ, l = p ++ a :: q → Rl (p.foldl st b) δ → ∃ δ1 δ2, g (enc a) δ = .ok δ1 ∧ u δ1 = .next δ2 ∧ Rl (st (p.foldl st b) a) δ2) : ∃ δ', sForX fi g u δ = .next δ' ∧ Rl (l.foldl st b) δ' := by
  unfold sForX
  rw [hi]
  exact loop_relP hs l [] δ1 rfl h0
theorem count_fold {α : Type} : ∀ (l : List α) (k : Nat), l.foldl (fun (b : Nat) _ => b + 1) k = k + l.length
  | [], k => rfl
  | a :: l, k => by rw [List.foldl_cons, count_fold l, List.length_cons]; omega
theorem pow_16 : powS (.d (.int 10)) (.d (.int 16)) = .ok (.d (.int 10000000000000000)) := by
  have h : cPowB 10 16 = true := by decide +kernel
  unfold powS
  rw [ii_int, h, chk_true]
  rfl
theorem ge_S (a b : Int) : geS (.d (.int a)) (.d (.int b)) = .ok (.d (.bool (decide (b ≤ a)))) := rfl
theorem abs_S (a : Int) : absS (.d (.int a)) = .ok (.d (.int (if a < 0 then -a else a))) := rfl
theorem cut_map (ns : List Int) (lo hi : Option Int) : ∃ ms : List Int, cutP (ns.map PyData.int) lo hi = ms.map PyData.int ∧ ms.length ≤ ns.length := by
  unfold cutP
  rw [← List.map_drop, ← List.map_take]
  refine ⟨_, rfl, ?_⟩
  rw [List.length_take, List.length_drop]
  omega
theorem add_fr (a b : List PyData) (h : a.length + b.length ≤ 1000000) : addS (.l .fr a) (.l .fr b) = .ok (.l .fr (a ++ b)) := by
  have : addS (.l .fr a) (.l .fr b) = chk (decide (a.length + b.length ≤ 1000000)) (.ok (.l .fr (a ++ b))) := rfl
  rw [this, decide_eq_true h, chk_true]
theorem v_dice (ns : List Int) (hl : ns.length ≤ 63) (spot : Nat) : ∃ a b : Int, m__law_dice [.d (.list (ns.map PyData.int)), .d (I spot)] = .ok (.l .fr (D3 a b 0)) := by
  obtain ⟨o, eo⟩ : ∃ o : Int, (kIf (kBl (kB ltS (kV 1) (kCB (on1 lenS) (aCons (kV 0) aNil)))) (kB ixS (kV 0) (kV 1)) (kB addS (kB mulS (kC (.int 811)) (kV 1)) (kC (.int 37)))) [some (.d (.list (ns.map PyData.int))), some (.d (I spot)), none, none, none] = .ok (.d (.int o)) := by
    have e1 : kBl (kB ltS (kV 1) (kCB (on1 lenS) (aCons (kV 0) aNil))) [some (.d (.list (ns.map PyData.int))), some (.d (I spot)), none, none, none] = .ok (decide (spot < ns.length)) := by
      simp only [ap_kBl, ap_kB, ap_kCB, ap_aCons, ap_aNil, kV_s, kV_0d, R.ok_bind, on1_1, len_lst, lt_S, S.b_bool, List.length_map]
      congr 1
      exact decide_eq_decide.mpr (by omega)
    rw [ap_kIf, e1, R.ok_bind]
    by_cases h : spot < ns.length
    · rw [decide_eq_true h, if_pos rfl]
      refine ⟨ns[spot], ?_⟩
      simp only [ap_kB, kV_s, kV_0d, R.ok_bind, ix_lst, atI_n]
      rw [List.getElem?_map, List.getElem?_eq_getElem h]
      rfl
    · rw [decide_eq_false h, if_neg (by decide)]
      refine ⟨811 * (spot : Int) + 37, ?_⟩
      simp only [ap_kB, kV_s, kV_0d, R.ok_bind, ap_kC, mul_l (i := 811) (j := (spot : Int)) (by decide) (by decide), add_int]
  have run : m__law_dice [.d (.list (ns.map PyData.int)), .d (I spot)] = fin (d__law_dice [some (.d (.list (ns.map PyData.int))), some (.d (I spot)), none, none, none]) := rfl
  obtain ⟨ms, em, lm⟩ := cut_map ns none (some 6)
  obtain ⟨δ', ef, mx, o4, rfl⟩ := for_rel (enc := fun i : Int => PyData.int i) (fun (_ : Unit) δ => ∃ mx o4, δ = [some (.d (.list (ns.map PyData.int))), some (.d (I spot)), some (.d (.int o)), some (.d (.int mx)), o4]) (fun _ _ => ()) (ms ++ [o]) (b := ()) (δ := [some (.d (.list (ns.map PyData.int))), some (.d (I spot)), some (.d (.int o)), some (.d (.int (700001 + 6947 * (spot : Int)))), none])
    (fi := iVal true (kB addS (kSl (kV 0) oNo (oSome (kC (.int 6)))) (kLst (aCons (kV 2) aNil)))) (g := gN 4) (u := sAsg 3 (kB modS (kCB (on1 intS) (aCons (kB addS (kB mulS (kV 3) (kC (.int 69621))) (kB modS (kCB (on1 intS) (aCons (kV 4) aNil)) (kC (.int 2147480009)))) aNil)) (kC (.int 2147480009))))
    (by
      have es : slS (.d (.list (ns.map PyData.int))) none (some 6) = .ok (.l .fr (ms.map PyData.int)) := by
        rw [← em]
        rfl
      have ea := add_fr (ms.map PyData.int) [PyData.int o] (by rw [List.length_map, List.length_singleton]; omega)
      simp only [ap_iVal, ap_kB, ap_kSl, ap_oNo, ap_oSome, ap_kC, kV_s, kV_0d, R.ok_bind, S.i_int, es, ap_kLst, ap_aCons, ap_aNil, pds_cons, pds_nil, S.pd_d]
      rw [List.length_cons, List.length_nil, decide_eq_true (show 0 + 1 ≤ 1000000 by decide), chk_true]
      simp only [R.ok_bind, ea, itsI_fr]
      rw [List.map_append]
      rfl) ⟨_, none, rfl⟩ (fun _ i δ _ ⟨mx, o4, hδ⟩ => by
      subst hδ
      refine ⟨[some (.d (.list (ns.map PyData.int))), some (.d (I spot)), some (.d (.int o)), some (.d (.int mx)), some (.d (.int i))], [some (.d (.list (ns.map PyData.int))), some (.d (I spot)), some (.d (.int o)), some (.d (.int ((mx * 69621 + i.fmod 2147480009).fmod 2147480009))), some (.d (.int i))], rfl, ?_, _, _, rfl⟩
      refine asgd_ok (x := .int ((mx * 69621 + i.fmod 2147480009).fmod 2147480009)) ?_
      have m1 := mul_r (i := mx) (j := 69621) (by decide) (by decide)
      have m2 := mod_S (i := i) (j := 2147480009) (by decide)
      have m3 := mod_S (i := mx * 69621 + i.fmod 2147480009) (j := 2147480009) (by decide)
      simp only [ap_kB, ap_kCB, ap_aCons, ap_aNil, kV_s, kV_0d, ap_kC, R.ok_bind, on1_1, int_S, m1, m2, add_int, m3])
  obtain ⟨a, ea⟩ : ∃ a : Int, (kIf (tOrK (kBl (kB ltS (kV 2) (kC (.int 0)))) (kBl (kB geS (kV 2) (kB powS (kC (.int 10)) (kC (.int 16)))))) (kCB (on1 absS) (aCons (kV 2) aNil)) (kC (.int 0))) [some (.d (.list (ns.map PyData.int))), some (.d (I spot)), some (.d (.int o)), some (.d (.int mx)), o4] = .ok (.d (.int a)) := by
    have et : ∃ t : Bool, tOrK (kBl (kB ltS (kV 2) (kC (.int 0)))) (kBl (kB geS (kV 2) (kB powS (kC (.int 10)) (kC (.int 16))))) [some (.d (.list (ns.map PyData.int))), some (.d (I spot)), some (.d (.int o)), some (.d (.int mx)), o4] = .ok t := by
      simp only [ap_tOr, ap_kBl, ap_kB, kV_s, kV_0d, ap_kC, R.ok_bind, lt_S, S.b_bool, pow_16, ge_S]
      cases decide (o < 0)
      · exact ⟨_, rfl⟩
      · exact ⟨_, rfl⟩
    obtain ⟨t, et⟩ := et
    rw [ap_kIf, et, R.ok_bind]
    cases t
    · exact ⟨0, rfl⟩
    · refine ⟨if o < 0 then -o else o, ?_⟩
      rw [if_pos rfl]
      simp only [ap_kCB, ap_aCons, ap_aNil, kV_s, kV_0d, R.ok_bind, on1_1, abs_S]
  refine ⟨a, mx, ?_⟩
  rw [run]
  unfold d__law_dice
  refine fin_seq (asgd_ok eo) ?_
  refine fin_seq (asgd_ok (x := .int (700001 + 6947 * (spot : Int))) ?_) ?_
  · simp only [List.set_cons_succ, List.set_cons_zero, ap_kB, kV_s, kV_0d, ap_kC, R.ok_bind, mul_l (i := 6947) (j := (spot : Int)) (by decide) (by decide), add_int]
  refine fin_seq ef ?_
  refine fin_retE (s := .l .fr (D3 a mx 0)) ?_ rfl
  rw [ap_kLst, ap_aCons, ea, R.ok_bind]
  simp only [ap_aCons, kV_s, kV_0d, R.ok_bind, ap_kC, ap_aNil, pds_cons, pds_nil, S.pd_d]
  rw [decide_eq_true (show [PyData.int a, PyData.int mx, PyData.int 0].length ≤ 1000000 by simp), chk_true]
theorem kV_at {δ : Env} {i : Nat} {x : PyData} (h : δ[i]? = some (some (.d x))) : kV i δ = .ok (.d x) := by
  unfold kV
  rw [h]
theorem kV_ow {δ : Env} {i : Nat} {x : List PyData} (h : δ[i]? = some (some (.l .ow x))) : kV i δ = .ok (.l .ow x) := by
  unfold kV
  rw [h]
theorem kV_cong {δ δ' : Env} {i : Nat} (h : δ'[i]? = δ[i]?) : kV i δ' = kV i δ := by
  unfold kV
  rw [h]
theorem w_ne {δ : Env} {i j : Nat} {y : Option S} (h : i ≠ j) : ((wipeD δ [j]).set j y)[i]? = δ[i]? := by
  show ((δ.set j none).set j y)[i]? = _
  rw [List.getElem?_set_ne (Ne.symm h), List.getElem?_set_ne (Ne.symm h)]
theorem kw_ne {δ : Env} {i j : Nat} {y : Option S} (h : i ≠ j) : kV i ((wipeD δ [j]).set j y) = kV i δ := kV_cong (w_ne h)
theorem kw_eq {δ : Env} {j : Nat} {x : PyData} (h : j < δ.length) : kV j ((wipeD δ [j]).set j (some (.d x))) = .ok (.d x) := by
  refine kV_at ?_
  show ((δ.set j none).set j (some (.d x)))[j]? = _
  rw [List.getElem?_set_self (by rw [List.length_set]; exact h)]
theorem w_len {δ : Env} {j : Nat} {y : Option S} : ((wipeD δ [j]).set j y).length = δ.length := by
  show ((δ.set j none).set j y).length = _
  rw [List.length_set, List.length_set]
structure Ex (vs : List Nat) (δ δ' : Env) : Prop where
  len : δ'.length = δ.length
  at_ : ∀ i, i ∉ vs → δ'[i]? = δ[i]?
theorem Ex.refl (vs : List Nat) (δ : Env) : Ex vs δ δ := ⟨rfl, fun _ _ => rfl⟩
theorem Ex.trans {us vs : List Nat} {δ δ' δ'' : Env} (a : Ex us δ δ') (b : Ex vs δ' δ'') : Ex (us ++ vs) δ δ'' :=
  ⟨b.len.trans a.len, fun i h => (b.at_ i fun z => h (List.mem_append_right _ z)).trans (a.at_ i fun z => h (List.mem_append_left _ z))⟩
theorem Ex.set (δ : Env) (j : Nat) (y : Option S) : Ex [j] δ (δ.set j y) := ⟨List.length_set, fun i h => List.getElem?_set_ne fun z => h (by simp [z])⟩
theorem set_at {δ : Env} {j : Nat} {y : Option S} (h : j < δ.length) : (δ.set j y)[j]? = some y := List.getElem?_set_self h
theorem f_full : ((List.range 7).all fun n => (List.range (2 ^ n)).all fun x => ((bt x).length == n) == (x == 2 ^ n - 1)) = true := by decide +kernel
theorem full_len {n x : Nat} (hn : n < 7) (hx : x < 2 ^ n) : ((bt x).length == n) = (x == 2 ^ n - 1) := beq_iff_eq.mp (all_lt (all_lt f_full hn) hx)
theorem least_below (A : List Nat) : ∀ (k m : Nat), m ≤ k → m ∈ A → ∃ o ∈ least A, o &&& m = o
  | k, m, hk, hm => by
    cases e : A.any fun x => x != m && (x &&& m == x)
    · exact ⟨m, List.mem_filter.mpr ⟨hm, by rw [e]; rfl⟩, sub_refl m⟩
    · obtain ⟨x, hx, hq⟩ := List.any_eq_true.mp e
      obtain ⟨h1, h2⟩ := Bool.and_eq_true_iff.mp hq
      have h1 : x ≠ m := by simpa using h1
      have h2 := beq_iff_eq.mp h2
      have hlt : x < m := Nat.lt_of_le_of_ne (sub_le h2) h1
      cases k with
      | zero => omega
      | succ k =>
        obtain ⟨o, ho, hs⟩ := least_below A k x (by omega) hx
        exact ⟨o, ho, sub_trans hs h2⟩
theorem rows_keep {rs : List Nat} {N : Nat} {l : List Nat} (hl : ∀ m ∈ l, m < 2 ^ N) {p : Nat × Nat} (hp : p ∈ bm (clo rs N) l) {r : Nat} (hr : r ∈ rs) (h : p.1 &&& r = p.1) : p.2 &&& r = p.2 := by
  obtain ⟨o, ho, rfl⟩ := List.mem_map.mp hp
  have hol := hl o (heads_mem ho)
  exact (rest_sub ((clo_cl rs N).ext o hol) h).mpr (sub_iff.mpr fun i hi => ((clo_bit hol i).mp hi).2 r hr h)
theorem bt_ne {a b : Nat} (ha : a < 64) (hb : b < 64) : (bt a != bt b) = (a != b) := by
  by_cases h : a = b
  · subst h; simp
  · have := of_decide_eq_true (all_lt (all_lt f_bt ha) hb)
    have h2 : bt a ≠ bt b := fun z => h (this z)
    rw [bne_iff_ne.mpr h, bne_iff_ne.mpr h2]
abbrev tis (l : List Nat) : List PyData := l.map fun r => ti (bt r)
theorem fold_map {α β : Type} (f : α → β) : ∀ (l : List α) (b : List β), l.foldl (fun F a => F ++ [f a]) b = b ++ l.map f
  | [], b => by simp
  | a :: l, b => by rw [List.foldl_cons, fold_map f l]; simp
theorem mul2 (n : Nat) : mulS (.d (.int 2)) (.d (I n)) = .ok (.d (I (n + n))) := by
  rw [mul_l (i := 2) (j := (n : Int)) (by decide) (by decide)]
  have : (2 : Int) * (n : Int) = ((n + n : Nat) : Int) := by omega
  rw [this]
theorem t_not {δ : Env} {f : Env → R S} {b : Bool} (e : f δ = .ok (.d (.bool b))) : tNotK (kTru f) δ = .ok (!b) := by
  rw [ap_tNot, ap_kTru, e]
  rfl
theorem t_and {δ : Env} {t u : Env → R Bool} {a b : Bool} (e1 : t δ = .ok a) (e2 : u δ = .ok b) : tAndK t u δ = .ok (a && b) := by
  rw [ap_tAnd, e1, R.ok_bind, e2]
  cases a <;> rfl
end G
end DL

set_option Elab.async false
set_option linter.all false
set_option maxRecDepth 100000
set_option maxHeartbeats 1000000
namespace DL
namespace G
open PySem PySem.Spec L2
/-! ### loops that may return -/
theorem loop_ret {α : Type} {enc : α → PyData} {Rl : Env → Prop} {q : α → Option S} {g : PyData → Env → R Env} {u : Env → SR} : ∀ (l : List α), (∀ a δ, a ∈ l → Rl δ → ∃ δ1, g (enc a) δ = .ok δ1 ∧ ((∃ s δ2, q a = some s ∧ u δ1 = .ret s δ2) ∨ (q a = none ∧ ∃ δ2, u δ1 = .next δ2 ∧ Rl δ2))) → ∀ δ, Rl δ →
    (∃ s δ2, l.findSome? q = some s ∧ sLoop g u (l.map enc) δ = .ret s δ2) ∨ (l.findSome? q = none ∧ ∃ δ2, sLoop g u (l.map enc) δ = .next δ2 ∧ Rl δ2)
  | [], _, δ, h => .inr ⟨rfl, δ, rfl, h⟩
  | a :: l, hs, δ, h => by
    obtain ⟨δ1, e1, h1⟩ := hs a δ List.mem_cons_self h
    rcases h1 with ⟨s, δ2, hq, hu⟩ | ⟨hq, δ2, hu, h2⟩
    · refine .inl ⟨s, δ2, ?_, ?_⟩
      · rw [List.findSome?_cons, hq]
      · rw [List.map_cons]
        unfold sLoop
        simp only [e1, hu]
    · have ih := loop_ret l (fun a δ m => hs a δ (List.mem_cons_of_mem _ m)) δ2 h2
      rw [List.findSome?_cons, hq, List.map_cons]
      unfold sLoop
      simp only [e1, hu]
      exact ih
theorem for_ret {α : Type} {enc : α → PyData} (Rl : Env → Prop) (q : α → Option S) {fi : Env → R (List PyData)} {g : PyData → Env → R Env} {u : Env → SR} (l : List α) {δ : Env} (hi : fi δ = .ok (l.map enc)) (h0 : Rl δ) (hs : ∀ a δ, a ∈ l → Rl δ → ∃ δ1, g (enc a) δ = .ok δ1 ∧ ((∃ s δ2, q a = some s ∧ u δ1 = .ret s δ2) ∨ (q a = none ∧ ∃ δ2, u δ1 = .next δ2 ∧ Rl δ2))) :
    (∃ s δ2, l.findSome? q = some s ∧ sFor fi g u δ = .ret s δ2) ∨ (l.findSome? q = none ∧ ∃ δ2, sFor fi g u δ = .next δ2 ∧ Rl δ2) := by
  unfold sFor
  rw [hi]
  exact loop_ret l hs δ h0
/-! ### measures -/
abbrev me (ms : List (List Nat)) : PyData := .tuple (ms.map ti)
structure Me (w : Nat) (ms : List (List Nat)) : Prop where
  hw : w ≤ 4
  len : ms.length ≤ 4
  row : ∀ r ∈ ms, r.length = w ∧ ∀ x ∈ r, x ≤ 99
  nil : ms = [] → w = 0
theorem ix_ti {r : List Nat} {i : Nat} (h : i < r.length) : ixS (.d (ti r)) (.d (I i)) = .ok (.d (I (r.getD i 0))) := by
  rw [ix_tup, atI_n, List.getElem?_map, List.getElem?_eq_getElem h, List.getD_eq_getElem?_getD, List.getElem?_eq_getElem h]
  rfl
theorem all_ti (r : List Nat) (h : ∀ x ∈ r, x ≤ 99) (δ : Env) (k : Nat) (hk : k < δ.length) (i : Nat) (hi : kV i δ = .ok (.d (ti r))) (hl : r.length ≤ 1000000) : kCB (on1 allS) (aCons (kComp (iVal false (kV i)) (gN k) tTrue (kCall 3 m_is_in (aCons (kV k) (aCons (kC (.int 0)) (aCons (kC (.int 99)) aNil)))) [k]) aNil) δ = .ok (.d (.bool true)) := by
  have hc : kComp (iVal false (kV i)) (gN k) tTrue (kCall 3 m_is_in (aCons (kV k) (aCons (kC (.int 0)) (aCons (kC (.int 99)) aNil)))) [k] δ = .ok (.l .fr (r.map fun _ => .bool true)) := by
    refine comp_map (enc := fun x : Nat => I x) _ r (by rw [ap_iVal, hi]; rfl) hl fun x hx => ?_
    have z := v_is_in (x : Int) 0 99
    have z2 : (decide ((0 : Int) ≤ (x : Int)) && decide ((x : Int) ≤ 99)) = true := by
      have := h x hx
      rw [decide_eq_true (show (0 : Int) ≤ (x : Int) by omega), decide_eq_true (show (x : Int) ≤ 99 by omega)]
      rfl
    rw [z2] at z
    unfold turn
    rw [ap_gN, R.ok_bind, ap_tTrue, R.ok_bind, if_pos rfl, ap_kCall, ap_aCons, kw_eq hk]
    simp only [R.ok_bind, ap_aCons, ap_kC, ap_aNil, args_cons, args_nil, arg_d, List.length_cons, List.length_nil, decide_true, chk_true, z, S.pd_d]
  rw [ap_kCB, ap_aCons, hc]
  simp only [R.ok_bind, ap_aNil, on1_1, all_l]
  rw [show (r.map fun _ => PyData.bool true) = r.map fun x => PyData.bool ((fun _ => true) x) from rfl, bls_map, R.ok_bind, all_map]
  simp
abbrev wE : Env → R S := kIf (tAndK (kBl (kB gtS (kCB (on1 lenS) (aCons (kV 0) aNil)) (kC (.int 0)))) (kTru (isiS "tuple" (kB ixS (kV 0) (kC (.int 0)))))) (kCB (on1 lenS) (aCons (kB ixS (kV 0) (kC (.int 0))) aNil)) (kC (.int 0))
theorem gt_0 (k : Nat) : gtS (.d (.int (k : Int))) (.d (.int 0)) = .ok (.d (.bool (decide (0 < k)))) := by
  rw [gt_S]
  congr 3
  exact decide_eq_decide.mpr (by omega)
theorem v_wide {w : Nat} {ms : List (List Nat)} (h : Me w ms) : m_wide_of [.d (me ms)] = .ok (.d (I w)) := by
  show fin (d_wide_of [some (.d (me ms))]) = _
  refine fin_retE (s := .d (I w)) ?_ rfl
  cases ms with
  | nil =>
    have := h.nil rfl
    subst this
    simp [gt_S]
  | cons r ms =>
    have := (h.row r List.mem_cons_self).1
    subst this
    have hp : (0 : Int) < ((ms.length : Int) + 1) := by omega
    simp [gt_S, hp]
theorem v_areme {w : Nat} {ms : List (List Nat)} (h : Me w ms) : m_are_measures [.d (me ms)] = .ok (.d (.bool true)) := by
  show fin (d_are_measures [some (.d (me ms)), none, none, none]) = _
  have hl := h.len
  have hw := h.hw
  refine fin_seq (δ' := [some (.d (me ms)), none, none, none]) ?_ ?_
  · rw [if_ok (c := false)]
    · rfl
    · have h6 : (ms.length : Int) ≤ 6 := by omega
      simp [v_tuple, h6]
  refine fin_seq (asgd_ok (x := I w) ?_) ?_
  · cases ms with
    | nil =>
      have := h.nil rfl
      subst this
      simp [gt_S]
    | cons r ms =>
      have := (h.row r List.mem_cons_self).1
      subst this
      have hp : (0 : Int) < ((ms.length : Int) + 1) := by omega
      simp [gt_S, hp]
  refine fin_seq (δ' := [some (.d (me ms)), some (.d (I w)), none, none]) ?_ ?_
  · refine Eq.trans (if_ok (c := false) ?_) rfl
    have h4 : ¬ (4 : Int) < (w : Int) := by omega
    simp [gt_S, h4]
  refine fin_retE (s := .d (.bool true)) ?_ rfl
  have hc : kComp (iVal false (kV 0)) (gN 2) tTrue (kAnd (kCall 3 m_is_tuple (aCons (kV 2) (aCons (kV 1) (aCons (kV 1) aNil)))) (kCB (on1 allS) (aCons (kComp (iVal false (kV 2)) (gN 3) tTrue (kCall 3 m_is_in (aCons (kV 3) (aCons (kC (.int 0)) (aCons (kC (.int 99)) aNil)))) [3]) aNil))) [2] [some (.d (me ms)), some (.d (I w)), none, none] = .ok (.l .fr (ms.map fun _ => .bool true)) := by
    refine comp_map (enc := ti) _ ms (by simp) (by omega) fun r hr => ?_
    obtain ⟨h1, h2⟩ := h.row r hr
    have z := v_tuple (r.map I) (w : Int) (w : Int)
    have z2 : (decide ((w : Int) ≤ (r.map I).length) && decide (((r.map I).length : Int) ≤ (w : Int))) = true := by
      rw [List.length_map, h1, decide_eq_true (Int.le_refl _)]; rfl
    rw [z2] at z
    have z3 := all_ti r h2 [some (.d (me ms)), some (.d (I w)), some (.d (ti r)), none] 3 (by simp) 2 rfl (by omega)
    unfold turn
    rw [ap_gN, R.ok_bind, ap_tTrue, R.ok_bind, if_pos rfl, ap_kAnd]
    rw [show (((wipeD [some (.d (me ms)), some (.d (I w)), none, none] [2]).set 2 (some (.d (ti r)))) : Env) = [some (.d (me ms)), some (.d (I w)), some (.d (ti r)), none] from rfl, z3]
    simp only [ap_kCall, ap_aCons, kV_s, kV_0d, R.ok_bind, ap_aNil, args_cons, args_nil, arg_d, List.length_cons, List.length_nil, decide_true, chk_true, z, S.b_bool, if_true, S.pd_d]
  rw [ap_kCB, ap_aCons]
  rw [hc]
  simp only [R.ok_bind, ap_aNil, on1_1, all_l]
  rw [show (ms.map fun _ => PyData.bool true) = ms.map fun x => PyData.bool ((fun _ => true) x) from rfl, bls_map, R.ok_bind, all_map]
  simp
theorem v_dme {w : Nat} {ms : List (List Nat)} (h : Me w ms) : m_demand_measures [.d (me ms)] = .ok (.d .none) := by
  show fin (d_demand_measures [some (.d (me ms))]) = _
  unfold d_demand_measures
  have z1 := v_areme h
  have z2 := v_demand (.str "measures")
  rw [drop_ok (s := .d .none)]
  · rfl
  · simp only [ap_kCall, ap_aCons, ap_kC, kV_0d, R.ok_bind, ap_aNil, args_cons, args_nil, arg_d, List.length_cons, List.length_nil, decide_true, chk_true, z1, z2]
theorem drop_dme {w : Nat} {ms : List (List Nat)} (h : Me w ms) {δ : Env} (e : kV 0 δ = .ok (.d (me ms))) : sDrop (kCall 1 m_demand_measures (aCons (kV 0) aNil)) δ = .next δ := by
  have z := v_dme h
  refine drop_ok (s := .d .none) ?_
  rw [ap_kCall, ap_aCons, e]
  simp only [R.ok_bind, ap_aNil, args_cons, args_nil, arg_d, List.length_cons, List.length_nil, decide_true, chk_true, z]
end G
end DL

set_option Elab.async false
set_option linter.all false
set_option maxRecDepth 100000
set_option maxHeartbeats 1000000
namespace DL
namespace G
open PySem PySem.Spec L2
def am (w : Nat) (r s : List Nat) : Nat := mkN (fun i => r.getD i 0 == s.getD i 0) w
def pm (w : Nat) : List (List Nat) → List Nat
  | [] => []
  | r :: rest => rest.map (am w r) ++ pm w rest
theorem am_lt (w : Nat) (r s : List Nat) : am w r s < 2 ^ w := mkN_lt _ _
theorem pm_lt (w : Nat) : ∀ (ms : List (List Nat)), ∀ a ∈ pm w ms, a < 2 ^ w
  | [], a, h => by cases h
  | r :: rest, a, h => by
    rcases List.mem_append.mp h with h | h
    · obtain ⟨s, _, rfl⟩ := List.mem_map.mp h
      exact am_lt w r s
    · exact pm_lt w rest a h
theorem pm_len (w : Nat) : ∀ (ms : List (List Nat)), ms.length ≤ 4 → (pm w ms).length ≤ 6
  | [], _ => by simp [pm]
  | [_], _ => by simp [pm]
  | [_, _], _ => by simp [pm]
  | [_, _, _], _ => by simp [pm]
  | [_, _, _, _], _ => by simp [pm]
  | _ :: _ :: _ :: _ :: _ :: _, h => by simp at h
theorem pm_good {w : Nat} {ms : List (List Nat)} (h : Me w ms) : Good w (pm w ms) := ⟨by have := h.hw; omega, Nat.le_trans (pm_len w ms h.len) (by decide), pm_lt w ms⟩
theorem same_ev {w : Nat} {r s : List Nat} (hw : w ≤ 4) (hr : r.length = w) (hs : s.length = w) (o0 o1 o2 o5 : Option S) : kComp (iRg rg1S (aCons (kCB (on1 lenS) (aCons (kV 3) aNil)) aNil)) (gN 5) (kBl (kB eqS (kB ixS (kV 3) (kV 5)) (kB ixS (kV 4) (kV 5)))) (kV 5) [5] [o0, o1, o2, some (.d (ti r)), some (.d (ti s)), o5] = .ok (.l .fr ((bt (am w r s)).map I)) := by
  have hf := filter_range (n := w) (by omega) (fun i => r.getD i 0 == s.getD i 0)
  unfold am
  rw [← hf]
  refine comp_filter (enc := fun i : Nat => I i) (fun i => r.getD i 0 == s.getD i 0) _ (List.range w) (rg_ok ?_ (by omega)) (by rw [List.length_range]; omega) fun i hi => ?_
  · simp [hr]
  · have hi := List.mem_range.mp hi
    have z1 := ix_ti (r := r) (i := i) (by omega)
    have z2 := ix_ti (r := s) (i := i) (by omega)
    simp only [turn, ap_gN, R.ok_bind, wipeD, List.set_cons_succ, List.set_cons_zero, ap_kBl, ap_kB, kV_s, kV_0d, z1, z2, eq_int, beq_nat, S.b_bool]
    cases r.getD i 0 == s.getD i 0 <;> rfl
theorem slice_at {ms : List (List Nat)} {δ : Env} {k i j : Nat} (h0 : kV j δ = .ok (.d (me ms))) (h2 : kV i δ = .ok (.d (I k))) : kSl (kV j) (oSome (kB addS (kV i) (kC (.int 1)))) oNo δ = .ok (.d (me (ms.drop (k + 1)))) := by
  rw [ap_kSl, h0, R.ok_bind, ap_oSome, ap_kB, h2, R.ok_bind, ap_kC, R.ok_bind, add_int, R.ok_bind, S.i_int, R.ok_bind, R.ok_bind, ap_oNo, R.ok_bind]
  show R.ok (S.d (.tuple (cutP (ms.map ti) (some ((k : Int) + 1)) none))) = _
  have e : ((k : Int) + 1) = ((k + 1 : Nat) : Int) := by omega
  unfold cutP
  rw [e, HT.sIx_nat, HT.sIx_none, List.length_map]
  have e2 : ((ms.map ti).drop (min (k + 1) ms.length)).take (ms.length - min (k + 1) ms.length) = (ms.drop (k + 1)).map ti := by
    rw [List.map_drop]
    by_cases h : k + 1 ≤ ms.length
    · rw [Nat.min_eq_left h]
      exact List.take_of_length_le (by rw [List.length_drop, List.length_map]; omega)
    · rw [Nat.min_eq_right (by omega), List.drop_eq_nil_of_le (by rw [List.length_map]; omega), List.drop_eq_nil_of_le (by rw [List.length_map]; omega)]
      simp
  rw [e2]
abbrev pE (ms : List (List Nat)) (F : List PyData) (o2 o3 o4 o5 : Option S) : Env := [some (.d (me ms)), some (.l .ow F), o2, o3, o4, o5]
theorem outer_fold {β : Type} (f : List Nat → List Nat → β) (ms : List (List Nat)) : ∀ (l pre : List (List Nat)) (F : List β), ms = pre ++ l → (l.zipIdx pre.length).foldl (fun F (p : List Nat × Nat) => F ++ (ms.drop (p.2 + 1)).map (f p.1)) F = F ++ (l.zipIdx pre.length).flatMap (fun p => (ms.drop (p.2 + 1)).map (f p.1))
  | [], pre, F, e => by simp
  | r :: l, pre, F, e => by
    have ih := outer_fold f ms l (pre ++ [r]) (F ++ (ms.drop (pre.length + 1)).map (f r)) (by rw [e]; simp)
    rw [List.length_append, List.length_singleton] at ih
    rw [List.zipIdx_cons, List.foldl_cons, ih, List.flatMap_cons, List.append_assoc]
theorem flat_pm (w : Nat) (ms : List (List Nat)) : ∀ (l pre : List (List Nat)), ms = pre ++ l → (l.zipIdx pre.length).flatMap (fun p => (ms.drop (p.2 + 1)).map (am w p.1)) = pm w l
  | [], pre, e => rfl
  | r :: l, pre, e => by
    have ih := flat_pm w ms l (pre ++ [r]) (by rw [e]; simp)
    rw [List.length_append, List.length_singleton] at ih
    rw [List.zipIdx_cons, List.flatMap_cons, ih]
    have : ms.drop (pre.length + 1) = l := by
      rw [e, List.drop_append]
      simp
    rw [this]
    rfl
/-- both loops -/
theorem nest {w : Nat} {ms : List (List Nat)} (h : Me w ms) (enc : Nat → PyData) (f : Env → R S) (hf : ∀ (r s : List Nat), r ∈ ms → s ∈ ms → ∀ (o0 o1 o2 o5 : Option S), ∃ z, f [o0, o1, o2, some (.d (ti r)), some (.d (ti s)), o5] = .ok z ∧ z.pd = .ok (enc (am w r s))) :
    ∃ o2 o3 o4, sFor (iEnumF true (kV 0)) (gT ((gN 2) :: ((gN 3) :: []))) (sFor (iVal true (kSl (kV 0) (oSome (kB addS (kV 2) (kC (.int 1)))) oNo)) (gN 4) (sApp 1 f)) (pE ms [] none none none none) = .next (pE ms ((pm w ms).map enc) o2 o3 o4 none) := by
  have he : enumP (ms.map ti) = ms.zipIdx.map fun p : List Nat × Nat => .tuple [I p.2, ti p.1] := by simp [enumP, List.zipIdx_map]
  have bound : ∀ p : List (List Nat × Nat), (∃ q, ms.zipIdx = p ++ q) → (p.foldl (fun F (p : List Nat × Nat) => F ++ (ms.drop (p.2 + 1)).map (am w p.1)) []).length ≤ 100 := by
    intro p ⟨q, e⟩
    have hp : p.length ≤ 4 := by
      have := congrArg List.length e
      rw [List.length_zipIdx, List.length_append] at this
      have := h.len
      omega
    have : ∀ (p : List (List Nat × Nat)) (F : List Nat), (p.foldl (fun F (p : List Nat × Nat) => F ++ (ms.drop (p.2 + 1)).map (am w p.1)) F).length ≤ F.length + 4 * p.length := by
      intro p
      induction p with
      | nil => intro F; simp
      | cons a p ih =>
        intro F
        rw [List.foldl_cons]
        have := ih (F ++ (ms.drop (a.2 + 1)).map (am w a.1))
        rw [List.length_append, List.length_map, List.length_drop] at this
        have := h.len
        rw [List.length_cons]
        omega
    have := this p []
    rw [List.length_nil] at this
    omega
  obtain ⟨δ', e, o2, o3, o4, rfl⟩ := for_relP (enc := fun p : List Nat × Nat => .tuple [I p.2, ti p.1]) (fun (F : List Nat) δ => ∃ o2 o3 o4, δ = pE ms (F.map enc) o2 o3 o4 none) (fun F p => F ++ (ms.drop (p.2 + 1)).map (am w p.1)) ms.zipIdx (b := []) (δ := pE ms [] none none none none) (fi := iEnumF true (kV 0)) (g := gT ((gN 2) :: ((gN 3) :: []))) (u := sFor (iVal true (kSl (kV 0) (oSome (kB addS (kV 2) (kC (.int 1)))) oNo)) (gN 4) (sApp 1 f))
    (by rw [ap_iEnum, kV_0d, R.ok_bind, itsJ_tuple, R.ok_bind, he]) ⟨none, none, none, rfl⟩ (fun P p Q δ hq ⟨o2, o3, o4, hδ⟩ => by
      subst hδ
      have hb := bound P ⟨p :: Q, hq⟩
      have hr : p.1 ∈ ms := by
        have : p ∈ ms.zipIdx := by rw [hq]; exact List.mem_append_right _ List.mem_cons_self
        exact List.mem_of_getElem? (List.mem_zipIdx_iff_getElem?.mp this)
      generalize P.foldl (fun F (p : List Nat × Nat) => F ++ (ms.drop (p.2 + 1)).map (am w p.1)) [] = F at *
      have hdl : (ms.drop (p.2 + 1)).length ≤ 4 := by rw [List.length_drop]; have := h.len; omega
      obtain ⟨δ2, e2, o4', rfl⟩ := for_relP (enc := ti) (fun (G : List Nat) δ => ∃ o4, δ = pE ms (G.map enc) (some (.d (I p.2))) (some (.d (ti p.1))) o4 none) (fun G s => G ++ [am w p.1 s]) (ms.drop (p.2 + 1)) (b := F) (δ := pE ms (F.map enc) (some (.d (I p.2))) (some (.d (ti p.1))) o4 none) (fi := iVal true (kSl (kV 0) (oSome (kB addS (kV 2) (kC (.int 1)))) oNo)) (g := gN 4) (u := sApp 1 f)
        (by rw [ap_iVal, slice_at (ms := ms) (k := p.2) rfl rfl, R.ok_bind]; rfl) ⟨o4, rfl⟩ (fun P2 s Q2 δ hq2 ⟨o4, hδ⟩ => by
          subst hδ
          have hs : s ∈ ms := List.mem_of_mem_drop (by rw [hq2]; exact List.mem_append_right _ List.mem_cons_self)
          have hl2 : (P2.foldl (fun G s => G ++ [am w p.1 s]) F).length ≤ 200 := by
            rw [fold_map, List.length_append, List.length_map]
            have := congrArg List.length hq2
            rw [List.length_append] at this
            omega
          generalize P2.foldl (fun G s => G ++ [am w p.1 s]) F = G at *
          obtain ⟨z, ez, ep⟩ := hf p.1 s hr hs (some (.d (me ms))) (some (.l .ow (G.map enc))) (some (.d (I p.2))) none
          refine ⟨pE ms (G.map enc) (some (.d (I p.2))) (some (.d (ti p.1))) (some (.d (ti s))) none, pE ms ((G ++ [am w p.1 s]).map enc) (some (.d (I p.2))) (some (.d (ti p.1))) (some (.d (ti s))) none, rfl, (app_ok (xs := G.map enc) rfl ez ep (by rw [List.length_map]; omega)).trans ?_, some (.d (ti s)), rfl⟩
          rw [List.map_append]
          rfl)
      rw [fold_map] at e2
      refine ⟨pE ms (F.map enc) (some (.d (I p.2))) (some (.d (ti p.1))) o4 none, _, rfl, e2, _, _, _, rfl⟩)
  have e1 := outer_fold (am w) ms ms [] [] rfl
  have e2 := flat_pm w ms ms [] rfl
  rw [List.length_nil] at e1 e2
  rw [e1, List.nil_append, e2] at e
  exact ⟨o2, o3, o4, e⟩
theorem f_maskL : ((List.range 64).all fun m => isI m (m_mask_of [.d (.list ((bt m).map I))])) = true := by decide +kernel
theorem v_maskL {m : Nat} (hm : m < 64) : m_mask_of [.d (.list ((bt m).map I))] = .ok (.d (I m)) := isI_ok (all_lt f_maskL hm)
theorem v_alike {w : Nat} {ms : List (List Nat)} (h : Me w ms) : m_alike_masks [.d (me ms)] = .ok (.l .fr ((pm w ms).map I)) := by
  show fin (d_alike_masks [some (.d (me ms)), none, none, none, none, none]) = _
  refine fin_seq (asgO_ok (ds := []) (by simp)) ?_
  obtain ⟨o2, o3, o4, e⟩ := nest h I (kCall 1 m_mask_of (aCons (kComp (iRg rg1S (aCons (kCB (on1 lenS) (aCons (kV 3) aNil)) aNil)) (gN 5) (kBl (kB eqS (kB ixS (kV 3) (kV 5)) (kB ixS (kV 4) (kV 5)))) (kV 5) [5]) aNil)) (fun r s hr hs o0 o1 o2 o5 => by
    have z := same_ev h.hw (h.row r hr).1 (h.row s hs).1 o0 o1 o2 o5
    have z2 := v_maskL (m := am w r s) (by
      have := am_lt w r s
      have : 2 ^ w ≤ 2 ^ 4 := Nat.pow_le_pow_right (by decide) h.hw
      omega)
    refine ⟨.d (I (am w r s)), ?_, rfl⟩
    rw [ap_kCall, ap_aCons, z]
    simp only [R.ok_bind, ap_aNil, args_cons, args_nil, arg_fr, List.length_cons, List.length_nil, decide_true, chk_true, z2])
  exact fin_seq e (retO_ok rfl)
end G
end DL

set_option Elab.async false
set_option linter.all false
set_option maxRecDepth 100000
set_option maxHeartbeats 1000000
namespace DL
namespace G
open PySem PySem.Spec L2
theorem v_ptable {w : Nat} {ms : List (List Nat)} (h : Me w ms) : m_pair_table [.d (me ms)] = .ok (.d (tb w (pm w ms))) := by
  show fin (d_pair_table [some (.d (me ms)), none, none, none, none, none]) = _
  refine fin_seq (drop_dme h rfl) ?_
  refine fin_seq (drop_ok (s := .d .none) ?_) ?_
  · have h4 : (ms.length : Int) ≤ 4 := by have := h.len; omega
    have z := v_demand (.str "measures")
    simp [h4, z]
  refine fin_seq (asgO_ok (ds := []) (by simp)) ?_
  obtain ⟨o2, o3, o4, e⟩ := nest h (fun m => ti (bt m)) (kCB (on1 tupS) (aCons (kComp (iRg rg1S (aCons (kCB (on1 lenS) (aCons (kV 3) aNil)) aNil)) (gN 5) (kBl (kB eqS (kB ixS (kV 3) (kV 5)) (kB ixS (kV 4) (kV 5)))) (kV 5) [5]) aNil)) (fun r s hr hs o0 o1 o2 o5 => by
    have z := same_ev h.hw (h.row r hr).1 (h.row s hs).1 o0 o1 o2 o5
    refine ⟨.d (ti (bt (am w r s))), ?_, rfl⟩
    rw [ap_kCB, ap_aCons, z]
    simp only [R.ok_bind, ap_aNil, on1_1, tup_l])
  refine fin_seq e ?_
  have z := v_wide h
  refine fin_retE (s := .d (tb w (pm w ms))) ?_ rfl
  rw [show frz 1 (pE ms ((pm w ms).map fun m => ti (bt m)) o2 o3 o4 none) = [some (.d (me ms)), some (.d (.list ((pm w ms).map fun m => ti (bt m)))), o2, o3, o4, none] from rfl]
  rw [ap_kTup, ap_aCons, ap_kCall, ap_aCons, ap_aCons, ap_kCB, ap_aCons]
  simp only [kV_s, kV_0d, R.ok_bind, ap_aNil, args_cons, args_nil, arg_d, List.length_cons, List.length_nil, decide_true, chk_true, z, on1_1, tup_lst, pds_cons, pds_nil, S.pd_d]
  rfl
theorem sub_comm {a l : Nat} : (a &&& l == l) = (l &&& a == l) := by rw [Nat.and_comm]
theorem ands_clo {rs : List Nat} {w l : Nat} (hl : l < 2 ^ w) : ands rs (fun a => a &&& l == l) id (2 ^ w - 1) = clo rs w l := by
  apply Nat.eq_of_testBit_eq
  intro i
  rw [ands_bit, Nat.testBit_two_pow_sub_one]
  cases e : (clo rs w l).testBit i
  · cases hq : (decide (i < w) && rs.all fun x => !(x &&& l == l) || (id x).testBit i)
    · rfl
    · obtain ⟨q1, q2⟩ := Bool.and_eq_true_iff.mp hq
      have := (clo_bit hl i).mpr ⟨of_decide_eq_true q1, fun r hr hs => by
        have z := List.all_eq_true.mp q2 r hr
        rw [sub_comm, beq_iff_eq.mpr hs] at z
        simpa using z⟩
      rw [e] at this; cases this
  · obtain ⟨q1, q2⟩ := (clo_bit hl i).mp e
    rw [decide_eq_true q1, Bool.true_and]
    refine List.all_eq_true.mpr fun r hr => ?_
    rw [sub_comm]
    cases hs : l &&& r == l
    · rfl
    · simp [q2 r hr (beq_iff_eq.mp hs)]
theorem set_dem {w l : Nat} (hw : w < 7) (hl : l < 2 ^ w) {ms : List (List Nat)} (h : Me w ms) {δ : Env} {j : Nat} {x : PyData} (h0 : kV 0 δ = .ok (.d (me ms))) (hj : kV j δ = .ok (.d (ti (bt l)))) : sDrop (kCall 2 m_demand (aCons (kCall 2 m_is_set (aCons (kV j) (aCons (kCall 1 m_wide_of (aCons (kV 0) aNil)) aNil))) (aCons (kC x) aNil))) δ = .next δ := by
  have z1 := v_set hw hl
  have z2 := v_wide h
  have z3 := v_demand x
  refine drop_ok (s := .d .none) ?_
  rw [ap_kCall, ap_aCons, ap_kCall, ap_aCons, ap_aCons, ap_kCall, ap_aCons, h0, hj]
  simp only [R.ok_bind, ap_aCons, ap_kC, ap_aNil, args_cons, args_nil, arg_d, List.length_cons, List.length_nil, decide_true, chk_true, z1, z2, z3]
theorem v_told {w l : Nat} {ms : List (List Nat)} (h : Me w ms) (hl : l < 2 ^ w) : m_told_by_measures [.d (me ms), .d (ti (bt l))] = .ok (.d (ti (bt (clo (pm w ms) w l)))) := by
  have hw := h.hw
  have h16 : 2 ^ w ≤ 2 ^ 4 := Nat.pow_le_pow_right (by decide) hw
  show fin (d_told_by_measures [some (.d (me ms)), some (.d (ti (bt l))), none, none]) = _
  refine fin_seq (drop_dme h rfl) ?_
  refine fin_seq (set_dem (by omega) hl h rfl rfl) ?_
  have z1 := v_wide h
  have z2 := v_alike h
  have z3 := v_mask (m := l) (by omega)
  refine fin_seq (asgd_ok (x := I (2 ^ w - 1)) ?_) ?_
  · rw [ap_kB, ap_kB, ap_kCall, ap_aCons]
    simp only [kV_0d, R.ok_bind, ap_aNil, ap_kC, args_cons, args_nil, arg_d, List.length_cons, List.length_nil, decide_true, chk_true, z1, pow_S w (show w ≤ 1000000 by omega), sub1]
  obtain ⟨δ', e, o3, rfl⟩ := for_rel (enc := fun a : Nat => I a) (fun (f : Nat) δ => ∃ o3, δ = [some (.d (me ms)), some (.d (ti (bt l))), some (.d (I f)), o3]) (fun f a => if (a &&& l == l) = true then f &&& id a else f) (pm w ms) (b := 2 ^ w - 1) (δ := [some (.d (me ms)), some (.d (ti (bt l))), some (.d (I (2 ^ w - 1))), none]) (fi := iVal true (kCall 1 m_alike_masks (aCons (kV 0) aNil))) (g := gN 3) (u := sIf (kBl (kB eqS (kB andS (kV 3) (kCall 1 m_mask_of (aCons (kV 1) aNil))) (kCall 1 m_mask_of (aCons (kV 1) aNil)))) (sAug 2 andS (kV 3)) sNext)
    (by rw [ap_iVal, ap_kCall, ap_aCons]; simp only [kV_0d, R.ok_bind, ap_aNil, args_cons, args_nil, arg_d, List.length_cons, List.length_nil, decide_true, chk_true, z2, itsI_fr]) ⟨none, rfl⟩ (fun f a δ ha ⟨o3, hδ⟩ => by
      subst hδ
      refine ⟨[some (.d (me ms)), some (.d (ti (bt l))), some (.d (I f)), some (.d (I a))], [some (.d (me ms)), some (.d (ti (bt l))), some (.d (I (if (a &&& l == l) = true then f &&& id a else f))), some (.d (I a))], rfl, ?_, _, rfl⟩
      rw [if_ok (c := a &&& l == l) (by
        simp only [ap_kBl, ap_kB, ap_kCall, ap_aCons, kV_s, kV_0d, R.ok_bind, ap_aNil, args_cons, args_nil, arg_d, List.length_cons, List.length_nil, decide_true, chk_true, z3, and_S, eq_int, beq_nat, S.b_bool])]
      cases a &&& l == l
      · rfl
      · rw [if_pos rfl, if_pos rfl]
        exact aug_ok (x := .d (I f)) (y := .d (I a)) rfl rfl (and_S f a))
  refine fin_seq e ?_
  have hf : (pm w ms).foldl (fun f a => if (a &&& l == l) = true then f &&& id a else f) (2 ^ w - 1) = clo (pm w ms) w l := ands_clo hl
  rw [hf]
  have z4 := v_mem (m := clo (pm w ms) w l) (by
    have := (clo_cl (pm w ms) w).lt l hl
    omega)
  refine fin_retE (s := .d (ti (bt (clo (pm w ms) w l)))) ?_ rfl
  rw [ap_kCall, ap_aCons]
  simp only [kV_s, kV_0d, R.ok_bind, ap_aNil, args_cons, args_nil, arg_d, List.length_cons, List.length_nil, decide_true, chk_true, z4]
def keeps (rs : List Nat) (l q : Nat) : Bool := rs.all fun a => !(l &&& a == l) || (q &&& a == q)
theorem v_depends {w l q : Nat} {ms : List (List Nat)} (h : Me w ms) (hl : l < 2 ^ w) (hq : q < 2 ^ w) : m_depends [.d (me ms), .d (ti (bt l)), .d (ti (bt q))] = .ok (.d (.bool (keeps (pm w ms) l q))) := by
  have hw := h.hw
  have h16 : 2 ^ w ≤ 2 ^ 4 := Nat.pow_le_pow_right (by decide) hw
  show fin (d_depends [some (.d (me ms)), some (.d (ti (bt l))), some (.d (ti (bt q))), none, none, none]) = _
  refine fin_seq (drop_dme h rfl) ?_
  refine fin_seq (set_dem (by omega) hl h rfl rfl) ?_
  refine fin_seq (set_dem (by omega) hq h rfl rfl) ?_
  have z2 := v_alike h
  have z3 := v_mask (m := l) (by omega)
  have z4 := v_mask (m := q) (by omega)
  refine fin_seq (un2_ok (s := .d (I l)) (t := .d (I q)) (y := .d (I l)) (z := .d (I q)) ?_ rfl rfl) ?_
  · rw [ap_aCons, ap_aCons, ap_kCall, ap_aCons, ap_kCall, ap_aCons]
    simp only [kV_s, kV_0d, R.ok_bind, ap_aNil, args_cons, args_nil, arg_d, List.length_cons, List.length_nil, decide_true, chk_true, z3, z4]
  refine fin_retE (s := .d (.bool (keeps (pm w ms) l q))) ?_ rfl
  have hlen := (pm_good h).len
  have hc : kComp (iVal false (kCall 1 m_alike_masks (aCons (kV 0) aNil))) (gN 5) tTrue (kOr (kB neS (kB andS (kV 5) (kV 3)) (kV 3)) (kB eqS (kB andS (kV 5) (kV 4)) (kV 4))) [5] [some (.d (me ms)), some (.d (ti (bt l))), some (.d (ti (bt q))), some (.d (I l)), some (.d (I q)), none] = .ok (.l .fr ((pm w ms).map fun a => .bool (!(l &&& a == l) || (q &&& a == q)))) := by
    refine comp_map (enc := fun a : Nat => I a) _ (pm w ms) (by rw [ap_iVal, ap_kCall, ap_aCons]; simp only [kV_0d, R.ok_bind, ap_aNil, args_cons, args_nil, arg_d, List.length_cons, List.length_nil, decide_true, chk_true, z2, itsI_fr]) (by omega) fun a ha => ?_
    simp only [turn, ap_gN, R.ok_bind, wipeD, List.set_cons_succ, List.set_cons_zero, ap_tTrue, if_true, ap_kOr, ap_kB, kV_s, kV_0d, and_S, ne_int, eq_int, beq_nat, S.b_bool]
    rw [sub_comm (a := a) (l := l), sub_comm (a := a) (l := q)]
    cases l &&& a == l <;> rfl
  rw [ap_kCB, ap_aCons]
  rw [show (((([some (.d (me ms)), some (.d (ti (bt l))), some (.d (ti (bt q))), none, none, none] : Env).set 3 (some (.d (I l)))).set 4 (some (.d (I q))))) = [some (.d (me ms)), some (.d (ti (bt l))), some (.d (ti (bt q))), some (.d (I l)), some (.d (I q)), none] from rfl, hc]
  simp only [R.ok_bind, ap_aNil, on1_1, all_l, bls_map, all_map]
  rfl
/-! ### closures and rules of tables -/
theorem drop_dt {n : Nat} {rs : List Nat} (h : Good n rs) {δ : Env} (e : kV 0 δ = .ok (.d (tb n rs))) : sDrop (kCall 1 m_demand_table (aCons (kV 0) aNil)) δ = .next δ := call_dt h δ 0 e
theorem v_closedT {n l : Nat} {rs : List Nat} (h : Good n rs) (hl : l < 2 ^ n) : m_closed [.d (tb n rs), .d (ti (bt l))] = .ok (.d (ti (bt (clo rs n l)))) := by
  have hn := h.hn
  have h64 : 2 ^ n ≤ 2 ^ 6 := Nat.pow_le_pow_right (by decide) (by omega)
  have z0 : m_demand_marks [.d (tb n rs), .d (ti (bt l))] = .ok (.d .none) := by
    show fin (d_demand_marks [some (.d (tb n rs)), some (.d (ti (bt l)))]) = _
    refine fin_seq (drop_dt h rfl) ?_
    have z1 := v_set hn hl
    have z2 := v_demand (.str "marks")
    rw [drop_ok (s := .d .none)]
    · rfl
    · rw [ap_kCall, ap_aCons, ap_kCall, ap_aCons, ap_aCons, ap_kB]
      simp only [kV_s, kV_0d, R.ok_bind, ap_kC, ix_tup, atI_0, ap_aCons, ap_aNil, args_cons, args_nil, arg_d, List.length_cons, List.length_nil, decide_true, chk_true, z1, z2]
  show fin (d_closed [some (.d (tb n rs)), some (.d (ti (bt l)))]) = _
  refine fin_seq (drop_ok (s := .d .none) ?_) ?_
  · rw [ap_kCall, ap_aCons, ap_aCons]
    simp only [kV_s, kV_0d, R.ok_bind, ap_aNil, args_cons, args_nil, arg_d, List.length_cons, List.length_nil, decide_true, chk_true, z0]
  refine fin_retE (s := .d (ti (bt (clo rs n l)))) ?_ rfl
  have z1 := v_make h [some (.d (tb n rs)), some (.d (ti (bt l)))] 0 rfl
  have z2 := v_mask (m := l) (by omega)
  have z3 := v_closed n rs l
  have z4 := v_mem (m := clo rs n l) (by have := (clo_cl rs n).lt l hl; omega)
  unfold gS_ at z1 z3
  rw [ap_kCall, ap_aCons, ap_kMeth (c := 0) (gs := gobj n rs) z1, ap_aCons, ap_kCall, ap_aCons]
  simp only [kV_s, kV_0d, R.ok_bind, ap_aNil, args_cons, args_nil, arg_d, List.length_cons, List.length_nil, decide_true, chk_true, z2, z3, noX_ok, z4]
theorem v_obeys (m a b : Nat) : m_obeys [.d (I m), .d (ep (a, b))] = .ok (.d (.bool (!(a &&& m == a) || (b &&& m == b)))) := by
  show fin (d_obeys [some (.d (I m)), some (.d (ep (a, b)))]) = _
  refine fin_retE (s := .d (.bool (!(a &&& m == a) || (b &&& m == b)))) ?_ rfl
  have z1 := v_part a m
  have z2 := v_part b m
  simp only [ap_kOr, ap_kNot, ap_kCall, ap_aCons, ap_kB, ap_kC, kV_s, kV_0d, R.ok_bind, ix_tup, atI_0, atI_1, ap_aNil, args_cons, args_nil, arg_d, List.length_cons, List.length_nil, decide_true, chk_true, z1, z2, S.b_bool]
  cases a &&& m == a <;> rfl
end G
end DL

set_option Elab.async false
set_option linter.all false
set_option maxRecDepth 100000
set_option maxHeartbeats 1000000
namespace DL
namespace G
open PySem PySem.Spec L2
theorem v_drule {n : Nat} {rs : List Nat} (h : Good n rs) {p : Nat × Nat} (hp : p.1 < 2 ^ n ∧ p.2 < 2 ^ n) : m_demand_rule [.d (tb n rs), .d (er p)] = .ok (.d .none) := by
  show fin (d_demand_rule [some (.d (tb n rs)), some (.d (er p))]) = _
  refine fin_seq (drop_dt h rfl) ?_
  have z1 := v_rule h.hn hp
  have z2 := v_demand (.str "rule")
  rw [drop_ok (s := .d .none)]
  · rfl
  · rw [ap_kCall, ap_aCons, ap_kCall, ap_aCons, ap_aCons, ap_kB]
    simp only [kV_s, kV_0d, R.ok_bind, ap_kC, ix_tup, atI_0, ap_aCons, ap_aNil, args_cons, args_nil, arg_d, List.length_cons, List.length_nil, decide_true, chk_true, z1, z2]
theorem drop_dr {n : Nat} {rs : List Nat} (h : Good n rs) {p : Nat × Nat} (hp : p.1 < 2 ^ n ∧ p.2 < 2 ^ n) {δ : Env} (e0 : kV 0 δ = .ok (.d (tb n rs))) (e1 : kV 1 δ = .ok (.d (er p))) : sDrop (kCall 2 m_demand_rule (aCons (kV 0) (aCons (kV 1) aNil))) δ = .next δ := by
  have z := v_drule h hp
  refine drop_ok (s := .d .none) ?_
  rw [ap_kCall, ap_aCons, ap_aCons, e0, e1]
  simp only [R.ok_bind, ap_aNil, args_cons, args_nil, arg_d, List.length_cons, List.length_nil, decide_true, chk_true, z]
theorem v_against {n : Nat} {rs : List Nat} (h : Good n rs) {p : Nat × Nat} (hp : p.1 < 2 ^ n ∧ p.2 < 2 ^ n) : (∃ k : Nat, m_shell_against [.d (tb n rs), .d (er p)] = .ok (.d (I k)) ∧ keeps rs p.1 p.2 = false) ∨ (m_shell_against [.d (tb n rs), .d (er p)] = .ok (.d .none) ∧ keeps rs p.1 p.2 = true) := by
  have h64 : 2 ^ n ≤ 2 ^ 6 := Nat.pow_le_pow_right (by decide) (by have := h.hn; omega)
  have run : m_shell_against [.d (tb n rs), .d (er p)] = fin (d_shell_against [some (.d (tb n rs)), some (.d (er p)), none, none, none]) := rfl
  rw [run]
  unfold d_shell_against
  rw [seq_ok (drop_dr h hp rfl rfl)]
  have z1 := v_masks [p] (by simp) (fun q hq => by rw [List.mem_singleton.mp hq]; omega)
  rw [seq_ok (asgd_ok (x := ep p) (by
    rw [ap_kB, ap_kCall, ap_aCons, ap_kTup, ap_aCons]
    simp only [kV_s, kV_0d, R.ok_bind, ap_aNil, pds_cons, pds_nil, S.pd_d]
    rw [decide_eq_true (show [er p].length ≤ 1000000 by simp), chk_true]
    simp only [R.ok_bind, args_cons, args_nil, arg_d, List.length_cons, List.length_nil, decide_true, chk_true]
    rw [show ([er p] : List PyData) = [p].map er from rfl, z1]
    simp only [R.ok_bind, ap_kC, ix_l, List.map_cons, List.map_nil, atI_0]))]
  have zm := v_make h [some (.d (tb n rs)), some (.d (er p)), some (.d (ep p)), none, none] 0 rfl
  have hi : iEnumF true (kU (fldS 0 "rows") (kMake 0 1 m_Grid_init (aCons (kV 0) aNil))) [some (.d (tb n rs)), some (.d (er p)), some (.d (ep p)), none, none] = .ok (rs.zipIdx.map fun q : Nat × Nat => .tuple [I q.2, I q.1]) := by
    rw [ap_iEnum, ap_kU, zm]
    simp only [R.ok_bind, go_rows, itsJ_list, enum_nat]
  have hr := for_ret (enc := fun q : Nat × Nat => .tuple [I q.2, I q.1]) (fun δ => ∃ o3 o4, δ = [some (.d (tb n rs)), some (.d (er p)), some (.d (ep p)), o3, o4]) (fun q : Nat × Nat => if (!(p.1 &&& q.1 == p.1) || (p.2 &&& q.1 == p.2)) = true then none else some (S.d (I q.2))) (g := gT ((gN 3) :: ((gN 4) :: []))) (u := sIf (tNotK (kTru (kCall 2 m_obeys (aCons (kV 4) (aCons (kV 2) aNil))))) (sRet (kV 3)) sNext) rs.zipIdx hi ⟨none, none, rfl⟩ (fun q δ hq ⟨o3, o4, hδ⟩ => by
    subst hδ
    have zo := v_obeys q.1 p.1 p.2
    have et : tNotK (kTru (kCall 2 m_obeys (aCons (kV 4) (aCons (kV 2) aNil)))) [some (.d (tb n rs)), some (.d (er p)), some (.d (ep p)), some (.d (I q.2)), some (.d (I q.1))] = .ok (!(!(p.1 &&& q.1 == p.1) || (p.2 &&& q.1 == p.2))) := by
      rw [ap_tNot, ap_kTru, ap_kCall, ap_aCons, ap_aCons]
      simp only [kV_s, kV_0d, R.ok_bind, ap_aNil, args_cons, args_nil, arg_d, List.length_cons, List.length_nil, decide_true, chk_true, zo, tru_bool]
    refine ⟨[some (.d (tb n rs)), some (.d (er p)), some (.d (ep p)), some (.d (I q.2)), some (.d (I q.1))], rfl, ?_⟩
    rw [if_ok et]
    cases hz : (!(p.1 &&& q.1 == p.1) || (p.2 &&& q.1 == p.2))
    · exact .inl ⟨.d (I q.2), _, rfl, rfl⟩
    · exact .inr ⟨rfl, _, rfl, _, _, rfl⟩)
  rcases hr with ⟨s, δ2, hs, e⟩ | ⟨hn, δ2, e, o3, o4, rfl⟩
  · obtain ⟨q, hq, hz⟩ := List.exists_of_findSome?_eq_some hs
    split at hz
    · cases hz
    · rename_i hb
      cases hz
      refine .inl ⟨q.2, ?_, ?_⟩
      · refine Eq.trans (congrArg fin (seq_ret e)) rfl
      · cases hk : keeps rs p.1 p.2
        · rfl
        · have := List.all_eq_true.mp hk q.1 (List.mem_of_getElem? (zip_lt hq).1)
          exact (hb this).elim
  · refine .inr ⟨?_, ?_⟩
    · refine Eq.trans (congrArg fin (seq_ok e)) rfl
    · refine List.all_eq_true.mpr fun r hr' => ?_
      obtain ⟨k, hk⟩ := List.mem_iff_getElem?.mp hr'
      have := List.findSome?_eq_none_iff.mp hn (r, k) (List.mem_zipIdx_iff_getElem?.mpr hk)
      split at this
      · rename_i hb
        exact hb
      · cases this
theorem v_holds {n : Nat} {rs : List Nat} (h : Good n rs) {p : Nat × Nat} (hp : p.1 < 2 ^ n ∧ p.2 < 2 ^ n) : m_holds [.d (tb n rs), .d (er p)] = .ok (.d (.bool (keeps rs p.1 p.2))) := by
  show fin (d_holds [some (.d (tb n rs)), some (.d (er p))]) = _
  refine fin_seq (drop_dr h hp rfl rfl) ?_
  refine fin_retE (s := .d (.bool (keeps rs p.1 p.2))) ?_ rfl
  rw [ap_kB, ap_kCall, ap_aCons, ap_aCons]
  simp only [kV_s, kV_0d, R.ok_bind, ap_aNil, args_cons, args_nil, arg_d, List.length_cons, List.length_nil, decide_true, chk_true]
  rcases v_against h hp with ⟨k, e, hk⟩ | ⟨e, hk⟩
  · rw [e, hk]
    rfl
  · rw [e, hk]
    rfl
/-! ### names -/
theorem f_ord : ((List.range 5).all fun n => isL (allM n) (m_ordered [.d (.list ((List.range (2 ^ n)).map I))])) = true := by decide +kernel
theorem v_ord {n : Nat} (hn : n < 5) : m_ordered [.d (.list ((List.range (2 ^ n)).map I))] = .ok (.l .fr ((allM n).map I)) := isL_ok (all_lt f_ord hn)
theorem f_lrg : ((List.range 5).all fun n => isL (List.range (2 ^ n)) (kLstRg1 (fun _ => .ok (.d (I (2 ^ n)))) [])) = true := by decide +kernel
theorem lst_rg {f : Env → R S} {δ : Env} {n : Nat} (hn : n < 5) (e : f δ = .ok (.d (I (2 ^ n)))) : kLstRg1 f δ = .ok (.l .fr ((List.range (2 ^ n)).map I)) := by
  have : kLstRg1 f δ = kLstRg1 (fun _ => .ok (.d (I (2 ^ n)))) [] := by
    unfold kLstRg1
    rw [e]
  rw [this]
  exact isL_ok (all_lt f_lrg hn)
def namesM (rs : List Nat) (w : Nat) : List Nat := least ((allM w).filter fun m => (bt (clo rs w m)).length == w)
theorem v_names {w : Nat} {ms : List (List Nat)} (h : Me w ms) : m_names_of [.d (me ms)] = .ok (.d (.tuple ((namesM (pm w ms) w).map fun m => ti (bt m)))) := by
  have hw := h.hw
  have h16 : 2 ^ w ≤ 2 ^ 4 := Nat.pow_le_pow_right (by decide) hw
  obtain ⟨a1, a2, a3⟩ := allM_ok (n := w) (by omega)
  have alen := allM_len (n := w) (by omega)
  show fin (d_names_of [some (.d (me ms)), none, none, none, none, none, none, none]) = _
  refine fin_seq (drop_dme h rfl) ?_
  have z1 := v_wide h
  refine fin_seq (asgd_ok (x := I w) ?_) ?_
  · rw [ap_kCall, ap_aCons]
    simp only [kV_0d, R.ok_bind, ap_aNil, args_cons, args_nil, arg_d, List.length_cons, List.length_nil, decide_true, chk_true, z1]
  refine fin_seq (asgl_ok (ds := (allM w).map I) ?_) ?_
  · have z2 := lst_rg (f := kB shlS (kC (.int 1)) (kV 1)) (δ := ([some (.d (me ms)), none, none, none, none, none, none, none] : Env).set 1 (some (.d (I w)))) (n := w) (by omega) (by
      rw [ap_kB, ap_kC, R.ok_bind]
      simp only [List.set_cons_succ, List.set_cons_zero, kV_s, kV_0d, R.ok_bind, pow_S w (show w ≤ 1000000 by omega)])
    have z3 := v_ord (n := w) (by omega)
    rw [ap_kCall, ap_aCons, z2]
    simp only [R.ok_bind, ap_aNil, args_cons, args_nil, arg_fr, List.length_cons, List.length_nil, decide_true, chk_true, z3]
  have hA : ((allM w).filter fun m => (bt (clo (pm w ms) w m)).length == w).length ≤ 64 := Nat.le_trans (List.length_filter_le _ _) alen
  have hA2 : ∀ m ∈ (allM w).filter fun m => (bt (clo (pm w ms) w m)).length == w, m < 64 := fun m hm => by
    have := a1 m (List.mem_filter.mp hm).1
    omega
  refine fin_seq (asgl_ok (ds := ((allM w).filter fun m => (bt (clo (pm w ms) w m)).length == w).map I) ?_) ?_
  · refine comp_filter (enc := fun m : Nat => I m) _ _ (allM w) (by rw [ap_iVal]; rfl) (by omega) fun m hm => ?_
    have hm2 := a1 m hm
    have z2 := v_mem (m := m) (by omega)
    have z3 := v_told h hm2
    simp only [turn, ap_gN, R.ok_bind, wipeD, List.set_cons_succ, List.set_cons_zero, ap_kBl, ap_kB, ap_kCB, ap_kCall, ap_aCons, kV_s, kV_0d, ap_aNil, args_cons, args_nil, arg_d, List.length_cons, List.length_nil, decide_true, chk_true, z2, z3, on1_1, len_tup, List.length_map, eq_int, beq_nat, S.b_bool]
    cases (bt (clo (pm w ms) w m)).length == w <;> rfl
  unfold namesM
  generalize (allM w).filter (fun m => (bt (clo (pm w ms) w m)).length == w) = A at *
  refine fin_seq (asgl_ok (ds := (least A).map I) ?_) ?_
  · refine comp_filter (enc := fun m : Nat => I m) (fun o => !A.any fun x => x != o && (x &&& o == x)) _ A (by rw [ap_iVal]; rfl) (by omega) fun o ho => ?_
    have hc : kComp (iVal false (kV 3)) (gN 7) tTrue (kAnd (kB neS (kV 7) (kV 6)) (kB eqS (kB andS (kV 7) (kV 6)) (kV 7))) [7] [some (.d (me ms)), some (.d (I w)), some (.d (.list ((allM w).map I))), some (.d (.list (A.map I))), none, none, some (.d (I o)), none] = .ok (.l .fr (A.map fun x => .bool (x != o && (x &&& o == x)))) := by
      refine comp_map (enc := fun k : Nat => I k) _ A rfl (by omega) fun x hx => ?_
      simp only [turn, ap_gN, R.ok_bind, wipeD, List.set_cons_succ, List.set_cons_zero, ap_tTrue, if_true, ap_kAnd, ap_kB, kV_s, kV_0d, ne_int, eq_int, and_S, beq_nat, S.b_bool]
      cases hx : (x == o) <;> simp [bne, hx]
    simp only [turn, ap_gN, R.ok_bind, wipeD, List.set_cons_succ, List.set_cons_zero, ap_tNot, ap_kTru, ap_kCB, ap_aCons, hc, ap_aNil, on1_1, any_l, bls_map, any_map, tru_bool, kV_s, kV_0d]
    cases A.any fun x => x != o && (x &&& o == x) <;> rfl
  · refine fin_retE (s := .d (.tuple ((least A).map fun m => ti (bt m)))) ?_ rfl
    have hc : kComp (iVal false (kV 4)) (gN 6) tTrue (kCall 1 m_members_of (aCons (kV 6) aNil)) [6] [some (.d (me ms)), some (.d (I w)), some (.d (.list ((allM w).map I))), some (.d (.list (A.map I))), some (.d (.list ((least A).map I))), none, none, none] = .ok (.l .fr ((least A).map fun m => ti (bt m))) := by
      refine comp_map (enc := fun k : Nat => I k) _ (least A) rfl (Nat.le_trans (List.length_filter_le _ _) (by omega)) fun x hx => ?_
      have z := v_mem (m := x) (hA2 x (List.mem_filter.mp hx).1)
      simp only [turn, ap_gN, R.ok_bind, wipeD, List.set_cons_succ, List.set_cons_zero, ap_tTrue, if_true, ap_kCall, ap_aCons, kV_s, kV_0d, ap_aNil, args_cons, args_nil, arg_d, List.length_cons, List.length_nil, decide_true, chk_true, z, S.pd_d]
    rw [ap_kCB, ap_aCons]
    simp only [List.set_cons_succ, List.set_cons_zero]
    rw [hc]
    simp only [R.ok_bind, ap_aNil, on1_1, tup_l]
end G
end DL

set_option Elab.async false
set_option linter.all false
set_option maxRecDepth 100000
set_option maxHeartbeats 1000000
namespace DL
namespace G
open PySem PySem.Spec L2
def PP (w : Nat) (ms : List (List Nat)) : List ((Nat × Nat) × Nat) := ms.zipIdx.flatMap fun p => (ms.drop (p.2 + 1)).zipIdx.map fun q => ((p.2, p.2 + 1 + q.2), am w p.1 q.1)
theorem zip_fst {α β : Type} (f : α → β) (l : List α) (i : Nat) : (l.zipIdx i).map (fun q => f q.1) = l.map f := by
  induction l generalizing i with
  | nil => rfl
  | cons a l ih => rw [List.zipIdx_cons, List.map_cons, List.map_cons, ih]
theorem zip_snd {α β : Type} (f : Nat → β) (l : List α) (i : Nat) : (l.zipIdx i).map (fun q => f q.2) = (List.range l.length).map fun j => f (i + j) := by
  induction l generalizing i with
  | nil => rfl
  | cons a l ih =>
    rw [List.zipIdx_cons, List.map_cons, ih, List.length_cons, List.range_succ_eq_map, List.map_cons, List.map_map]
    congr 1
    exact List.map_congr_left fun j _ => by show f (i + 1 + j) = f (i + (j + 1)); congr 1; omega
theorem PP_mask (w : Nat) (ms : List (List Nat)) : (PP w ms).map (·.2) = pm w ms := by
  unfold PP
  rw [List.map_flatMap]
  have : ∀ p : List Nat × Nat, ((ms.drop (p.2 + 1)).zipIdx.map fun q => ((p.2, p.2 + 1 + q.2), am w p.1 q.1)).map (·.2) = (ms.drop (p.2 + 1)).map (am w p.1) := fun p => by
    rw [List.map_map]
    exact zip_fst (am w p.1) _ 0
  simp only [this]
  have e := flat_pm w ms ms [] rfl
  rw [List.length_nil] at e
  exact e
def ipr (k : Nat) : List (Nat × Nat) := (List.range k).flatMap fun i => (List.range (k - (i + 1))).map fun j => (i, i + 1 + j)
theorem flat_snd {α β : Type} (f : Nat → List β) : ∀ (l : List α) (i : Nat), (l.zipIdx i).flatMap (fun q => f q.2) = (List.range l.length).flatMap fun j => f (i + j)
  | [], i => rfl
  | a :: l, i => by
    rw [List.zipIdx_cons, List.flatMap_cons, flat_snd f l (i + 1), List.length_cons, List.range_succ_eq_map, List.flatMap_cons, List.flatMap_map]
    congr 1
    have : (fun j => f (i + 1 + j)) = (fun j => f (i + Nat.succ j)) := by
      funext j
      congr 1
      omega
    rw [this]
theorem PP_ix (w : Nat) (ms : List (List Nat)) : (PP w ms).map (·.1) = ipr ms.length := by
  unfold PP ipr
  rw [List.map_flatMap]
  have : ∀ p : List Nat × Nat, ((ms.drop (p.2 + 1)).zipIdx.map fun q => ((p.2, p.2 + 1 + q.2), am w p.1 q.1)).map (·.1) = (fun k => (List.range (ms.length - (k + 1))).map fun j => (k, k + 1 + j)) p.2 := fun p => by
    rw [List.map_map]
    have := zip_snd (fun j => (p.2, p.2 + 1 + j)) (ms.drop (p.2 + 1)) 0
    rw [List.length_drop] at this
    simp only [Nat.zero_add] at this
    exact this
  simp only [this]
  have e := flat_snd (fun k => (List.range (ms.length - (k + 1))).map fun j => (k, k + 1 + j)) ms 0
  simp only [Nat.zero_add] at e
  exact e
theorem PP_at {w : Nat} {ms : List (List Nat)} {x : (Nat × Nat) × Nat} (hx : x ∈ PP w ms) : ∃ r s, ms[x.1.1]? = some r ∧ ms[x.1.2]? = some s ∧ x.2 = am w r s := by
  obtain ⟨p, hp, hx⟩ := List.mem_flatMap.mp hx
  obtain ⟨q, hq, rfl⟩ := List.mem_map.mp hx
  have h1 := List.mem_zipIdx_iff_getElem?.mp hp
  have h2 := List.mem_zipIdx_iff_getElem?.mp hq
  rw [List.getElem?_drop] at h2
  exact ⟨p.1, q.1, h1, h2, rfl⟩
theorem PP_len {w : Nat} {ms : List (List Nat)} (h : Me w ms) : (PP w ms).length ≤ 6 := by
  have := pm_len w ms h.len
  rw [← PP_mask, List.length_map] at this
  exact this
theorem ix_me {ms : List (List Nat)} {i : Nat} {r : List Nat} (h : ms[i]? = some r) : ixS (.d (me ms)) (.d (I i)) = .ok (.d (ti r)) := by
  rw [ix_tup, atI_n, List.getElem?_map, h]
  rfl
theorem all_am {w l : Nat} (hl : l < 2 ^ w) (hw : w < 7) (r s : List Nat) : (bt l).all (fun i => r.getD i 0 == s.getD i 0) = (l &&& am w r s == l) := by
  cases e : (l &&& am w r s == l)
  · cases e2 : (bt l).all (fun i => r.getD i 0 == s.getD i 0)
    · rfl
    · have : l &&& am w r s = l := sub_iff.mpr fun i hi => by
        have hiw := lt_bit hl hi
        unfold am
        rw [mkN_bit, decide_eq_true hiw, Bool.true_and]
        exact List.all_eq_true.mp e2 i (List.mem_filter.mpr ⟨List.mem_range.mpr (by omega), hi⟩)
      rw [beq_iff_eq.mpr this] at e
      cases e
  · refine List.all_eq_true.mpr fun i hi => ?_
    have hb := (List.mem_filter.mp hi).2
    have := sub_iff.mp (beq_iff_eq.mp e) i hb
    unfold am at this
    rw [mkN_bit] at this
    exact (Bool.and_eq_true_iff.mp this).2
theorem v_lalike {w l : Nat} (hw : w ≤ 4) (hl : l < 2 ^ w) {r s : List Nat} (hr : r.length = w) (hs : s.length = w) : m__law_alike [.d (ti r), .d (ti s), .d (ti (bt l))] = .ok (.d (.bool (l &&& am w r s == l))) := by
  show fin (d__law_alike [some (.d (ti r)), some (.d (ti s)), some (.d (ti (bt l))), none]) = _
  refine fin_retE (s := .d (.bool (l &&& am w r s == l))) ?_ rfl
  have hc : kComp (iVal false (kV 2)) (gN 3) tTrue (kB eqS (kB ixS (kV 0) (kV 3)) (kB ixS (kV 1) (kV 3))) [3] [some (.d (ti r)), some (.d (ti s)), some (.d (ti (bt l))), none] = .ok (.l .fr ((bt l).map fun i => .bool (r.getD i 0 == s.getD i 0))) := by
    refine comp_map (enc := fun i : Nat => I i) _ (bt l) (by rw [ap_iVal]; rfl) (Nat.le_trans (bt_len l) (by decide)) fun i hi => ?_
    have hb := lt_bit hl (List.mem_filter.mp hi).2
    have z1 := ix_ti (r := r) (i := i) (by omega)
    have z2 := ix_ti (r := s) (i := i) (by omega)
    simp only [turn, ap_gN, R.ok_bind, wipeD, List.set_cons_succ, List.set_cons_zero, ap_tTrue, if_true, ap_kB, kV_s, kV_0d, z1, z2, eq_int, beq_nat, S.pd_d]
  rw [ap_kCB, ap_aCons, hc]
  simp only [R.ok_bind, ap_aNil, on1_1, all_l, bls_map, all_map, all_am hl (show w < 7 by omega)]
theorem rg2_map (a b : Nat) (ha : a ≤ 1000) (hb : b ≤ 1000) : rg2S [.d (I a), .d (I b)] = .ok ((List.range (b - a)).map fun j => I (a + j)) := by
  show (S.i (.d (I a)) >>= fun i => S.i (.d (I b)) >>= fun j => chk (cSm i && cSm j) (.ok (rangeP i 1 (j - i).toNat))) = _
  rw [S.i_int, R.ok_bind, S.i_int, R.ok_bind, csm_nat a (by omega), csm_nat b (by omega)]
  show R.ok (rangeP (a : Int) 1 ((b : Int) - (a : Int)).toNat) = _
  unfold rangeP
  rw [show ((b : Int) - (a : Int)).toNat = b - a by omega]
  congr 1
  refine List.map_congr_left fun j _ => ?_
  show PyData.int ((a : Int) + (j : Int) * 1) = PyData.int ((a + j : Nat) : Int)
  rw [Int.mul_one, ← Int.natCast_add]
theorem add_ld (a b : List PyData) (h : a.length + b.length ≤ 1000000) : addS (.d (.list a)) (.l .fr b) = .ok (.l .fr (a ++ b)) := by
  have : addS (.d (.list a)) (.l .fr b) = chk (decide (a.length + b.length ≤ 1000000)) (.ok (.l .fr (a ++ b))) := rfl
  rw [this, decide_eq_true h, chk_true]
theorem fold_flat {α β : Type} (f : α → List β) : ∀ (l : List α) (b : List β), l.foldl (fun F a => F ++ f a) b = b ++ l.flatMap f
  | [], b => by simp
  | a :: l, b => by rw [List.foldl_cons, fold_flat f l, List.flatMap_cons, List.append_assoc]
end G
end DL

set_option Elab.async false
set_option linter.all false
set_option maxRecDepth 100000
set_option maxHeartbeats 1000000
namespace DL
namespace G
open PySem PySem.Spec L2
theorem v_lpairs {ms : List (List Nat)} (hl : ms.length ≤ 4) : m__law_pairs [.d (me ms)] = .ok (.d (.list ((ipr ms.length).map ep))) := by
  show fin (d__law_pairs [some (.d (me ms)), none, none, none]) = _
  refine fin_seq (asgl_ok (ds := []) (by simp)) ?_
  have elen : (kCB (on1 lenS) (aCons (kV 0) aNil)) = (kCB (on1 lenS) (aCons (kV 0) aNil)) := rfl
  obtain ⟨δ', e, o2, rfl⟩ := for_relP (enc := fun i : Nat => I i) (fun (F : List (Nat × Nat)) δ => ∃ o2, δ = [some (.d (me ms)), some (.d (.list (F.map ep))), o2, none]) (fun F i => F ++ (List.range (ms.length - (i + 1))).map fun j => (i, i + 1 + j)) (List.range ms.length) (b := []) (δ := [some (.d (me ms)), some (.d (.list [])), none, none]) (fi := iRg rg1S (aCons (kCB (on1 lenS) (aCons (kV 0) aNil)) aNil)) (g := gN 2) (u := sAsg 1 (kB addS (kV 1) (kComp (iRg rg2S (aCons (kB addS (kV 2) (kC (.int 1))) (aCons (kCB (on1 lenS) (aCons (kV 0) aNil)) aNil))) (gN 3) tTrue (kTup (aCons (kV 2) (aCons (kV 3) aNil))) [3])))
    (rg_ok (by simp) (by omega)) ⟨none, rfl⟩ (fun P i Q δ hq ⟨o2, hδ⟩ => by
      subst hδ
      have hi : i < ms.length := List.mem_range.mp (by rw [hq]; exact List.mem_append_right _ List.mem_cons_self)
      have hP : P.length ≤ 4 := by
        have := congrArg List.length hq
        rw [List.length_range, List.length_append] at this
        omega
      have hF : (P.foldl (fun F i => F ++ (List.range (ms.length - (i + 1))).map fun j => (i, i + 1 + j)) ([] : List (Nat × Nat))).length ≤ 100 := by
        have : ∀ (P : List Nat) (F : List (Nat × Nat)), (P.foldl (fun F i => F ++ (List.range (ms.length - (i + 1))).map fun j => (i, i + 1 + j)) F).length ≤ F.length + 4 * P.length := by
          intro P
          induction P with
          | nil => intro F; simp
          | cons a P ih =>
            intro F
            rw [List.foldl_cons]
            have := ih (F ++ (List.range (ms.length - (a + 1))).map fun j => (a, a + 1 + j))
            rw [List.length_append, List.length_map, List.length_range] at this
            rw [List.length_cons]
            omega
        have := this P []
        rw [List.length_nil] at this
        omega
      generalize P.foldl (fun F i => F ++ (List.range (ms.length - (i + 1))).map fun j => (i, i + 1 + j)) ([] : List (Nat × Nat)) = F at *
      refine ⟨[some (.d (me ms)), some (.d (.list (F.map ep))), some (.d (I i)), none], [some (.d (me ms)), some (.d (.list ((F ++ (List.range (ms.length - (i + 1))).map fun j => (i, i + 1 + j)).map ep))), some (.d (I i)), none], rfl, ?_, _, rfl⟩
      have hc : kComp (iRg rg2S (aCons (kB addS (kV 2) (kC (.int 1))) (aCons (kCB (on1 lenS) (aCons (kV 0) aNil)) aNil))) (gN 3) tTrue (kTup (aCons (kV 2) (aCons (kV 3) aNil))) [3] [some (.d (me ms)), some (.d (.list (F.map ep))), some (.d (I i)), none] = .ok (.l .fr ((List.range (ms.length - (i + 1))).map fun j => ep (i, i + 1 + j))) := by
        refine comp_map (enc := fun j : Nat => I (i + 1 + j)) _ (List.range (ms.length - (i + 1))) ?_ (by rw [List.length_range]; omega) fun j hj => ?_
        · have za : (aCons (kB addS (kV 2) (kC (.int 1))) (aCons (kCB (on1 lenS) (aCons (kV 0) aNil)) aNil)) [some (.d (me ms)), some (.d (.list (F.map ep))), some (.d (I i)), none] = .ok [.d (I (i + 1)), .d (I ms.length)] := by
            rw [ap_aCons, ap_kB, ap_aCons, ap_kCB, ap_aCons]
            simp only [kV_s, kV_0d, R.ok_bind, ap_kC, add_int, ap_aNil, on1_1, len_tup, List.length_map]
            rfl
          rw [ap_iRg, za, R.ok_bind]
          exact rg2_map (i + 1) ms.length (by omega) (by omega)
        · simp only [turn, ap_gN, R.ok_bind, wipeD, List.set_cons_succ, List.set_cons_zero, ap_tTrue, if_true, ap_kTup, ap_aCons, kV_s, kV_0d, ap_aNil, pds_cons, pds_nil, S.pd_d]
          rfl
      refine asgl_ok ?_
      rw [ap_kB, hc]
      simp only [kV_s, kV_0d, R.ok_bind]
      rw [add_ld _ _ (by simp; omega), List.map_append, List.map_map]
      rfl)
  refine fin_seq e ?_
  rw [fold_flat, List.nil_append]
  exact fin_retE (s := .d (.list ((ipr ms.length).map ep))) rfl rfl
/-! ### pair_against -/
abbrev badm (l q a : Nat) : Bool := (l &&& a == l) && !(q &&& a == q)
theorem in_SL (neg : Bool) (k : Nat) (l : List Nat) : inS neg (.d (I k)) (.d (.list (l.map I))) = .ok (.d (.bool (if neg then !l.contains k else l.contains k))) := by
  unfold inS sh2
  simp only [S.rd_d, R.ok_bind, S.its_d, (fl_int (k : Int)).sh (by decide), (fl_li l).sh (by decide)]
  show R.ok (S.d (.bool (if neg then !(anyEqv (l.map I) (I k)) else anyEqv (l.map I) (I k)))) = _
  rw [any_eqv]
abbrev qE (ms : List (List Nat)) (l q : Nat) (o3 o4 o5 o6 o7 o8 : Option S) : Env := [some (.d (me ms)), some (.d (ti (bt l))), some (.d (ti (bt q))), o3, o4, o5, o6, o7, o8]
theorem same_ev2 {w : Nat} {r s : List Nat} (hw : w ≤ 4) (hr : r.length = w) (hs : s.length = w) (o0 o1 o2 o3 o5 o7 o8 : Option S) : kComp (iRg rg1S (aCons (kCB (on1 lenS) (aCons (kV 4) aNil)) aNil)) (gN 8) (kBl (kB eqS (kB ixS (kV 4) (kV 8)) (kB ixS (kV 6) (kV 8)))) (kV 8) [8] [o0, o1, o2, o3, some (.d (ti r)), o5, some (.d (ti s)), o7, o8] = .ok (.l .fr ((bt (am w r s)).map I)) := by
  have hf := filter_range (n := w) (by omega) (fun i => r.getD i 0 == s.getD i 0)
  unfold am
  rw [← hf]
  refine comp_filter (enc := fun i : Nat => I i) (fun i => r.getD i 0 == s.getD i 0) _ (List.range w) (rg_ok ?_ (by omega)) (by rw [List.length_range]; omega) fun i hi => ?_
  · simp [hr]
  · have hi := List.mem_range.mp hi
    have z1 := ix_ti (r := r) (i := i) (by omega)
    have z2 := ix_ti (r := s) (i := i) (by omega)
    simp only [turn, ap_gN, R.ok_bind, wipeD, List.set_cons_succ, List.set_cons_zero, ap_kBl, ap_kB, kV_s, kV_0d, z1, z2, eq_int, beq_nat, S.b_bool]
    cases r.getD i 0 == s.getD i 0 <;> rfl
theorem all_in {m a : Nat} (hm : m < 64) (ha : a < 64) (j : Nat) (δ : Env) (h8 : 8 < δ.length) (hj : kV j δ = .ok (.d (ti (bt m)))) (h7 : kV 7 δ = .ok (.d (.list ((bt a).map I)))) : kTru (kCB (on1 allS) (aCons (kComp (iVal false (kV j)) (gN 8) tTrue (kB (inS false) (kV 8) (kV 7)) [8]) aNil)) δ = .ok (m &&& a == m) := by
  have hc : kComp (iVal false (kV j)) (gN 8) tTrue (kB (inS false) (kV 8) (kV 7)) [8] δ = .ok (.l .fr ((bt m).map fun x => .bool ((bt a).contains x))) := by
    refine comp_map (enc := fun i : Nat => I i) _ (bt m) (by rw [ap_iVal, hj]; rfl) (Nat.le_trans (bt_len m) (by decide)) fun x hx => ?_
    unfold turn
    rw [ap_gN, R.ok_bind, ap_tTrue, R.ok_bind, if_pos rfl, ap_kB, kw_eq h8, kw_ne (by decide), h7, R.ok_bind, R.ok_bind, in_SL]
    rfl
  rw [ap_kTru, ap_kCB, ap_aCons, hc]
  simp only [R.ok_bind, ap_aNil, on1_1, all_l, bls_map, all_map, tru_bool]
  rw [show ((bt m).all fun x => (bt a).contains x) = (bt m).all (bt a).contains from rfl, has_bt hm ha]
theorem find_flat {α β γ : Type} (g : β → Option γ) (f : α → List β) : ∀ l : List α, (l.flatMap f).findSome? g = l.findSome? fun a => (f a).findSome? g
  | [] => rfl
  | a :: l => by
    rw [List.flatMap_cons, List.findSome?_append, List.findSome?_cons, find_flat g f l]
    cases (f a).findSome? g <;> rfl
theorem enum_ti (l : List (List Nat)) : enumP (l.map ti) = l.zipIdx.map fun z : List Nat × Nat => .tuple [I z.2, ti z.1] := by simp [enumP, List.zipIdx_map]
theorem v_pagainst {w l q : Nat} {ms : List (List Nat)} (h : Me w ms) (hl : l < 2 ^ w) (hq : q < 2 ^ w) : m_pair_against [.d (me ms), .d (ti (bt l)), .d (ti (bt q))] = .ok (match (PP w ms).findSome? (fun x => if badm l q x.2 then some (S.d (ep x.1)) else none) with | some s => s | none => .d .none) := by
  have hw := h.hw
  have h16 : 2 ^ w ≤ 2 ^ 4 := Nat.pow_le_pow_right (by decide) hw
  have run : m_pair_against [.d (me ms), .d (ti (bt l)), .d (ti (bt q))] = fin (d_pair_against (qE ms l q none none none none none none)) := rfl
  rw [run]
  unfold d_pair_against
  rw [seq_ok (drop_dme h rfl), seq_ok (set_dem (by omega) hl h rfl rfl), seq_ok (set_dem (by omega) hq h rfl rfl)]
  have hr := for_ret (enc := fun p : List Nat × Nat => .tuple [I p.2, ti p.1]) (fun δ => ∃ o3 o4 o5 o6 o7, δ = qE ms l q o3 o4 o5 o6 o7 none) (fun p : List Nat × Nat => ((ms.drop (p.2 + 1)).zipIdx.map fun z => ((p.2, p.2 + 1 + z.2), am w p.1 z.1)).findSome? (fun x => if badm l q x.2 then some (S.d (ep x.1)) else none)) (fi := iEnumF true (kV 0)) (g := gT ((gN 3) :: ((gN 4) :: []))) (u := sFor (iEnumF true (kSl (kV 0) (oSome (kB addS (kV 3) (kC (.int 1)))) oNo)) (gT ((gN 5) :: ((gN 6) :: []))) (sSeq (sAsg 7 (kComp (iRg rg1S (aCons (kCB (on1 lenS) (aCons (kV 4) aNil)) aNil)) (gN 8) (kBl (kB eqS (kB ixS (kV 4) (kV 8)) (kB ixS (kV 6) (kV 8)))) (kV 8) [8])) (sIf (tAndK (kTru (kCB (on1 allS) (aCons (kComp (iVal false (kV 1)) (gN 8) tTrue (kB (inS false) (kV 8) (kV 7)) [8]) aNil))) (tNotK (kTru (kCB (on1 allS) (aCons (kComp (iVal false (kV 2)) (gN 8) tTrue (kB (inS false) (kV 8) (kV 7)) [8]) aNil))))) (sRet (kTup (aCons (kV 3) (aCons (kB addS (kB addS (kV 3) (kC (.int 1))) (kV 5)) aNil)))) sNext))) ms.zipIdx (δ := qE ms l q none none none none none none)
    (by
      rw [ap_iEnum, kV_0d, R.ok_bind, itsJ_tuple, R.ok_bind]
      simp [enumP, List.zipIdx_map]) ⟨_, _, _, _, _, rfl⟩ (fun p δ hp ⟨o3, o4, o5, o6, o7, hδ⟩ => by
      subst hδ
      have hp1 := List.mem_zipIdx_iff_getElem?.mp hp
      have hr := (h.row p.1 (List.mem_of_getElem? hp1)).1
      refine ⟨qE ms l q (some (.d (I p.2))) (some (.d (ti p.1))) o5 o6 o7 none, rfl, ?_⟩
      have inner := for_ret (enc := fun z : List Nat × Nat => .tuple [I z.2, ti z.1]) (fun δ => ∃ o5 o6 o7, δ = qE ms l q (some (.d (I p.2))) (some (.d (ti p.1))) o5 o6 o7 none) (fun z : List Nat × Nat => if badm l q (am w p.1 z.1) then some (S.d (ep (p.2, p.2 + 1 + z.2))) else none) (fi := iEnumF true (kSl (kV 0) (oSome (kB addS (kV 3) (kC (.int 1)))) oNo)) (g := gT ((gN 5) :: ((gN 6) :: []))) (u := sSeq (sAsg 7 (kComp (iRg rg1S (aCons (kCB (on1 lenS) (aCons (kV 4) aNil)) aNil)) (gN 8) (kBl (kB eqS (kB ixS (kV 4) (kV 8)) (kB ixS (kV 6) (kV 8)))) (kV 8) [8])) (sIf (tAndK (kTru (kCB (on1 allS) (aCons (kComp (iVal false (kV 1)) (gN 8) tTrue (kB (inS false) (kV 8) (kV 7)) [8]) aNil))) (tNotK (kTru (kCB (on1 allS) (aCons (kComp (iVal false (kV 2)) (gN 8) tTrue (kB (inS false) (kV 8) (kV 7)) [8]) aNil))))) (sRet (kTup (aCons (kV 3) (aCons (kB addS (kB addS (kV 3) (kC (.int 1))) (kV 5)) aNil)))) sNext)) (ms.drop (p.2 + 1)).zipIdx (δ := qE ms l q (some (.d (I p.2))) (some (.d (ti p.1))) o5 o6 o7 none)
        (by
          rw [ap_iEnum, slice_at (ms := ms) (k := p.2) rfl rfl, R.ok_bind, itsJ_tuple, R.ok_bind, enum_ti]) ⟨_, _, _, rfl⟩ (fun z δ hz ⟨o5, o6, o7, hδ⟩ => by
          subst hδ
          have hz1 := List.mem_zipIdx_iff_getElem?.mp hz
          have hs := (h.row z.1 (List.mem_of_mem_drop (List.mem_of_getElem? hz1))).1
          have ha := am_lt w p.1 z.1
          refine ⟨qE ms l q (some (.d (I p.2))) (some (.d (ti p.1))) (some (.d (I z.2))) (some (.d (ti z.1))) o7 none, rfl, ?_⟩
          have e1 : sAsg 7 (kComp (iRg rg1S (aCons (kCB (on1 lenS) (aCons (kV 4) aNil)) aNil)) (gN 8) (kBl (kB eqS (kB ixS (kV 4) (kV 8)) (kB ixS (kV 6) (kV 8)))) (kV 8) [8]) (qE ms l q (some (.d (I p.2))) (some (.d (ti p.1))) (some (.d (I z.2))) (some (.d (ti z.1))) o7 none) = .next (qE ms l q (some (.d (I p.2))) (some (.d (ti p.1))) (some (.d (I z.2))) (some (.d (ti z.1))) (some (.d (.list ((bt (am w p.1 z.1)).map I)))) none) := asgl_ok (same_ev2 hw hr hs _ _ _ _ _ _ _)
          have et : tAndK (kTru (kCB (on1 allS) (aCons (kComp (iVal false (kV 1)) (gN 8) tTrue (kB (inS false) (kV 8) (kV 7)) [8]) aNil))) (tNotK (kTru (kCB (on1 allS) (aCons (kComp (iVal false (kV 2)) (gN 8) tTrue (kB (inS false) (kV 8) (kV 7)) [8]) aNil)))) (qE ms l q (some (.d (I p.2))) (some (.d (ti p.1))) (some (.d (I z.2))) (some (.d (ti z.1))) (some (.d (.list ((bt (am w p.1 z.1)).map I)))) none) = .ok (badm l q (am w p.1 z.1)) := by
            have y1 := all_in (m := l) (a := am w p.1 z.1) (by omega) (by omega) 1 (qE ms l q (some (.d (I p.2))) (some (.d (ti p.1))) (some (.d (I z.2))) (some (.d (ti z.1))) (some (.d (.list ((bt (am w p.1 z.1)).map I)))) none) (by simp) rfl rfl
            have y2 := all_in (m := q) (a := am w p.1 z.1) (by omega) (by omega) 2 (qE ms l q (some (.d (I p.2))) (some (.d (ti p.1))) (some (.d (I z.2))) (some (.d (ti z.1))) (some (.d (.list ((bt (am w p.1 z.1)).map I)))) none) (by simp) rfl rfl
            refine t_and y1 ?_
            rw [ap_tNot, y2]
            rfl
          rw [seq_ok e1, if_ok et]
          cases hb : badm l q (am w p.1 z.1)
          · exact .inr ⟨rfl, _, rfl, _, _, _, rfl⟩
          · refine .inl ⟨.d (ep (p.2, p.2 + 1 + z.2)), qE ms l q (some (.d (I p.2))) (some (.d (ti p.1))) (some (.d (I z.2))) (some (.d (ti z.1))) (some (.d (.list ((bt (am w p.1 z.1)).map I)))) none, rfl, ?_⟩
            rw [if_pos rfl]
            refine ret_ok ?_
            rw [ap_kTup, ap_aCons, ap_aCons, ap_kB, ap_kB]
            simp only [kV_s, kV_0d, R.ok_bind, ap_kC, add_int, ap_aNil, pds_cons, pds_nil, S.pd_d]
            rfl)
      rw [List.findSome?_map]
      rcases inner with ⟨s, δ2, hs, e⟩ | ⟨hn, δ2, e, o5', o6', o7', rfl⟩
      · exact .inl ⟨s, δ2, hs, e⟩
      · exact .inr ⟨hn, _, e, _, _, _, _, _, rfl⟩)
  unfold PP
  rw [find_flat]
  rcases hr with ⟨s, δ2, hs, e⟩ | ⟨hn, δ2, e, o3, o4, o5, o6, o7, rfl⟩
  · rw [hs]
    refine Eq.trans (congrArg fin (seq_ret e)) ?_
    obtain ⟨p, hp, hz⟩ := List.exists_of_findSome?_eq_some hs
    obtain ⟨x, hx, hy⟩ := List.exists_of_findSome?_eq_some hz
    split at hy
    · cases hy
      rfl
    · cases hy
  · rw [hn]
    exact Eq.trans (congrArg fin (seq_ok e)) rfl
end G
end DL

set_option Elab.async false
set_option linter.all false
set_option maxRecDepth 100000
set_option maxHeartbeats 1000000
namespace DL
namespace G
open PySem PySem.Spec L2
abbrev mE (a b c : Int) (Sh W : Nat) (o3 : Option S) (n th : Nat) (rows : List PyData) (o7 : Option S) : Env := [some (.l .ow (D3 a b c)), some (.d (I Sh)), some (.d (I W)), o3, some (.d (I n)), some (.d (I th)), some (.l .ow rows), o7]
abbrev slE : Env → R S := kSl (kLst (aCons (kC (.int 0)) (aCons (kC (.int 1)) (aCons (kC (.int 2)) (aCons (kC (.int 50)) (aCons (kC (.int 99)) aNil)))))) oNo (oSome (kV 5))
def vals (th : Nat) : List Nat := [0, 1, 2, 50, 99].take th
theorem sl_ev {th : Nat} (hth : th = 2 ∨ th = 3 ∨ th = 5) (a b c : Int) (Sh W : Nat) (o3 : Option S) (n : Nat) (rows : List PyData) (o7 : Option S) : slE (mE a b c Sh W o3 n th rows o7) = .ok (.l .fr ((vals th).map I)) := by
  rcases hth with rfl | rfl | rfl <;> (unfold slE; rw [ap_kSl]; simp; rfl)
theorem comp_pick {th : Nat} (hth : th = 2 ∨ th = 3 ∨ th = 5) (Sh W : Nat) (o3 : Option S) (n : Nat) (rows : List PyData) : ∀ (l : List Nat) (a b c : Int), 0 ≤ c → c + l.length < 1000000 → ∃ (r : List Nat) (a' b' c' : Int), compX (gN 7) xYes (xCallX 2 [0] m__law_pick (xaIo 0 (xaCons (xP slE) xaNil))) [7] (l.map I) (mE a b c Sh W o3 n th rows none) = .ok (r.map I, mE a' b' c' Sh W o3 n th rows none) ∧ r.length = l.length ∧ (∀ x ∈ r, x ≤ 99) ∧ 0 ≤ c' ∧ c' ≤ c + l.length
  | [], a, b, c, h0, h1 => ⟨[], a, b, c, rfl, rfl, fun x h => (by cases h), h0, by simp⟩
  | i :: l, a, b, c, h0, h1 => by
    rw [List.length_cons] at h1
    have hne : (vals th).map I ≠ [] := by rcases hth with rfl | rfl | rfl <;> simp [vals]
    have hle : ((vals th).map I).length ≤ 1000 := by rcases hth with rfl | rfl | rfl <;> simp [vals]
    obtain ⟨x, hx, a1, b1, c1, e1, k0, k1⟩ := v_pick a b c ((vals th).map I) hne hle h0 (by omega)
    obtain ⟨v, hv, rfl⟩ := List.mem_map.mp hx
    have hv99 : v ≤ 99 := by
      have : v ∈ ([0, 1, 2, 50, 99] : List Nat) := List.mem_of_mem_take hv
      simp at this
      omega
    obtain ⟨r, a2, b2, c2, e2, k2, k3, k4, k5⟩ := comp_pick hth Sh W o3 n rows l a1 b1 c1 k0 (by omega)
    refine ⟨v :: r, a2, b2, c2, ?_, by rw [List.length_cons, List.length_cons, k2], fun y hy => ?_, k4, by rw [List.length_cons]; omega⟩
    · rw [List.map_cons]
      unfold compX
      have eg : gN 7 (I i) (mE a b c Sh W o3 n th rows none) = .ok (mE a b c Sh W o3 n th rows (some (.d (I i)))) := rfl
      have ey : xYes (mE a b c Sh W o3 n th rows (some (.d (I i)))) = .ok (true, mE a b c Sh W o3 n th rows (some (.d (I i)))) := rfl
      have es := sl_ev hth a b c Sh W o3 n rows (some (.d (I i)))
      have ec : xCallX 2 [0] m__law_pick (xaIo 0 (xaCons (xP slE) xaNil)) (mE a b c Sh W o3 n th rows (some (.d (I i)))) = .ok (.d (I v), mE a1 b1 c1 Sh W o3 n th rows (some (.d (I i)))) := xcall1 (x := .l .fr ((vals th).map I)) (z := .d (.list ((vals th).map I))) rfl rfl es rfl rfl e1 rfl
      rw [eg, R.ok_bind, ey]
      simp only [R.ok_bind, if_true, ec, S.pd_d]
      have ew : wipeD (mE a1 b1 c1 Sh W o3 n th rows (some (.d (I i)))) [7] = mE a1 b1 c1 Sh W o3 n th rows none := rfl
      rw [ew, e2]
      rfl
    · rcases List.mem_cons.mp hy with rfl | hy
      · exact hv99
      · exact k3 y hy
abbrev mApp : Env → SR := sAppX 6 (xOf (on1 tupS) (xaCons (xComp (xI (iRg rg1S (aCons (kV 4) aNil))) (gN 7) xYes (xCallX 2 [0] m__law_pick (xaIo 0 (xaCons (xP slE) xaNil))) [7]) xaNil))
theorem v_meas (a b c : Int) (Sh W : Nat) (hW : W ≤ 4) (hSh : Sh ≤ 4) (h0 : 0 ≤ c) (h1 : c ≤ 1000) : ∃ (w : Nat) (ms : List (List Nat)) (a' b' c' : Int), m__law_measures [.l .ow (D3 a b c), .d (I Sh), .d (I W)] = .ok (.d (me ms), [.l .ow (D3 a' b' c')]) ∧ Me w ms ∧ 0 ≤ c' ∧ c' ≤ c + 1000 := by
  obtain ⟨r1, a1, b1, c1, e1, l1, l2, k0, k1⟩ := v_roll a b c ((W : Int) + 1) (by omega) (by omega) h0 (by omega)
  obtain ⟨n, rfl⟩ := Int.eq_ofNat_of_zero_le l1
  obtain ⟨x, hx, a2, b2, c2, e2, k2, k3⟩ := v_pick a1 b1 c1 [.int 2, .int 3, .int 5] (by simp) (by simp) k0 (by omega)
  obtain ⟨th, hth, hth2⟩ : ∃ th : Nat, x = I th ∧ (th = 2 ∨ th = 3 ∨ th = 5) := by
    simp at hx
    rcases hx with h | h | h
    · exact ⟨2, h, by decide⟩
    · exact ⟨3, h, by decide⟩
    · exact ⟨5, h, by decide⟩
  subst hth
  obtain ⟨r3, a3, b3, c3, e3, l3, l4, k4, k5⟩ := v_roll a2 b2 c2 ((Sh : Int) + 1) (by omega) (by omega) k2 (by omega)
  obtain ⟨k, rfl⟩ := Int.eq_ofNat_of_zero_le l3
  have hn : n ≤ 4 := by omega
  have hk : k ≤ 4 := by omega
  obtain ⟨δ', ef, ms, a4, b4, c4, o3, rfl, hlen, hrow, k6, k7⟩ := forX_rel (enc := fun m : Nat => I m) (fun (i : Nat) δ => ∃ ms a b c' o3, δ = mE a b c' Sh W o3 n th (ms.map ti) none ∧ ms.length = i ∧ (∀ r ∈ ms, r.length = n ∧ ∀ x ∈ r, x ≤ 99) ∧ 0 ≤ c' ∧ c' ≤ c + 10 + 10 * (i : Int)) (fun i _ => i + 1) (List.range k) (b := 0) (δ := mE a2 b2 c2 Sh W none n th [] none) (δ1 := mE a3 b3 c3 Sh W none n th [] none)
    (fi := xRg1 (xaCons (xCallX 2 [0] m__law_roll (xaIo 0 (xaCons (xP (kB addS (kV 1) (kC (.int 1)))) xaNil))) xaNil)) (g := gN 3) (u := mApp)
    (xrg1_ok (roll_in rfl _ (by simp only [ap_kB, kV_s, kV_0d, ap_kC, R.ok_bind, add_int]) e3) (by omega)) ⟨[], a3, b3, c3, none, rfl, rfl, (fun r h => by cases h), k4, by omega⟩
    (fun P i Q δ hl ⟨ms, a, b, c', o3, hδ, hlen, hrow, hc0, hc1⟩ => by
      subst hδ
      have hP : P.length ≤ 4 := by
        have := congrArg List.length hl
        rw [List.length_range, List.length_append] at this
        omega
      rw [count_fold, Nat.zero_add] at hlen hc1
      obtain ⟨r, a5, b5, c5, er, hr1, hr2, q0, q1⟩ := comp_pick hth2 Sh W (some (.d (I i))) n (ms.map ti) (List.range n) a b c' hc0 (by rw [List.length_range]; omega)
      rw [List.length_range] at hr1 q1
      refine ⟨mE a b c' Sh W (some (.d (I i))) n th (ms.map ti) none, mE a5 b5 c5 Sh W (some (.d (I i))) n th ((ms ++ [r]).map ti) none, rfl, ?_, ms ++ [r], a5, b5, c5, some (.d (I i)), rfl, ?_, ?_, q0, ?_⟩
      · have e9 : xOf (on1 tupS) (xaCons (xComp (xI (iRg rg1S (aCons (kV 4) aNil))) (gN 7) xYes (xCallX 2 [0] m__law_pick (xaIo 0 (xaCons (xP slE) xaNil))) [7]) xaNil) (mE a b c' Sh W (some (.d (I i))) n th (ms.map ti) none) = .ok (.d (ti r), mE a5 b5 c5 Sh W (some (.d (I i))) n th (ms.map ti) none) := xof1 (xcomp_ok (rg_ok rfl (by omega)) rfl er (by rw [List.length_map, List.length_range]; omega) rfl) rfl rfl
        unfold mApp sAppX
        show sX _ _ (mE a b c' Sh W (some (.d (I i))) n th (ms.map ti) none) = _
        rw [sX_ok e9]
        show (match decide ((ms.map ti).length ≤ 1000000) with | true => _ | false => _) = _
        rw [decide_eq_true (show (ms.map ti).length ≤ 1000000 by rw [List.length_map]; omega), List.map_append]
        rfl
      · rw [count_fold, List.length_append, hlen, List.length_singleton]; omega
      · intro y hy
        rcases List.mem_append.mp hy with hy | hy
        · exact hrow y hy
        · rw [List.mem_singleton.mp hy]
          exact ⟨hr1, hr2⟩
      · rw [count_fold]
        omega)
  rw [count_fold, Nat.zero_add, List.length_range] at hlen k7
  refine ⟨if ms = [] then 0 else n, ms, a4, b4, c4, ?_, ⟨?_, by omega, fun r hr => ?_, fun z => if_pos z⟩, k6, by omega⟩
  · have hd : d__law_measures [some (.l .ow (D3 a b c)), some (.d (I Sh)), some (.d (I W)), none, none, none, none, none] = .ret (.d (me ms)) (frz 6 (mE a4 b4 c4 Sh W o3 n th (ms.map ti) none)) := by
      unfold d__law_measures
      rw [seq_ok (δ' := mE a2 b2 c2 Sh W none n th [] none)]
      · refine Eq.trans (seq_ok ef) ?_
        refine ret_ok ?_
        have : frz 6 (mE a4 b4 c4 Sh W o3 n th (ms.map ti) none) = [some (.l .ow (D3 a4 b4 c4)), some (.d (I Sh)), some (.d (I W)), o3, some (.d (I n)), some (.d (I th)), some (.d (.list (ms.map ti))), none] := rfl
        rw [this]
        simp
      · unfold sUn3XO
        refine Eq.trans (sX_ok (s := .d (I n)) (δ1 := [some (.l .ow (D3 a1 b1 c1)), some (.d (I Sh)), some (.d (I W)), none, none, none, none, none]) (roll_in rfl _ (by simp only [ap_kB, kV_s, kV_0d, ap_kC, R.ok_bind, add_int]) e1)) ?_
        refine Eq.trans (sX_ok (s := .d (I th)) (δ1 := [some (.l .ow (D3 a2 b2 c2)), some (.d (I Sh)), some (.d (I W)), none, none, none, none, none]) (xcall1 (x := .l .fr [.int 2, .int 3, .int 5]) (z := .d (.list [.int 2, .int 3, .int 5])) rfl rfl (by simp) rfl rfl e2 rfl)) ?_
        rfl
    show finX [0] (d__law_measures [some (.l .ow (D3 a b c)), some (.d (I Sh)), some (.d (I W)), none, none, none, none, none]) = _
    rw [hd]
    rfl
  · split <;> omega
  · rw [if_neg (fun z => by rw [z] at hr; cases hr)]
    exact hrow r hr
end G
end DL

set_option Elab.async false
set_option linter.all false
set_option maxRecDepth 100000
set_option maxHeartbeats 1000000
namespace DL
namespace G
open PySem PySem.Spec L2
/-! ### the law's steps -/
abbrev w2 (δ : Env) (x y : PyData) : Env := ((wipeD δ [19, 20]).set 19 (some (.d x))).set 20 (some (.d y))
theorem w2_ex (δ : Env) (x y : PyData) : Ex [19, 20] δ (w2 δ x y) := ⟨by
    show (((((δ.set 20 none).set 19 none).set 19 _).set 20 _) : Env).length = _
    simp, fun i hi => by
    show ((((δ.set 20 none).set 19 none).set 19 _).set 20 _)[i]? = _
    rw [List.getElem?_set_ne (fun z => hi (by simp [z])), List.getElem?_set_ne (fun z => hi (by simp [z])), List.getElem?_set_ne (fun z => hi (by simp [z])), List.getElem?_set_ne (fun z => hi (by simp [z]))]⟩
theorem w2_19 {δ : Env} (x y : PyData) (h : δ.length = 21) : (w2 δ x y)[19]? = some (some (.d x)) := by
  show ((((δ.set 20 none).set 19 none).set 19 _).set 20 _)[19]? = _
  rw [List.getElem?_set_ne (by decide), List.getElem?_set_self (by simp; omega)]
theorem w2_20 {δ : Env} (x y : PyData) (h : δ.length = 21) : (w2 δ x y)[20]? = some (some (.d y)) := by
  show ((((δ.set 20 none).set 19 none).set 19 _).set 20 _)[20]? = _
  rw [List.getElem?_set_self (by simp; omega)]
theorem w2_g {δ : Env} (p : Nat × Nat) : gT ((gN 19) :: ((gN 20) :: [])) (ep p) (wipeD δ [19, 20]) = .ok (w2 δ (I p.1) (I p.2)) := rfl
/-- what holds of an env within: measures, width, pairs -/
structure Hd3 (w : Nat) (ms : List (List Nat)) (δ : Env) : Prop where
  len : δ.length = 21
  m3 : δ[3]? = some (some (.d (me ms)))
  wd : δ[11]? = some (some (.d (I w)))
  pr : δ[12]? = some (some (.d (.list ((PP w ms).map fun x => ep x.1))))
theorem Hd3.of {w : Nat} {ms : List (List Nat)} {δ δ' : Env} {vs : List Nat} (h : Hd3 w ms δ) (x : Ex vs δ δ') (h3 : 3 ∉ vs := by decide) (h11 : 11 ∉ vs := by decide) (h12 : 12 ∉ vs := by decide) : Hd3 w ms δ' :=
  ⟨x.len.trans h.len, (x.at_ 3 h3).trans h.m3, (x.at_ 11 h11).trans h.wd, (x.at_ 12 h12).trans h.pr⟩
theorem ix2 {w : Nat} {ms : List (List Nat)} {δ : Env} (h : Hd3 w ms δ) {j i : Nat} {r : List Nat} (hj : δ[j]? = some (some (.d (I i)))) (hr : ms[i]? = some r) : kB ixS (kV 3) (kV j) δ = .ok (.d (ti r)) := by
  rw [ap_kB, kV_at h.m3, R.ok_bind, kV_at hj, R.ok_bind, ix_me hr]
theorem alike_ev {w l : Nat} {ms : List (List Nat)} (M : Me w ms) (hl : l < 2 ^ w) {δ : Env} (h : Hd3 w ms δ) {j : Nat} (hj : j ≠ 19 ∧ j ≠ 20) (e8 : δ[j]? = some (some (.d (ti (bt l))))) {x : (Nat × Nat) × Nat} (hx : x ∈ PP w ms) : kTru (kCall 3 m__law_alike (aCons (kB ixS (kV 3) (kV 19)) (aCons (kB ixS (kV 3) (kV 20)) (aCons (kV j) aNil)))) (w2 δ (I x.1.1) (I x.1.2)) = .ok (l &&& x.2 == l) := by
  obtain ⟨r, s, h1, h2, h3⟩ := PP_at hx
  have hh := h.of (w2_ex δ (I x.1.1) (I x.1.2))
  have z1 := ix2 hh (w2_19 (I x.1.1) (I x.1.2) h.len) h1
  have z2 := ix2 hh (w2_20 (I x.1.1) (I x.1.2) h.len) h2
  have z3 := v_lalike M.hw hl (M.row r (List.mem_of_getElem? h1)).1 (M.row s (List.mem_of_getElem? h2)).1
  have ej := ((w2_ex δ (I x.1.1) (I x.1.2)).at_ j (by simp [hj.1, hj.2])).trans e8
  rw [ap_kTru, ap_kCall, ap_aCons, z1, ap_aCons, z2, ap_aCons, kV_at ej]
  simp only [R.ok_bind, ap_aNil, args_cons, args_nil, arg_d, List.length_cons, List.length_nil, decide_true, chk_true, z3, tru_bool, h3]
abbrev cellE : Env → R S := kB eqS (kB ixS (kB ixS (kV 3) (kV 19)) (kV 18)) (kB ixS (kB ixS (kV 3) (kV 20)) (kV 18))
theorem cell_ev {w : Nat} {ms : List (List Nat)} {δ : Env} (h : Hd3 w ms δ) {i j k : Nat} {r s : List Nat} (h19 : δ[19]? = some (some (.d (I i)))) (h20 : δ[20]? = some (some (.d (I j)))) (h18 : δ[18]? = some (some (.d (I k)))) (hr : ms[i]? = some r) (hs : ms[j]? = some s) (kr : k < r.length) (ks : k < s.length) : cellE δ = .ok (.d (.bool (r.getD k 0 == s.getD k 0))) := by
  unfold cellE
  rw [ap_kB, ap_kB, ix2 h h19 hr, R.ok_bind, kV_at h18, R.ok_bind, ix_ti kr, R.ok_bind, ap_kB, ix2 h h20 hs, R.ok_bind, kV_at h18, R.ok_bind, ix_ti ks, R.ok_bind, eq_int, beq_nat]
theorem mkN_self {n c : Nat} (h : c < 2 ^ n) : mkN c.testBit n = c := by
  apply Nat.eq_of_testBit_eq
  intro i
  rw [mkN_bit]
  by_cases hi : i < n
  · rw [decide_eq_true hi, Bool.true_and]
  · rw [decide_eq_false hi, Bool.false_and]
    cases e : c.testBit i
    · rfl
    · exact (hi (lt_bit h e)).elim
abbrev E5 : Env → R S := kCB (on1 tupS) (aCons (kComp (iVal false (kV 12)) (gT ((gN 19) :: ((gN 20) :: []))) tTrue (kCB (on1 tupS) (aCons (kComp (iRg rg1S (aCons (kV 11) aNil)) (gN 18) (kBl cellE) (kV 18) [18]) aNil)) [19, 20]) aNil)
theorem p5k {w : Nat} {ms : List (List Nat)} (M : Me w ms) {δ : Env} (h : Hd3 w ms δ) : E5 δ = .ok (.d (rw_ (pm w ms))) := by
  have hw := M.hw
  have hc : kComp (iVal false (kV 12)) (gT ((gN 19) :: ((gN 20) :: []))) tTrue (kCB (on1 tupS) (aCons (kComp (iRg rg1S (aCons (kV 11) aNil)) (gN 18) (kBl cellE) (kV 18) [18]) aNil)) [19, 20] δ = .ok (.l .fr ((PP w ms).map fun x => ti (bt x.2))) := by
    refine comp_map (enc := fun x : (Nat × Nat) × Nat => ep x.1) _ (PP w ms) (by rw [ap_iVal, kV_at h.pr]; rfl) (Nat.le_trans (PP_len M) (by decide)) fun x hx => ?_
    obtain ⟨r, s, h1, h2, h3⟩ := PP_at hx
    have hr := (M.row r (List.mem_of_getElem? h1)).1
    have hs := (M.row s (List.mem_of_getElem? h2)).1
    unfold turn
    rw [w2_g, R.ok_bind, ap_tTrue, R.ok_bind, if_pos rfl]
    have hh := h.of (w2_ex δ (I x.1.1) (I x.1.2))
    have e19 := w2_19 (δ := δ) (I x.1.1) (I x.1.2) h.len
    have e20 := w2_20 (δ := δ) (I x.1.1) (I x.1.2) h.len
    generalize w2 δ (I x.1.1) (I x.1.2) = δ2 at *
    have hf := filter_range (n := w) (by omega) (fun i => r.getD i 0 == s.getD i 0)
    have hin : kComp (iRg rg1S (aCons (kV 11) aNil)) (gN 18) (kBl cellE) (kV 18) [18] δ2 = .ok (.l .fr ((bt x.2).map I)) := by
      rw [h3]
      unfold am
      rw [← hf]
      refine comp_filter (enc := fun i : Nat => I i) (fun i => r.getD i 0 == s.getD i 0) _ (List.range w) (rg_ok (by rw [ap_aCons, kV_at hh.wd]; rfl) (by omega)) (by rw [List.length_range]; omega) fun i hi => ?_
      have hi := List.mem_range.mp hi
      have xw : Ex [18] δ2 ((wipeD δ2 [18]).set 18 (some (.d (I i)))) := ⟨w_len, fun j hj => w_ne (fun z => hj (by simp [z]))⟩
      have e18 : ((wipeD δ2 [18]).set 18 (some (.d (I i))))[18]? = some (some (.d (I i))) := set_at (by show 18 < (δ2.set 18 none).length; rw [List.length_set, hh.len]; decide)
      unfold turn
      rw [ap_gN, R.ok_bind, ap_kBl, cell_ev (hh.of xw) ((xw.at_ 19 (by decide)).trans e19) ((xw.at_ 20 (by decide)).trans e20) e18 h1 h2 (by omega) (by omega), R.ok_bind, S.b_bool, R.ok_bind, kV_at e18]
      cases r.getD i 0 == s.getD i 0 <;> rfl
    rw [ap_kCB, ap_aCons, hin]
    simp only [R.ok_bind, ap_aNil, on1_1, tup_l, S.pd_d]
  unfold E5
  rw [ap_kCB, ap_aCons, hc]
  simp only [R.ok_bind, ap_aNil, on1_1, tup_l]
  rw [← PP_mask, rw_, List.map_map]
  rfl
abbrev E13k : Env → R S := kComp (iRg rg1S (aCons (kV 11) aNil)) (gN 18) (kTru (kCB (on1 allS) (aCons (kComp (iVal false (kV 12)) (gT ((gN 19) :: ((gN 20) :: []))) (kTru (kCall 3 m__law_alike (aCons (kB ixS (kV 3) (kV 19)) (aCons (kB ixS (kV 3) (kV 20)) (aCons (kV 8) aNil))))) cellE [19, 20]) aNil))) (kV 18) [18]
theorem p13k {w l : Nat} {ms : List (List Nat)} (M : Me w ms) (hl : l < 2 ^ w) {δ : Env} (h : Hd3 w ms δ) (h8 : δ[8]? = some (some (.d (ti (bt l))))) : E13k δ = .ok (.l .fr ((bt (clo (pm w ms) w l)).map I)) := by
  have hw := M.hw
  have hlt := (clo_cl (pm w ms) w).lt l hl
  have hf := filter_range (n := w) (by omega) (clo (pm w ms) w l).testBit
  rw [mkN_self hlt] at hf
  rw [← hf]
  refine comp_filter (enc := fun i : Nat => I i) (clo (pm w ms) w l).testBit _ (List.range w) (rg_ok (by rw [ap_aCons, kV_at h.wd]; rfl) (by omega)) (by rw [List.length_range]; omega) fun i hi => ?_
  have hi := List.mem_range.mp hi
  have xw : Ex [18] δ ((wipeD δ [18]).set 18 (some (.d (I i)))) := ⟨w_len, fun j hj => w_ne (fun z => hj (by simp [z]))⟩
  have e18 : ((wipeD δ [18]).set 18 (some (.d (I i))))[18]? = some (some (.d (I i))) := set_at (by show 18 < (δ.set 18 none).length; rw [List.length_set, h.len]; decide)
  have hh := h.of xw
  have e8 := (xw.at_ 8 (by decide)).trans h8
  unfold turn
  rw [ap_gN, R.ok_bind]
  generalize (wipeD δ [18]).set 18 (some (.d (I i))) = δ2 at *
  have hc : kComp (iVal false (kV 12)) (gT ((gN 19) :: ((gN 20) :: []))) (kTru (kCall 3 m__law_alike (aCons (kB ixS (kV 3) (kV 19)) (aCons (kB ixS (kV 3) (kV 20)) (aCons (kV 8) aNil))))) cellE [19, 20] δ2 = .ok (.l .fr (((PP w ms).filter fun x => l &&& x.2 == l).map fun x => .bool (x.2.testBit i))) := by
    refine comp_filter (enc := fun x : (Nat × Nat) × Nat => ep x.1) (fun x => l &&& x.2 == l) _ (PP w ms) (by rw [ap_iVal, kV_at hh.pr]; rfl) (Nat.le_trans (PP_len M) (by decide)) fun x hx => ?_
    obtain ⟨r, s, h1, h2, h3⟩ := PP_at hx
    have hr := (M.row r (List.mem_of_getElem? h1)).1
    have hs := (M.row s (List.mem_of_getElem? h2)).1
    unfold turn
    rw [w2_g, R.ok_bind, alike_ev M hl hh (by decide) e8 hx, R.ok_bind]
    have x2 := w2_ex δ2 (I x.1.1) (I x.1.2)
    have ec := cell_ev (hh.of x2) (w2_19 (I x.1.1) (I x.1.2) hh.len) (w2_20 (I x.1.1) (I x.1.2) hh.len) ((x2.at_ 18 (by decide)).trans e18) h1 h2 (by omega) (by omega)
    rw [ec]
    have hb : x.2.testBit i = (r.getD i 0 == s.getD i 0) := by
      rw [h3]
      unfold am
      rw [mkN_bit, decide_eq_true hi, Bool.true_and]
    rw [hb]
    cases l &&& x.2 == l <;> rfl
  have hall : (((PP w ms).filter fun x => l &&& x.2 == l).all fun x => x.2.testBit i) = (clo (pm w ms) w l).testBit i := by
    cases e : (clo (pm w ms) w l).testBit i
    · cases e2 : (((PP w ms).filter fun x => l &&& x.2 == l).all fun x => x.2.testBit i)
      · rfl
      · have := (clo_bit (rs := pm w ms) hl i).mpr ⟨hi, fun r hr hs => by
          rw [← PP_mask] at hr
          obtain ⟨x, hx, rfl⟩ := List.mem_map.mp hr
          exact List.all_eq_true.mp e2 x (List.mem_filter.mpr ⟨hx, beq_iff_eq.mpr hs⟩)⟩
        rw [e] at this; cases this
    · refine List.all_eq_true.mpr fun x hx => ?_
      obtain ⟨q1, q2⟩ := List.mem_filter.mp hx
      exact ((clo_bit hl i).mp e).2 x.2 (by rw [← PP_mask]; exact List.mem_map.mpr ⟨x, q1, rfl⟩) (beq_iff_eq.mp q2)
  have et : kTru (kCB (on1 allS) (aCons (kComp (iVal false (kV 12)) (gT ((gN 19) :: ((gN 20) :: []))) (kTru (kCall 3 m__law_alike (aCons (kB ixS (kV 3) (kV 19)) (aCons (kB ixS (kV 3) (kV 20)) (aCons (kV 8) aNil))))) cellE [19, 20]) aNil)) δ2 = .ok ((clo (pm w ms) w l).testBit i) := by
    rw [ap_kTru, ap_kCB, ap_aCons, hc]
    simp only [R.ok_bind, ap_aNil, on1_1, all_l, bls_map, all_map, hall, tru_bool]
  rw [et, R.ok_bind, kV_at e18]
  cases (clo (pm w ms) w l).testBit i <;> rfl
def badP (w l q : Nat) (ms : List (List Nat)) : List ((Nat × Nat) × Nat) := (PP w ms).filter fun x => badm l q x.2
abbrev E16k : Env → R S := kComp (iVal false (kV 12)) (gT ((gN 19) :: ((gN 20) :: []))) (tAndK (kTru (kCall 3 m__law_alike (aCons (kB ixS (kV 3) (kV 19)) (aCons (kB ixS (kV 3) (kV 20)) (aCons (kV 8) aNil))))) (tNotK (kTru (kCall 3 m__law_alike (aCons (kB ixS (kV 3) (kV 19)) (aCons (kB ixS (kV 3) (kV 20)) (aCons (kV 15) aNil))))))) (kTup (aCons (kV 19) (aCons (kV 20) aNil))) [19, 20]
theorem p16k {w l q : Nat} {ms : List (List Nat)} (M : Me w ms) (hl : l < 2 ^ w) (hq : q < 2 ^ w) {δ : Env} (h : Hd3 w ms δ) (h8 : δ[8]? = some (some (.d (ti (bt l))))) (h15 : δ[15]? = some (some (.d (ti (bt q))))) : E16k δ = .ok (.l .fr ((badP w l q ms).map fun x => ep x.1)) := by
  refine comp_filter (enc := fun x : (Nat × Nat) × Nat => ep x.1) (fun x => badm l q x.2) _ (PP w ms) (by rw [ap_iVal, kV_at h.pr]; rfl) (Nat.le_trans (PP_len M) (by decide)) fun x hx => ?_
  have z1 := alike_ev M hl h (by decide) h8 hx
  have z2 := alike_ev M hq h (by decide) h15 hx
  have z3 := t_and z1 (show tNotK (kTru (kCall 3 m__law_alike (aCons (kB ixS (kV 3) (kV 19)) (aCons (kB ixS (kV 3) (kV 20)) (aCons (kV 15) aNil))))) (w2 δ (I x.1.1) (I x.1.2)) = .ok (!(q &&& x.2 == q)) by rw [ap_tNot, z2]; rfl)
  unfold turn
  rw [w2_g, R.ok_bind, z3, R.ok_bind, ap_kTup, ap_aCons, ap_aCons, kV_at (w2_19 (I x.1.1) (I x.1.2) h.len), kV_at (w2_20 (I x.1.1) (I x.1.2) h.len)]
  show (if badm l q x.2 = true then _ else _) = _
  cases badm l q x.2 <;> rfl
theorem bad_none {w l q : Nat} {ms : List (List Nat)} : ((badP w l q ms).length == 0) = keeps (pm w ms) l q := by
  unfold keeps badP
  rw [← PP_mask, List.all_map]
  cases e : (PP w ms).all ((fun a => !(l &&& a == l) || (q &&& a == q)) ∘ fun x => x.2)
  · refine beq_eq_false_iff_ne.mpr fun z => ?_
    have hn := List.length_eq_zero_iff.mp z
    have : (PP w ms).all ((fun a => !(l &&& a == l) || (q &&& a == q)) ∘ fun x => x.2) = true := List.all_eq_true.mpr fun x hx => by
      have := List.filter_eq_nil_iff.mp hn x hx
      show (!(l &&& x.2 == l) || (q &&& x.2 == q)) = true
      cases h1 : l &&& x.2 == l
      · rfl
      · cases h2 : q &&& x.2 == q
        · simp [h1, h2] at this
        · rfl
    rw [e] at this; cases this
  · refine beq_iff_eq.mpr (List.length_eq_zero_iff.mpr (List.filter_eq_nil_iff.mpr fun x hx z => ?_))
    have := List.all_eq_true.mp e x hx
    have this : (!(l &&& x.2 == l) || (q &&& x.2 == q)) = true := this
    have z : ((l &&& x.2 == l) && !(q &&& x.2 == q)) = true := z
    cases h1 : l &&& x.2 == l
    · rw [h1] at z; cases z
    · cases h2 : q &&& x.2 == q
      · rw [h1, h2] at this; cases this
      · rw [h1, h2] at z; cases z
theorem find_head {α β : Type} (p : α → Bool) (f : α → β) : ∀ l : List α, l.findSome? (fun x => if p x then some (f x) else none) = ((l.filter p).head?).map f
  | [] => rfl
  | a :: l => by
    rw [List.findSome?_cons, List.filter_cons]
    cases p a
    · simp only [Bool.false_eq_true, if_false]
      exact find_head p f l
    · rfl
end G
end DL

set_option Elab.async false
set_option linter.all false
set_option maxRecDepth 100000
set_option maxHeartbeats 1000000
namespace DL
namespace G
open PySem PySem.Spec L2
abbrev U14 : Env → SR := (sSeq (sAsgX 15 (xCallX 2 [0] m__law_pick (xaIo 2 (xaCons (xP (kV 4)) xaNil)))) (sSeq (sAsg 16 (kComp (iVal false (kV 12)) (gT ((gN 19) :: ((gN 20) :: []))) (tAndK (kTru (kCall 3 m__law_alike (aCons (kB ixS (kV 3) (kV 19)) (aCons (kB ixS (kV 3) (kV 20)) (aCons (kV 8) aNil))))) (tNotK (kTru (kCall 3 m__law_alike (aCons (kB ixS (kV 3) (kV 19)) (aCons (kB ixS (kV 3) (kV 20)) (aCons (kV 15) aNil))))))) (kTup (aCons (kV 19) (aCons (kV 20) aNil))) [19, 20])) (sSeq (sIf (tOrK (kBl (kB neS (kCallK 3 3 m_depends [2, 1, 0] (aCons (kV 15) (aCons (kV 8) (aCons (kV 3) aNil)))) (kB eqS (kCB (on1 lenS) (aCons (kV 16) aNil)) (kC (.int 0))))) (kBl (kB neS (kCall 2 m_holds (aCons (kV 6) (aCons (kTup (aCons (kV 8) (aCons (kV 15) aNil))) aNil))) (kB eqS (kCB (on1 lenS) (aCons (kV 16) aNil)) (kC (.int 0)))))) (sRet (kC (.bool false))) sNext) (sIf (kBl (kB neS (kCallK 3 3 m_pair_against [2, 1, 0] (aCons (kV 15) (aCons (kV 8) (aCons (kV 3) aNil)))) (kIf (kBl (kB gtS (kCB (on1 lenS) (aCons (kV 16) aNil)) (kC (.int 0)))) (kB ixS (kV 16) (kC (.int 0))) (kC .none)))) (sRet (kC (.bool false))) sNext))))
abbrev Q14 : Env → SR := sFor (iRg rg1S (aCons (kC (.int 2)) aNil)) (gN 14) U14
abbrev U9 : Env → SR := (sSeq (sAsg 13 (kComp (iRg rg1S (aCons (kV 11) aNil)) (gN 18) (kTru (kCB (on1 allS) (aCons (kComp (iVal false (kV 12)) (gT ((gN 19) :: ((gN 20) :: []))) (kTru (kCall 3 m__law_alike (aCons (kB ixS (kV 3) (kV 19)) (aCons (kB ixS (kV 3) (kV 20)) (aCons (kV 8) aNil))))) (kB eqS (kB ixS (kB ixS (kV 3) (kV 19)) (kV 18)) (kB ixS (kB ixS (kV 3) (kV 20)) (kV 18))) [19, 20]) aNil))) (kV 18) [18])) (sSeq (sIf (tOrK (kBl (kB neS (kCallK 2 2 m_told_by_measures [1, 0] (aCons (kV 8) (aCons (kV 3) aNil))) (kCB (on1 tupS) (aCons (kV 13) aNil)))) (tOrK (kBl (kB neS (kCall 2 m_closed (aCons (kV 6) (aCons (kV 8) aNil))) (kCB (on1 tupS) (aCons (kV 13) aNil)))) (kBl (kB neS (kCall 3 m_closed_by (aCons (kV 11) (aCons (kV 7) (aCons (kV 8) aNil)))) (kCB (on1 tupS) (aCons (kV 13) aNil)))))) (sRet (kC (.bool false))) sNext) (sFor (iRg rg1S (aCons (kC (.int 2)) aNil)) (gN 14) (sSeq (sAsgX 15 (xCallX 2 [0] m__law_pick (xaIo 2 (xaCons (xP (kV 4)) xaNil)))) (sSeq (sAsg 16 (kComp (iVal false (kV 12)) (gT ((gN 19) :: ((gN 20) :: []))) (tAndK (kTru (kCall 3 m__law_alike (aCons (kB ixS (kV 3) (kV 19)) (aCons (kB ixS (kV 3) (kV 20)) (aCons (kV 8) aNil))))) (tNotK (kTru (kCall 3 m__law_alike (aCons (kB ixS (kV 3) (kV 19)) (aCons (kB ixS (kV 3) (kV 20)) (aCons (kV 15) aNil))))))) (kTup (aCons (kV 19) (aCons (kV 20) aNil))) [19, 20])) (sSeq (sIf (tOrK (kBl (kB neS (kCallK 3 3 m_depends [2, 1, 0] (aCons (kV 15) (aCons (kV 8) (aCons (kV 3) aNil)))) (kB eqS (kCB (on1 lenS) (aCons (kV 16) aNil)) (kC (.int 0))))) (kBl (kB neS (kCall 2 m_holds (aCons (kV 6) (aCons (kTup (aCons (kV 8) (aCons (kV 15) aNil))) aNil))) (kB eqS (kCB (on1 lenS) (aCons (kV 16) aNil)) (kC (.int 0)))))) (sRet (kC (.bool false))) sNext) (sIf (kBl (kB neS (kCallK 3 3 m_pair_against [2, 1, 0] (aCons (kV 15) (aCons (kV 8) (aCons (kV 3) aNil)))) (kIf (kBl (kB gtS (kCB (on1 lenS) (aCons (kV 16) aNil)) (kC (.int 0)))) (kB ixS (kV 16) (kC (.int 0))) (kC .none)))) (sRet (kC (.bool false))) sNext)))))))
abbrev Q9 : Env → SR := sFor (iVal true (kV 4)) (gN 8) U9
abbrev lawB : Env → SR := (sSeq (sAsgO 2 (kCall 2 m__law_dice (aCons (kV 0) (aCons (kV 1) aNil)))) (sSeq (sAsgX 3 (xCallX 3 [0] m__law_measures (xaIo 2 (xaCons (xP (kC (.int 4))) (xaCons (xP (kC (.int 4))) xaNil))))) (sSeq (sUn2 11 12 (aCons (kIf (kBl (kB gtS (kCB (on1 lenS) (aCons (kV 3) aNil)) (kC (.int 0)))) (kCB (on1 lenS) (aCons (kB ixS (kV 3) (kC (.int 0))) aNil)) (kC (.int 0))) (aCons (kCall 1 m__law_pairs (aCons (kV 3) aNil)) aNil))) (sSeq (sAsg 4 (kCall 1 m__law_sets (aCons (kV 11) aNil))) (sSeq (sAsg 5 (kCB (on1 tupS) (aCons (kComp (iVal false (kV 12)) (gT ((gN 19) :: ((gN 20) :: []))) tTrue (kCB (on1 tupS) (aCons (kComp (iRg rg1S (aCons (kV 11) aNil)) (gN 18) (kBl (kB eqS (kB ixS (kB ixS (kV 3) (kV 19)) (kV 18)) (kB ixS (kB ixS (kV 3) (kV 20)) (kV 18)))) (kV 18) [18]) aNil)) [19, 20]) aNil))) (sSeq (sAsg 6 (kTup (aCons (kV 11) (aCons (kV 5) aNil)))) (sSeq (sIf (kBl (kB neS (kCallK 1 1 m_pair_table [0] (aCons (kV 3) aNil)) (kV 6))) (sRet (kC (.bool false))) sNext) (sSeq (sAsg 7 (kCall 1 m_base (aCons (kV 6) aNil))) (sSeq (sFor (iVal true (kV 4)) (gN 8) (sSeq (sAsg 13 (kComp (iRg rg1S (aCons (kV 11) aNil)) (gN 18) (kTru (kCB (on1 allS) (aCons (kComp (iVal false (kV 12)) (gT ((gN 19) :: ((gN 20) :: []))) (kTru (kCall 3 m__law_alike (aCons (kB ixS (kV 3) (kV 19)) (aCons (kB ixS (kV 3) (kV 20)) (aCons (kV 8) aNil))))) (kB eqS (kB ixS (kB ixS (kV 3) (kV 19)) (kV 18)) (kB ixS (kB ixS (kV 3) (kV 20)) (kV 18))) [19, 20]) aNil))) (kV 18) [18])) (sSeq (sIf (tOrK (kBl (kB neS (kCallK 2 2 m_told_by_measures [1, 0] (aCons (kV 8) (aCons (kV 3) aNil))) (kCB (on1 tupS) (aCons (kV 13) aNil)))) (tOrK (kBl (kB neS (kCall 2 m_closed (aCons (kV 6) (aCons (kV 8) aNil))) (kCB (on1 tupS) (aCons (kV 13) aNil)))) (kBl (kB neS (kCall 3 m_closed_by (aCons (kV 11) (aCons (kV 7) (aCons (kV 8) aNil)))) (kCB (on1 tupS) (aCons (kV 13) aNil)))))) (sRet (kC (.bool false))) sNext) (sFor (iRg rg1S (aCons (kC (.int 2)) aNil)) (gN 14) (sSeq (sAsgX 15 (xCallX 2 [0] m__law_pick (xaIo 2 (xaCons (xP (kV 4)) xaNil)))) (sSeq (sAsg 16 (kComp (iVal false (kV 12)) (gT ((gN 19) :: ((gN 20) :: []))) (tAndK (kTru (kCall 3 m__law_alike (aCons (kB ixS (kV 3) (kV 19)) (aCons (kB ixS (kV 3) (kV 20)) (aCons (kV 8) aNil))))) (tNotK (kTru (kCall 3 m__law_alike (aCons (kB ixS (kV 3) (kV 19)) (aCons (kB ixS (kV 3) (kV 20)) (aCons (kV 15) aNil))))))) (kTup (aCons (kV 19) (aCons (kV 20) aNil))) [19, 20])) (sSeq (sIf (tOrK (kBl (kB neS (kCallK 3 3 m_depends [2, 1, 0] (aCons (kV 15) (aCons (kV 8) (aCons (kV 3) aNil)))) (kB eqS (kCB (on1 lenS) (aCons (kV 16) aNil)) (kC (.int 0))))) (kBl (kB neS (kCall 2 m_holds (aCons (kV 6) (aCons (kTup (aCons (kV 8) (aCons (kV 15) aNil))) aNil))) (kB eqS (kCB (on1 lenS) (aCons (kV 16) aNil)) (kC (.int 0)))))) (sRet (kC (.bool false))) sNext) (sIf (kBl (kB neS (kCallK 3 3 m_pair_against [2, 1, 0] (aCons (kV 15) (aCons (kV 8) (aCons (kV 3) aNil)))) (kIf (kBl (kB gtS (kCB (on1 lenS) (aCons (kV 16) aNil)) (kC (.int 0)))) (kB ixS (kV 16) (kC (.int 0))) (kC .none)))) (sRet (kC (.bool false))) sNext)))))))) (sSeq (sAsg 9 (kComp (iVal false (kV 4)) (gN 17) (kBl (kB eqS (kCB (on1 lenS) (aCons (kCall 2 m_closed (aCons (kV 6) (aCons (kV 17) aNil))) aNil)) (kV 11))) (kV 17) [17])) (sSeq (sAsg 10 (kComp (iVal false (kV 9)) (gN 17) (tNotK (kTru (kCB (on1 anyS) (aCons (kComp (iVal false (kV 9)) (gN 20) tTrue (kAnd (kB neS (kV 20) (kV 17)) (kCall 2 m__law_has (aCons (kV 17) (aCons (kV 20) aNil)))) [20]) aNil)))) (kV 17) [17])) (sIf (kBl (kB neS (kCallK 1 1 m_names_of [0] (aCons (kV 3) aNil)) (kCB (on1 tupS) (aCons (kV 10) aNil)))) (sRet (kC (.bool false))) sNext))))))))))))
theorem perm2 (s t : S) : perm [1, 0] [s, t] = [t, s] := rfl
theorem perm3 (s t u : S) : perm [2, 1, 0] [s, t, u] = [u, t, s] := rfl
theorem ne_b (a b : Bool) : neS (.d (.bool a)) (.d (.bool b)) = .ok (.d (.bool (a != b))) := by
  cases a <;> cases b <;> rfl
/-- the table's rows, the sets -/
structure Hd9 (w : Nat) (ms : List (List Nat)) (δ : Env) : Prop where
  h3 : Hd3 w ms δ
  st : δ[4]? = some (some (.d (.list (tis (allM w)))))
  tb : δ[6]? = some (some (.d (tb w (pm w ms))))
  ru : δ[7]? = some (some (.d (.tuple ((bm (clo (pm w ms) w) (allM w)).map er))))
theorem Hd9.of {w : Nat} {ms : List (List Nat)} {δ δ' : Env} {vs : List Nat} (h : Hd9 w ms δ) (x : Ex vs δ δ') (h3 : 3 ∉ vs := by decide) (h11 : 11 ∉ vs := by decide) (h12 : 12 ∉ vs := by decide) (h4 : 4 ∉ vs := by decide) (h6 : 6 ∉ vs := by decide) (h7 : 7 ∉ vs := by decide) : Hd9 w ms δ' :=
  ⟨h.h3.of x h3 h11 h12, (x.at_ 4 h4).trans h.st, (x.at_ 6 h6).trans h.tb, (x.at_ 7 h7).trans h.ru⟩
theorem Ex.more {us vs : List Nat} {δ δ' : Env} (x : Ex us δ δ') (h : ∀ i ∈ us, i ∈ vs) : Ex vs δ δ' := ⟨x.len, fun i hi => x.at_ i fun z => hi (h i z)⟩
theorem p14 {w l : Nat} {ms : List (List Nat)} (M : Me w ms) (hl : l < 2 ^ w) {δ : Env} (h : Hd9 w ms δ) (h8 : δ[8]? = some (some (.d (ti (bt l))))) {a b c : Int} (h2 : δ[2]? = some (some (.l .ow (D3 a b c)))) (hc0 : 0 ≤ c) (hc : c < 900000) : ∃ δ' a' b' c', Q14 δ = .next δ' ∧ Ex [2, 14, 15, 16] δ δ' ∧ δ'[2]? = some (some (.l .ow (D3 a' b' c'))) ∧ 0 ≤ c' ∧ c' ≤ c + 2 := by
  have hw := M.hw
  have h16 : 2 ^ w ≤ 2 ^ 4 := Nat.pow_le_pow_right (by decide) hw
  obtain ⟨a1, a2, a3⟩ := allM_ok (n := w) (by omega)
  have alen := allM_len (n := w) (by omega)
  have G := pm_good M
  obtain ⟨δ', e, x, a', b', c', e2, k0, k1⟩ := for_relP (enc := fun i : Nat => I i) (fun (i : Nat) δ' => Ex [2, 14, 15, 16] δ δ' ∧ ∃ a b c', δ'[2]? = some (some (.l .ow (D3 a b c'))) ∧ 0 ≤ c' ∧ c' ≤ c + (i : Int)) (fun i _ => i + 1) (List.range 2) (b := 0) (δ := δ) (fi := iRg rg1S (aCons (kC (.int 2)) aNil)) (g := gN 14) (u := U14)
    (rg_ok (k := 2) rfl (by decide)) ⟨Ex.refl _ _, a, b, c, h2, hc0, by omega⟩ (fun Pq i Q δ1 hq ⟨x, a, b, c', e2, k0, k1⟩ => by
      have hP : Pq.length ≤ 2 := by
        have := congrArg List.length hq
        rw [List.length_range, List.length_append] at this
        omega
      rw [count_fold, Nat.zero_add] at k1
      have l1 : δ1.length = 21 := x.len.trans h.h3.len
      have x1 : Ex [2, 14, 15, 16] δ (δ1.set 14 (some (.d (I i)))) := (x.trans (Ex.set δ1 14 _)).more (by decide)
      have f2 : (δ1.set 14 (some (.d (I i))))[2]? = some (some (.l .ow (D3 a b c'))) := by rw [List.getElem?_set_ne (by decide)]; exact e2
      have eg : gN 14 (I i) δ1 = .ok (δ1.set 14 (some (.d (I i)))) := rfl
      generalize δ1.set 14 (some (.d (I i))) = δ2 at *
      have hh := h.of x1
      -- right
      obtain ⟨z, hz, a5, b5, c5, ep5, q0, q1⟩ := v_pick a b c' (tis (allM w)) (fun z => by
        have := a2 0 (Nat.two_pow_pos w)
        rw [List.map_eq_nil_iff] at z
        rw [z] at this
        cases this) (by rw [List.length_map]; omega) k0 (by omega)
      obtain ⟨q, hqm, rfl⟩ := List.mem_map.mp hz
      have hq2 := a1 q hqm
      have e3 : sAsgX 15 (xCallX 2 [0] m__law_pick (xaIo 2 (xaCons (xP (kV 4)) xaNil))) δ2 = .next ((δ2.set 2 (some (.l .ow (D3 a5 b5 c5)))).set 15 (some (.d (ti (bt q))))) := asgX_ok (xcall1 f2 rfl (kV_at hh.st) rfl rfl ep5 rfl)
      have x2 : Ex [2, 14, 15, 16] δ ((δ2.set 2 (some (.l .ow (D3 a5 b5 c5)))).set 15 (some (.d (ti (bt q))))) := ((x1.trans (Ex.set δ2 2 _)).trans (Ex.set _ 15 _)).more (by decide)
      have f15 : ((δ2.set 2 (some (.l .ow (D3 a5 b5 c5)))).set 15 (some (.d (ti (bt q)))))[15]? = some (some (.d (ti (bt q)))) := set_at (by rw [List.length_set, x1.len, h.h3.len]; decide)
      have f2 : ((δ2.set 2 (some (.l .ow (D3 a5 b5 c5)))).set 15 (some (.d (ti (bt q)))))[2]? = some (some (.l .ow (D3 a5 b5 c5))) := by
        rw [List.getElem?_set_ne (by decide), set_at (by rw [x1.len, h.h3.len]; decide)]
      generalize (δ2.set 2 (some (.l .ow (D3 a5 b5 c5)))).set 15 (some (.d (ti (bt q)))) = δ3 at *
      -- bad
      have e4 : sAsg 16 E16k δ3 = .next (δ3.set 16 (some (.d (.list ((badP w l q ms).map fun x => ep x.1))))) := asgl_ok (p16k M hl hq2 (h.of x2).h3 ((x2.at_ 8 (by decide)).trans h8) f15)
      have x3 : Ex [2, 14, 15, 16] δ (δ3.set 16 (some (.d (.list ((badP w l q ms).map fun x => ep x.1))))) := (x2.trans (Ex.set δ3 16 _)).more (by decide)
      have f16 : (δ3.set 16 (some (.d (.list ((badP w l q ms).map fun x => ep x.1)))))[16]? = some (some (.d (.list ((badP w l q ms).map fun x => ep x.1)))) := set_at (by rw [x2.len, h.h3.len]; decide)
      have f15 : (δ3.set 16 (some (.d (.list ((badP w l q ms).map fun x => ep x.1)))))[15]? = some (some (.d (ti (bt q)))) := by rw [List.getElem?_set_ne (by decide)]; exact f15
      have f2 : (δ3.set 16 (some (.d (.list ((badP w l q ms).map fun x => ep x.1)))))[2]? = some (some (.l .ow (D3 a5 b5 c5))) := by rw [List.getElem?_set_ne (by decide)]; exact f2
      generalize δ3.set 16 (some (.d (.list ((badP w l q ms).map fun x => ep x.1)))) = δ4 at *
      have hh := h.of x3
      have f8 := (x3.at_ 8 (by decide)).trans h8
      have z1 := v_depends M hl hq2
      have z2 := v_holds G (p := (l, q)) ⟨hl, hq2⟩
      have z3 := v_pagainst M hl hq2
      have eb : kB eqS (kCB (on1 lenS) (aCons (kV 16) aNil)) (kC (.int 0)) δ4 = .ok (.d (.bool (keeps (pm w ms) l q))) := by
        rw [ap_kB, ap_kCB, ap_aCons, kV_at f16]
        simp only [R.ok_bind, ap_aNil, on1_1, len_lst, List.length_map, ap_kC]
        have : eqS (.d (I (badP w l q ms).length)) (.d (.int 0)) = .ok (.d (.bool ((((badP w l q ms).length : Nat) : Int) == ((0 : Nat) : Int)))) := eq_int _ _
        rw [this, beq_nat, bad_none]
      have e5 : sIf (tOrK (kBl (kB neS (kCallK 3 3 m_depends [2, 1, 0] (aCons (kV 15) (aCons (kV 8) (aCons (kV 3) aNil)))) (kB eqS (kCB (on1 lenS) (aCons (kV 16) aNil)) (kC (.int 0))))) (kBl (kB neS (kCall 2 m_holds (aCons (kV 6) (aCons (kTup (aCons (kV 8) (aCons (kV 15) aNil))) aNil))) (kB eqS (kCB (on1 lenS) (aCons (kV 16) aNil)) (kC (.int 0)))))) (sRet (kC (.bool false))) sNext δ4 = .next δ4 := by
        have t1 : kBl (kB neS (kCallK 3 3 m_depends [2, 1, 0] (aCons (kV 15) (aCons (kV 8) (aCons (kV 3) aNil)))) (kB eqS (kCB (on1 lenS) (aCons (kV 16) aNil)) (kC (.int 0)))) δ4 = .ok false := by
          rw [ap_kBl, ap_kB, eb, ap_kCallK, ap_aCons, ap_aCons, ap_aCons, kV_at f15, kV_at f8, kV_at hh.h3.m3]
          simp only [R.ok_bind, ap_aNil, perm3, args_cons, args_nil, arg_d, List.length_cons, List.length_nil, decide_true, chk_true, z1, ne_b, bne_self_eq_false, S.b_bool]
        have t2 : kBl (kB neS (kCall 2 m_holds (aCons (kV 6) (aCons (kTup (aCons (kV 8) (aCons (kV 15) aNil))) aNil))) (kB eqS (kCB (on1 lenS) (aCons (kV 16) aNil)) (kC (.int 0)))) δ4 = .ok false := by
          rw [ap_kBl, ap_kB, eb, ap_kCall, ap_aCons, ap_aCons, ap_kTup, ap_aCons, ap_aCons, kV_at f15, kV_at f8, kV_at hh.tb]
          simp only [R.ok_bind, ap_aNil, pds_cons, pds_nil, S.pd_d]
          rw [decide_eq_true (show [ti (bt l), ti (bt q)].length ≤ 1000000 by simp), chk_true]
          simp only [R.ok_bind, args_cons, args_nil, arg_d, List.length_cons, List.length_nil, decide_true, chk_true, z2, ne_b, bne_self_eq_false, S.b_bool]
        have t3 : tOrK (kBl (kB neS (kCallK 3 3 m_depends [2, 1, 0] (aCons (kV 15) (aCons (kV 8) (aCons (kV 3) aNil)))) (kB eqS (kCB (on1 lenS) (aCons (kV 16) aNil)) (kC (.int 0))))) (kBl (kB neS (kCall 2 m_holds (aCons (kV 6) (aCons (kTup (aCons (kV 8) (aCons (kV 15) aNil))) aNil))) (kB eqS (kCB (on1 lenS) (aCons (kV 16) aNil)) (kC (.int 0))))) δ4 = .ok false := by
          rw [ap_tOr, t1, R.ok_bind, t2]
          rfl
        exact (if_ok t3).trans rfl
      have e6 : sIf (kBl (kB neS (kCallK 3 3 m_pair_against [2, 1, 0] (aCons (kV 15) (aCons (kV 8) (aCons (kV 3) aNil)))) (kIf (kBl (kB gtS (kCB (on1 lenS) (aCons (kV 16) aNil)) (kC (.int 0)))) (kB ixS (kV 16) (kC (.int 0))) (kC .none)))) (sRet (kC (.bool false))) sNext δ4 = .next δ4 := by
        rw [find_head (fun x : (Nat × Nat) × Nat => badm l q x.2) (fun x => S.d (ep x.1))] at z3
        have hbp : (PP w ms).filter (fun x => badm l q x.2) = badP w l q ms := rfl
        rw [hbp] at z3
        have t1 : ∃ v : PyData, Fl 1 v ∧ m_pair_against [.d (me ms), .d (ti (bt l)), .d (ti (bt q))] = .ok (.d v) ∧ (kIf (kBl (kB gtS (kCB (on1 lenS) (aCons (kV 16) aNil)) (kC (.int 0)))) (kB ixS (kV 16) (kC (.int 0))) (kC .none)) δ4 = .ok (.d v) := by
          have tg : kBl (kB gtS (kCB (on1 lenS) (aCons (kV 16) aNil)) (kC (.int 0))) δ4 = .ok (decide (0 < (badP w l q ms).length)) := by
            rw [ap_kBl, ap_kB, ap_kCB, ap_aCons, kV_at f16]
            simp only [R.ok_bind, ap_aNil, on1_1, len_lst, List.length_map, ap_kC, gt_0, S.b_bool]
          cases hb : badP w l q ms with
          | nil =>
            rw [hb] at z3 tg
            refine ⟨.none, ⟨rfl, by decide⟩, z3, ?_⟩
            rw [ap_kIf, tg]
            rfl
          | cons y r =>
            rw [hb] at z3 tg f16
            refine ⟨ep y.1, fl_tup fun d hd => ?_, z3, ?_⟩
            · simp at hd
              rcases hd with rfl | rfl <;> exact fl_int _
            · rw [ap_kIf, tg, R.ok_bind, decide_eq_true (by rw [List.length_cons]; omega), if_pos rfl, ap_kB, kV_at f16]
              simp only [R.ok_bind, ap_kC, ix_lst, List.map_cons, atI_0]
        obtain ⟨v, fv, g1, g2⟩ := t1
        have nv := ne_self fv (by decide)
        have t2 : kBl (kB neS (kCallK 3 3 m_pair_against [2, 1, 0] (aCons (kV 15) (aCons (kV 8) (aCons (kV 3) aNil)))) (kIf (kBl (kB gtS (kCB (on1 lenS) (aCons (kV 16) aNil)) (kC (.int 0)))) (kB ixS (kV 16) (kC (.int 0))) (kC .none))) δ4 = .ok false := by
          rw [ap_kBl, ap_kB, g2, ap_kCallK, ap_aCons, ap_aCons, ap_aCons, kV_at f15, kV_at f8, kV_at hh.h3.m3]
          simp only [R.ok_bind, ap_aNil, perm3, args_cons, args_nil, arg_d, List.length_cons, List.length_nil, decide_true, chk_true, g1, nv, S.b_bool]
        exact (if_ok t2).trans rfl
      refine ⟨δ2, δ4, eg, seq_nx e3 (seq_nx e4 (seq_nx e5 e6)), x3, a5, b5, c5, f2, q0, ?_⟩
      rw [count_fold]
      omega)
  rw [count_fold, Nat.zero_add, List.length_range] at k1
  exact ⟨δ', a', b', c', e, x, e2, k0, k1⟩
theorem p9 {w : Nat} {ms : List (List Nat)} (M : Me w ms) {δ : Env} (h : Hd9 w ms δ) {a b c : Int} (h2 : δ[2]? = some (some (.l .ow (D3 a b c)))) (hc0 : 0 ≤ c) (hc : c ≤ 5000) : ∃ δ', Q9 δ = .next δ' ∧ Ex [2, 8, 13, 14, 15, 16] δ δ' := by
  have hw := M.hw
  have h16 : 2 ^ w ≤ 2 ^ 4 := Nat.pow_le_pow_right (by decide) hw
  obtain ⟨a1, a2, a3⟩ := allM_ok (n := w) (by omega)
  have alen := allM_len (n := w) (by omega)
  have G := pm_good M
  have C := clo_cl (pm w ms) w
  obtain ⟨δ', e, x, _⟩ := for_relP (enc := fun m : Nat => ti (bt m)) (fun (i : Nat) δ' => Ex [2, 8, 13, 14, 15, 16] δ δ' ∧ ∃ a b c', δ'[2]? = some (some (.l .ow (D3 a b c'))) ∧ 0 ≤ c' ∧ c' ≤ c + 2 * (i : Int)) (fun i _ => i + 1) (allM w) (b := 0) (δ := δ) (fi := iVal true (kV 4)) (g := gN 8) (u := U9)
    (by rw [ap_iVal, kV_at h.st]; rfl) ⟨Ex.refl _ _, a, b, c, h2, hc0, by omega⟩ (fun Pq l Q δ1 hq ⟨x, a, b, c', e2, k0, k1⟩ => by
      have hP : Pq.length ≤ 64 := by
        rw [hq, List.length_append] at alen
        omega
      have hl : l < 2 ^ w := a1 l (by rw [hq]; exact List.mem_append_right _ List.mem_cons_self)
      rw [count_fold, Nat.zero_add] at k1
      have l1 : δ1.length = 21 := x.len.trans h.h3.len
      have x1 : Ex [2, 8, 13, 14, 15, 16] δ (δ1.set 8 (some (.d (ti (bt l))))) := (x.trans (Ex.set δ1 8 _)).more (by decide)
      have f2 : (δ1.set 8 (some (.d (ti (bt l)))))[2]? = some (some (.l .ow (D3 a b c'))) := by rw [List.getElem?_set_ne (by decide)]; exact e2
      have f8 : (δ1.set 8 (some (.d (ti (bt l)))))[8]? = some (some (.d (ti (bt l)))) := set_at (by omega)
      have eg : gN 8 (ti (bt l)) δ1 = .ok (δ1.set 8 (some (.d (ti (bt l))))) := rfl
      generalize δ1.set 8 (some (.d (ti (bt l)))) = δ2 at *
      have e3 : sAsg 13 E13k δ2 = .next (δ2.set 13 (some (.d (.list ((bt (clo (pm w ms) w l)).map I))))) := asgl_ok (p13k M hl (h.of x1).h3 f8)
      have x2 : Ex [2, 8, 13, 14, 15, 16] δ (δ2.set 13 (some (.d (.list ((bt (clo (pm w ms) w l)).map I))))) := (x1.trans (Ex.set δ2 13 _)).more (by decide)
      have f13 : (δ2.set 13 (some (.d (.list ((bt (clo (pm w ms) w l)).map I)))))[13]? = some (some (.d (.list ((bt (clo (pm w ms) w l)).map I)))) := set_at (by rw [x1.len, h.h3.len]; decide)
      have f8 : (δ2.set 13 (some (.d (.list ((bt (clo (pm w ms) w l)).map I)))))[8]? = some (some (.d (ti (bt l)))) := by rw [List.getElem?_set_ne (by decide)]; exact f8
      have f2 : (δ2.set 13 (some (.d (.list ((bt (clo (pm w ms) w l)).map I)))))[2]? = some (some (.l .ow (D3 a b c'))) := by rw [List.getElem?_set_ne (by decide)]; exact f2
      generalize δ2.set 13 (some (.d (.list ((bt (clo (pm w ms) w l)).map I)))) = δ3 at *
      have hh := h.of x2
      have e4 : sIf (tOrK (kBl (kB neS (kCallK 2 2 m_told_by_measures [1, 0] (aCons (kV 8) (aCons (kV 3) aNil))) (kCB (on1 tupS) (aCons (kV 13) aNil)))) (tOrK (kBl (kB neS (kCall 2 m_closed (aCons (kV 6) (aCons (kV 8) aNil))) (kCB (on1 tupS) (aCons (kV 13) aNil)))) (kBl (kB neS (kCall 3 m_closed_by (aCons (kV 11) (aCons (kV 7) (aCons (kV 8) aNil)))) (kCB (on1 tupS) (aCons (kV 13) aNil)))))) (sRet (kC (.bool false))) sNext δ3 = .next δ3 := by
        have z1 := v_told M hl
        have z2 := v_closedT G hl
        have z3 := v_cby (n := w) (by omega) C hl
        have nt := ne_self (fl_ti (bt (clo (pm w ms) w l))) (by decide)
        have tt : kCB (on1 tupS) (aCons (kV 13) aNil) δ3 = .ok (.d (ti (bt (clo (pm w ms) w l)))) := by
          rw [ap_kCB, ap_aCons, kV_at f13]
          simp only [R.ok_bind, ap_aNil, on1_1, tup_lst]
        have t1 : kBl (kB neS (kCallK 2 2 m_told_by_measures [1, 0] (aCons (kV 8) (aCons (kV 3) aNil))) (kCB (on1 tupS) (aCons (kV 13) aNil))) δ3 = .ok false := by
          rw [ap_kBl, ap_kB, tt, ap_kCallK, ap_aCons, ap_aCons, kV_at f8, kV_at hh.h3.m3]
          simp only [R.ok_bind, ap_aNil, perm2, args_cons, args_nil, arg_d, List.length_cons, List.length_nil, decide_true, chk_true, z1, nt, S.b_bool]
        have t2 : kBl (kB neS (kCall 2 m_closed (aCons (kV 6) (aCons (kV 8) aNil))) (kCB (on1 tupS) (aCons (kV 13) aNil))) δ3 = .ok false := by
          rw [ap_kBl, ap_kB, tt, ap_kCall, ap_aCons, ap_aCons, kV_at f8, kV_at hh.tb]
          simp only [R.ok_bind, ap_aNil, args_cons, args_nil, arg_d, List.length_cons, List.length_nil, decide_true, chk_true, z2, nt, S.b_bool]
        have t3 : kBl (kB neS (kCall 3 m_closed_by (aCons (kV 11) (aCons (kV 7) (aCons (kV 8) aNil)))) (kCB (on1 tupS) (aCons (kV 13) aNil))) δ3 = .ok false := by
          rw [ap_kBl, ap_kB, tt, ap_kCall, ap_aCons, ap_aCons, ap_aCons, kV_at f8, kV_at hh.ru, kV_at hh.h3.wd]
          simp only [R.ok_bind, ap_aNil, args_cons, args_nil, arg_d, List.length_cons, List.length_nil, decide_true, chk_true, z3, nt, S.b_bool]
        refine (if_ok (c := false) ?_).trans rfl
        rw [ap_tOr, t1, R.ok_bind, ap_tOr, t2, R.ok_bind, t3]
        rfl
      obtain ⟨δ4, a6, b6, c6, e5, x3, f2, q0, q1⟩ := p14 M hl hh f8 f2 k0 (by omega)
      refine ⟨δ2, δ4, eg, seq_nx e3 (seq_nx e4 e5), (x2.trans x3).more (by decide), a6, b6, c6, f2, q0, ?_⟩
      rw [count_fold]
      omega)
  exact ⟨δ', e, x⟩
end G
end DL

set_option Elab.async false
set_option linter.all false
set_option maxRecDepth 100000
set_option maxHeartbeats 1000000
namespace DL
namespace G
open PySem PySem.Spec L2
theorem xcall2 {j : Nat} {f g : Env → R S} {m : List S → R (S × List S)} {δ : Env} {s0 s t : S} {x y : PyData} (h0 : δ[j]? = some (some s0)) (ho : s0.own = true) (hf : f δ = .ok (.d x)) (hg : g δ = .ok (.d y)) (hm : m [s0, .d x, .d y] = .ok (s, [t])) (hs : s.still = true) : xCallX 3 [0] m (xaIo j (xaCons (xP f) (xaCons (xP g) xaNil))) δ = .ok (s, δ.set j (some t)) := by
  have e0 : xaCons (xP g) xaNil δ = .ok ([.v (.d y)], δ) := by
    unfold xaCons xP xaNil
    simp only [hg, R.ok_bind, S.own]
  have e00 : xaCons (xP f) (xaCons (xP g) xaNil) δ = .ok ([.v (.d x), .v (.d y)], δ) := by
    unfold xaCons xP at e0 ⊢
    simp only [hf, R.ok_bind]
    rw [e0]
    simp only [R.ok_bind, S.own]
  have e1 : xaIo j (xaCons (xP f) (xaCons (xP g) xaNil)) δ = .ok ([.io j, .v (.d x), .v (.d y)], δ) := by
    unfold xaIo
    rw [h0]
    simp only [ho]
    unfold xaIo0
    rw [e00]
    rfl
  unfold xCallX
  rw [e1]
  have e2 : agArgs δ [.io j, .v (.d x), .v (.d y)] = .ok [s0, .d x, .d y] := by
    unfold agArgs
    rw [h0]
    simp only [ho]
    rfl
  simp only [R.ok_bind, e2, agIo, List.map_cons, List.map_nil, List.length_cons, List.length_nil]
  rw [hm]
  simp only [R.ok_bind, hs, setAll]
  simp
theorem fl_tis (l : List Nat) : Fl 2 (.tuple (tis l)) := fl_tup fun d h => by
  obtain ⟨a, _, rfl⟩ := List.mem_map.mp h
  exact fl_ti _
theorem has_tis (l : List Nat) : tis l = l.map fun r => ti (bt r) := rfl
abbrev E9k : Env → R S := kComp (iVal false (kV 4)) (gN 17) (kBl (kB eqS (kCB (on1 lenS) (aCons (kCall 2 m_closed (aCons (kV 6) (aCons (kV 17) aNil))) aNil)) (kV 11))) (kV 17) [17]
theorem p9g {w : Nat} {ms : List (List Nat)} (M : Me w ms) {δ : Env} (h : Hd9 w ms δ) : E9k δ = .ok (.l .fr (tis ((allM w).filter fun m => (bt (clo (pm w ms) w m)).length == w))) := by
  have hw := M.hw
  obtain ⟨a1, a2, a3⟩ := allM_ok (n := w) (by omega)
  have alen := allM_len (n := w) (by omega)
  refine comp_filter (enc := fun m : Nat => ti (bt m)) (fun m => (bt (clo (pm w ms) w m)).length == w) _ (allM w) (by rw [ap_iVal, kV_at h.st]; rfl) (by omega) fun m hm => ?_
  have z := v_closedT (pm_good M) (a1 m hm)
  have hl := h.h3.len
  unfold turn
  rw [ap_gN, R.ok_bind, ap_kBl, ap_kB, ap_kCB, ap_aCons, ap_kCall, ap_aCons, ap_aCons, kw_eq (by omega), kw_ne (by decide), kw_ne (by decide), kV_at h.tb, kV_at h.h3.wd]
  simp only [R.ok_bind, ap_aNil, args_cons, args_nil, arg_d, List.length_cons, List.length_nil, decide_true, chk_true, z, on1_1, len_tup, List.length_map, eq_int, beq_nat, S.b_bool]
  cases (bt (clo (pm w ms) w m)).length == w <;> rfl
abbrev E10k : Env → R S := kComp (iVal false (kV 9)) (gN 17) (tNotK (kTru (kCB (on1 anyS) (aCons (kComp (iVal false (kV 9)) (gN 20) tTrue (kAnd (kB neS (kV 20) (kV 17)) (kCall 2 m__law_has (aCons (kV 17) (aCons (kV 20) aNil)))) [20]) aNil)))) (kV 17) [17]
theorem p10k {δ : Env} {A : List Nat} (hl : δ.length = 21) (hA : ∀ r ∈ A, r < 64) (hlen : A.length ≤ 64) (h9 : δ[9]? = some (some (.d (.list (tis A))))) : E10k δ = .ok (.l .fr (tis (least A))) := by
  refine comp_filter (enc := fun m : Nat => ti (bt m)) (fun o => !A.any fun x => x != o && (x &&& o == x)) _ A (by rw [ap_iVal, kV_at h9]; rfl) (by omega) fun o ho => ?_
  have ho2 := hA o ho
  unfold turn
  rw [ap_gN, R.ok_bind]
  have q10 : ((wipeD δ [17]).set 17 (some (.d (ti (bt o)))))[9]? = some (some (.d (.list (tis A)))) := (w_ne (by decide)).trans h9
  have q12 : ((wipeD δ [17]).set 17 (some (.d (ti (bt o)))))[17]? = some (some (.d (ti (bt o)))) := set_at (by show 17 < (δ.set 17 none).length; rw [List.length_set]; omega)
  have ql : ((wipeD δ [17]).set 17 (some (.d (ti (bt o))))).length = 21 := w_len.trans hl
  generalize (wipeD δ [17]).set 17 (some (.d (ti (bt o)))) = δ2 at *
  have hc : kComp (iVal false (kV 9)) (gN 20) tTrue (kAnd (kB neS (kV 20) (kV 17)) (kCall 2 m__law_has (aCons (kV 17) (aCons (kV 20) aNil)))) [20] δ2 = .ok (.l .fr (A.map fun x => .bool (x != o && (x &&& o == x)))) := by
    refine comp_map (enc := fun r : Nat => ti (bt r)) _ A (by rw [ap_iVal, kV_at q10]; rfl) (by omega) fun x hx => ?_
    have z := v_hasM (hA x hx) ho2
    unfold turn
    rw [ap_gN, R.ok_bind, ap_tTrue, R.ok_bind, if_pos rfl, ap_kAnd, ap_kB, ap_kCall, ap_aCons, ap_aCons, kw_eq (by omega), kw_ne (by decide), kV_at q12, R.ok_bind, R.ok_bind, ne_ti, bt_ne (hA x hx) ho2]
    simp only [R.ok_bind, S.b_bool, ap_aNil, args_cons, args_nil, arg_d, List.length_cons, List.length_nil, decide_true, chk_true, z, S.pd_d]
    cases x != o <;> rfl
  have et : tNotK (kTru (kCB (on1 anyS) (aCons (kComp (iVal false (kV 9)) (gN 20) tTrue (kAnd (kB neS (kV 20) (kV 17)) (kCall 2 m__law_has (aCons (kV 17) (aCons (kV 20) aNil)))) [20]) aNil))) δ2 = .ok (!A.any fun x => x != o && (x &&& o == x)) := by
    rw [ap_tNot, ap_kTru, ap_kCB, ap_aCons, hc]
    simp only [R.ok_bind, ap_aNil, on1_1, any_l, bls_map, any_map, tru_bool]
  rw [et, R.ok_bind, kV_at q12]
  cases A.any fun x => x != o && (x &&& o == x) <;> rfl
theorem body_ok {δ : Env} {ns : List Int} (hns : ns.length ≤ 63) {spot : Nat} (hl : δ.length = 21) (h0 : δ[0]? = some (some (.d (.list (ns.map PyData.int))))) (h1 : δ[1]? = some (some (.d (I spot)))) : ∃ δ', lawB δ = .next δ' ∧ δ'.length = 21 ∧ δ'[0]? = some (some (.d (.list (ns.map PyData.int)))) := by
  obtain ⟨a, b, ed⟩ := v_dice ns hns spot
  have e1 : sAsgO 2 (kCall 2 m__law_dice (aCons (kV 0) (aCons (kV 1) aNil))) δ = .next (δ.set 2 (some (.l .ow (D3 a b 0)))) := asgO_ok (by
    rw [ap_kCall, ap_aCons, ap_aCons, kV_at h0, kV_at h1]
    simp only [R.ok_bind, ap_aNil, args_cons, args_nil, arg_d, List.length_cons, List.length_nil, decide_true, chk_true, ed])
  have x1 := Ex.set δ 2 (some (.l .ow (D3 a b 0)))
  have f2 := set_at (δ := δ) (j := 2) (y := some (.l .ow (D3 a b 0))) (by omega)
  generalize δ.set 2 (some (.l .ow (D3 a b 0))) = δ1 at *
  -- the measures
  obtain ⟨w, ms, a2, b2, c2, et, M, c0, c9⟩ := v_meas a b 0 4 4 (by decide) (by decide) (by decide) (by decide)
  have hw := M.hw
  have e2 : sAsgX 3 (xCallX 3 [0] m__law_measures (xaIo 2 (xaCons (xP (kC (.int 4))) (xaCons (xP (kC (.int 4))) xaNil)))) δ1 = .next ((δ1.set 2 (some (.l .ow (D3 a2 b2 c2)))).set 3 (some (.d (me ms)))) := asgX_ok (xcall2 f2 rfl rfl rfl et rfl)
  have l1 : δ1.length = 21 := x1.len.trans hl
  have x2 : Ex [2, 3] δ1 ((δ1.set 2 (some (.l .ow (D3 a2 b2 c2)))).set 3 (some (.d (me ms)))) := (Ex.set δ1 2 _).trans (Ex.set _ 3 _)
  have f3 : ((δ1.set 2 (some (.l .ow (D3 a2 b2 c2)))).set 3 (some (.d (me ms))))[3]? = some (some (.d (me ms))) := set_at (by rw [List.length_set]; omega)
  have f2 : ((δ1.set 2 (some (.l .ow (D3 a2 b2 c2)))).set 3 (some (.d (me ms))))[2]? = some (some (.l .ow (D3 a2 b2 c2))) := by
    rw [List.getElem?_set_ne (by decide), set_at (by omega)]
  generalize (δ1.set 2 (some (.l .ow (D3 a2 b2 c2)))).set 3 (some (.d (me ms))) = δ2 at *
  have l2 : δ2.length = 21 := x2.len.trans l1
  have h0 : δ2[0]? = some (some (.d (.list (ns.map PyData.int)))) := (x2.at_ 0 (by decide)).trans ((x1.at_ 0 (by decide)).trans h0)
  -- width, pairs
  have zl := v_lpairs M.len
  rw [← PP_ix w ms, List.map_map] at zl
  have e3 : sUn2 11 12 (aCons (kIf (kBl (kB gtS (kCB (on1 lenS) (aCons (kV 3) aNil)) (kC (.int 0)))) (kCB (on1 lenS) (aCons (kB ixS (kV 3) (kC (.int 0))) aNil)) (kC (.int 0))) (aCons (kCall 1 m__law_pairs (aCons (kV 3) aNil)) aNil)) δ2 = .next ((δ2.set 11 (some (.d (I w)))).set 12 (some (.d (.list ((PP w ms).map fun x => ep x.1))))) := by
    refine un2_ok (s := .d (I w)) (t := .d (.list ((PP w ms).map fun x => ep x.1))) ?_ rfl rfl
    have ew : kIf (kBl (kB gtS (kCB (on1 lenS) (aCons (kV 3) aNil)) (kC (.int 0)))) (kCB (on1 lenS) (aCons (kB ixS (kV 3) (kC (.int 0))) aNil)) (kC (.int 0)) δ2 = .ok (.d (I w)) := by
      have tg : kBl (kB gtS (kCB (on1 lenS) (aCons (kV 3) aNil)) (kC (.int 0))) δ2 = .ok (decide (0 < ms.length)) := by
        rw [ap_kBl, ap_kB, ap_kCB, ap_aCons, kV_at f3]
        simp only [R.ok_bind, ap_aNil, on1_1, len_tup, List.length_map, ap_kC, gt_0, S.b_bool]
      rw [ap_kIf, tg, R.ok_bind]
      cases ms with
      | nil =>
        have := M.nil rfl
        subst this
        rfl
      | cons r rest =>
        rw [decide_eq_true (by rw [List.length_cons]; omega), if_pos rfl, ap_kCB, ap_aCons, ap_kB, kV_at f3]
        simp only [R.ok_bind, ap_kC, ix_tup, List.map_cons, atI_0, ap_aNil, on1_1, len_tup, List.length_map, (M.row r List.mem_cons_self).1]
    rw [ap_aCons, ew, ap_aCons, ap_kCall, ap_aCons, kV_at f3]
    simp only [R.ok_bind, ap_aNil, args_cons, args_nil, arg_d, List.length_cons, List.length_nil, decide_true, chk_true, zl]
    rfl
  have x3 : Ex [11, 12] δ2 ((δ2.set 11 (some (.d (I w)))).set 12 (some (.d (.list ((PP w ms).map fun x => ep x.1))))) := (Ex.set δ2 11 _).trans (Ex.set _ 12 _)
  have H3 : Hd3 w ms ((δ2.set 11 (some (.d (I w)))).set 12 (some (.d (.list ((PP w ms).map fun x => ep x.1))))) := ⟨x3.len.trans l2, (x3.at_ 3 (by decide)).trans f3, by rw [List.getElem?_set_ne (by decide), set_at (by omega)], set_at (by rw [List.length_set]; omega)⟩
  have f2 := (x3.at_ 2 (by decide)).trans f2
  have h0 := (x3.at_ 0 (by decide)).trans h0
  generalize (δ2.set 11 (some (.d (I w)))).set 12 (some (.d (.list ((PP w ms).map fun x => ep x.1)))) = δ3 at *
  -- sets
  have zs := v_sets (n := w) (by omega)
  rw [List.map_map] at zs
  have e4 : sAsg 4 (kCall 1 m__law_sets (aCons (kV 11) aNil)) δ3 = .next (δ3.set 4 (some (.d (.list (tis (allM w)))))) := asgl_ok (by
    rw [ap_kCall, ap_aCons, kV_at H3.wd]
    simp only [R.ok_bind, ap_aNil, args_cons, args_nil, arg_d, List.length_cons, List.length_nil, decide_true, chk_true, zs]
    rfl)
  have x4 := Ex.set δ3 4 (some (.d (.list (tis (allM w)))))
  have f4 := set_at (δ := δ3) (j := 4) (y := some (.d (.list (tis (allM w))))) (by rw [H3.len]; decide)
  have H3 := H3.of x4
  have f2 := (x4.at_ 2 (by decide)).trans f2
  have h0 := (x4.at_ 0 (by decide)).trans h0
  generalize δ3.set 4 (some (.d (.list (tis (allM w))))) = δ4 at *
  -- rows, table
  have e5 : sAsg 5 E5 δ4 = .next (δ4.set 5 (some (.d (rw_ (pm w ms))))) := asgd_ok (p5k M H3)
  have x5 := Ex.set δ4 5 (some (.d (rw_ (pm w ms))))
  have f5 := set_at (δ := δ4) (j := 5) (y := some (.d (rw_ (pm w ms)))) (by rw [H3.len]; decide)
  have H3 := H3.of x5
  have f4 := (x5.at_ 4 (by decide)).trans f4
  have f2 := (x5.at_ 2 (by decide)).trans f2
  have h0 := (x5.at_ 0 (by decide)).trans h0
  generalize δ4.set 5 (some (.d (rw_ (pm w ms)))) = δ5 at *
  have e6 : sAsg 6 (kTup (aCons (kV 11) (aCons (kV 5) aNil))) δ5 = .next (δ5.set 6 (some (.d (tb w (pm w ms))))) := asgd_ok (by
    rw [ap_kTup, ap_aCons, ap_aCons, kV_at H3.wd, kV_at f5]
    simp only [R.ok_bind, ap_aNil, pds_cons, pds_nil, S.pd_d]
    rw [decide_eq_true (show [I w, rw_ (pm w ms)].length ≤ 1000000 by simp), chk_true])
  have x6 := Ex.set δ5 6 (some (.d (tb w (pm w ms))))
  have f6 := set_at (δ := δ5) (j := 6) (y := some (.d (tb w (pm w ms)))) (by rw [H3.len]; decide)
  have H3 := H3.of x6
  have f4 := (x6.at_ 4 (by decide)).trans f4
  have f2 := (x6.at_ 2 (by decide)).trans f2
  have h0 := (x6.at_ 0 (by decide)).trans h0
  generalize δ5.set 6 (some (.d (tb w (pm w ms)))) = δ6 at *
  have hp : ∀ s : S, perm [0] [s] = [s] := fun _ => rfl
  have e7 : sIf (kBl (kB neS (kCallK 1 1 m_pair_table [0] (aCons (kV 3) aNil)) (kV 6))) (sRet (kC (.bool false))) sNext δ6 = .next δ6 := by
    have z := v_ptable M
    have nt := ne_self (fl_tb w (pm w ms)) (by decide)
    refine (if_ok (c := false) ?_).trans rfl
    rw [ap_kBl, ap_kB, ap_kCallK, ap_aCons, kV_at H3.m3, kV_at f6]
    simp only [R.ok_bind, ap_aNil, hp, args_cons, args_nil, arg_d, List.length_cons, List.length_nil, decide_true, chk_true, z, nt, S.b_bool]
  have zb := v_base (pm_good M)
  have e8 : sAsg 7 (kCall 1 m_base (aCons (kV 6) aNil)) δ6 = .next (δ6.set 7 (some (.d (.tuple ((bm (clo (pm w ms) w) (allM w)).map er))))) := asgd_ok (by
    rw [ap_kCall, ap_aCons, kV_at f6]
    simp only [R.ok_bind, ap_aNil, args_cons, args_nil, arg_d, List.length_cons, List.length_nil, decide_true, chk_true, zb])
  have x7 := Ex.set δ6 7 (some (.d (.tuple ((bm (clo (pm w ms) w) (allM w)).map er))))
  have H9 : Hd9 w ms (δ6.set 7 (some (.d (.tuple ((bm (clo (pm w ms) w) (allM w)).map er))))) := ⟨H3.of x7, (x7.at_ 4 (by decide)).trans f4, (x7.at_ 6 (by decide)).trans f6, set_at (by rw [H3.len]; decide)⟩
  have f2 := (x7.at_ 2 (by decide)).trans f2
  have h0 := (x7.at_ 0 (by decide)).trans h0
  generalize δ6.set 7 (some (.d (.tuple ((bm (clo (pm w ms) w) (allM w)).map er)))) = δ7 at *
  obtain ⟨δ8, e9, x8⟩ := p9 M H9 f2 c0 (by omega)
  have H9 := H9.of x8
  have h0 := (x8.at_ 0 (by decide)).trans h0
  -- names
  have hA64 : ∀ m ∈ (allM w).filter (fun m => (bt (clo (pm w ms) w m)).length == w), m < 64 := fun m hm => by
    have := (allM_ok (n := w) (by omega)).1 m (List.mem_filter.mp hm).1
    have : 2 ^ w ≤ 2 ^ 4 := Nat.pow_le_pow_right (by decide) hw
    omega
  have hAl : ((allM w).filter (fun m => (bt (clo (pm w ms) w m)).length == w)).length ≤ 64 := Nat.le_trans (List.length_filter_le _ _) (allM_len (by omega))
  have e10 : sAsg 9 E9k δ8 = .next (δ8.set 9 (some (.d (.list (tis ((allM w).filter fun m => (bt (clo (pm w ms) w m)).length == w)))))) := asgl_ok (p9g M H9)
  have x9 := Ex.set δ8 9 (some (.d (.list (tis ((allM w).filter fun m => (bt (clo (pm w ms) w m)).length == w)))))
  have f9 := set_at (δ := δ8) (j := 9) (y := some (.d (.list (tis ((allM w).filter fun m => (bt (clo (pm w ms) w m)).length == w))))) (by rw [H9.h3.len]; decide)
  have H9 := H9.of x9
  have h0 := (x9.at_ 0 (by decide)).trans h0
  generalize δ8.set 9 (some (.d (.list (tis ((allM w).filter fun m => (bt (clo (pm w ms) w m)).length == w))))) = δ9 at *
  have e11 : sAsg 10 E10k δ9 = .next (δ9.set 10 (some (.d (.list (tis (least ((allM w).filter fun m => (bt (clo (pm w ms) w m)).length == w))))))) := asgl_ok (p10k H9.h3.len hA64 hAl f9)
  have x10 := Ex.set δ9 10 (some (.d (.list (tis (least ((allM w).filter fun m => (bt (clo (pm w ms) w m)).length == w))))))
  have f10 := set_at (δ := δ9) (j := 10) (y := some (.d (.list (tis (least ((allM w).filter fun m => (bt (clo (pm w ms) w m)).length == w)))))) (by rw [H9.h3.len]; decide)
  have H9 := H9.of x10
  have h0 := (x10.at_ 0 (by decide)).trans h0
  generalize δ9.set 10 (some (.d (.list (tis (least ((allM w).filter fun m => (bt (clo (pm w ms) w m)).length == w)))))) = δ10 at *
  have e12 : sIf (kBl (kB neS (kCallK 1 1 m_names_of [0] (aCons (kV 3) aNil)) (kCB (on1 tupS) (aCons (kV 10) aNil)))) (sRet (kC (.bool false))) sNext δ10 = .next δ10 := by
    have z := v_names M
    have nt := ne_self (fl_tis (namesM (pm w ms) w)) (by decide)
    refine (if_ok (c := false) ?_).trans rfl
    rw [ap_kBl, ap_kB, ap_kCallK, ap_aCons, kV_at H9.h3.m3, ap_kCB, ap_aCons, kV_at f10]
    simp only [R.ok_bind, ap_aNil, hp, args_cons, args_nil, arg_d, List.length_cons, List.length_nil, decide_true, chk_true, z, on1_1, tup_lst]
    exact (congrArg (fun z => z >>= fun x => S.b x) nt).trans rfl
  exact ⟨δ10, seq_nx e1 (seq_nx e2 (seq_nx e3 (seq_nx e4 (seq_nx e5 (seq_nx e6 (seq_nx e7 (seq_nx e8 (seq_nx e9 (seq_nx e10 (seq_nx e11 e12)))))))))), H9.h3.len, h0⟩
theorem last_ok : m__law_last [] = .ok (.d (.bool true)) := isB_ok (by decide +kernel)
theorem law_ok (ns : List Int) (hns : ns.length ≤ 63) : m_law [.d (.list (ns.map PyData.int))] = .ok (.d (.bool true)) := by
  have run : m_law [.d (.list (ns.map PyData.int))] = fin (d_law (entry 21 [.d (.list (ns.map PyData.int))])) := rfl
  obtain ⟨k, hk, ek⟩ : ∃ k : Nat, k ≤ 5 ∧ (aCons (kCB (maxS) (aCons (kC (.int 1)) (aCons (kCB (minS) (aCons (kC (.int 5)) (aCons (kCB (on1 lenS) (aCons (kV 0) aNil)) aNil))) aNil))) aNil) (entry 21 [.d (.list (ns.map PyData.int))]) = .ok [.d (I k)] := by
    have e0 : kV 0 (entry 21 [.d (.list (ns.map PyData.int))]) = .ok (.d (.list (ns.map PyData.int))) := rfl
    have e1 : ∀ i j : Int, minS [.d (.int i), .d (.int j)] = .ok (.d (.int (if j < i then j else i))) := fun _ _ => rfl
    have e2 : ∀ i j : Int, maxS [.d (.int i), .d (.int j)] = .ok (.d (.int (if j > i then j else i))) := fun _ _ => rfl
    rw [ap_aCons, ap_kCB, ap_aCons, ap_aCons, ap_kCB, ap_aCons, ap_aCons, ap_kCB, ap_aCons, e0]
    simp only [R.ok_bind, ap_kC, ap_aNil, on1_1, len_lst, List.length_map, e1, e2]
    by_cases h5 : (ns.length : Int) < 5
    · rw [if_pos h5]
      by_cases h1 : (ns.length : Int) > 1
      · rw [if_pos h1]
        exact ⟨ns.length, by omega, rfl⟩
      · rw [if_neg h1]
        exact ⟨1, by decide, rfl⟩
    · rw [if_neg h5]
      exact ⟨5, by decide, by rw [if_pos (by decide)]; rfl⟩
  obtain ⟨δ', e, hl, h0⟩ := for_rel (enc := fun i : Nat => I i) (fun (_ : Unit) δ => δ.length = 21 ∧ δ[0]? = some (some (.d (.list (ns.map PyData.int))))) (fun _ _ => ()) (List.range k) (b := ()) (δ := entry 21 [.d (.list (ns.map PyData.int))]) (fi := (iRg rg1S (aCons (kCB (maxS) (aCons (kC (.int 1)) (aCons (kCB (minS) (aCons (kC (.int 5)) (aCons (kCB (on1 lenS) (aCons (kV 0) aNil)) aNil))) aNil))) aNil))) (g := gN 1) (u := lawB)
    (rg_ok ek (by omega)) ⟨rfl, rfl⟩ (fun _ i δ _ ⟨hl, h0⟩ => by
      have eg : gN 1 (I i) δ = .ok (δ.set 1 (some (.d (I i)))) := rfl
      have h0' : (δ.set 1 (some (.d (I i))))[0]? = some (some (.d (.list (ns.map PyData.int)))) := by
        rw [List.getElem?_set_ne (by decide)]; exact h0
      have h1' : (δ.set 1 (some (.d (I i))))[1]? = some (some (.d (I i))) := set_at (by omega)
      have hl' : (δ.set 1 (some (.d (I i)))).length = 21 := by rw [List.length_set]; exact hl
      generalize δ.set 1 (some (.d (I i))) = δ1 at *
      obtain ⟨δ2, e2, hl2, h2⟩ := body_ok hns hl' h0' h1'
      exact ⟨δ1, δ2, eg, e2, hl2, h2⟩)
  rw [run]
  unfold d_law
  refine fin_seq e ?_
  refine fin_retE (s := .d (.bool true)) ?_ rfl
  rw [ap_kCall0, last_ok]
  rfl
end G
end DL

set_option Elab.async false
set_option linter.all false
open PySem PySem.W PySem.Calls PyProof.Rows
set_option maxRecDepth 100000 in
set_option maxHeartbeats 0 in
theorem PySem.Challenge.cw_shellmarks_k13_whole_measures_that_depen_holds : PySem.Challenge.rw_shellmarks_k13_whole_measures_that_depen.Holds := by
  w_on; o_law
  refine HandSHeadRun.head_any (r := OpenLaw.row PySem.Challenge.rw_shellmarks_k13_whole_measures_that_depen) (q := view DL.G.pr [71]) (H := DL.Hd.hook DL.G.asks) (ob := DL.Hd.obT DL.G.asks) (M := 6000) (loose := DL.G.others) (d := HandSHeadRun.topDef DL.G.pr 71) (kwd := []) (DL.Hd.obT_eq _)
    (by kernel_rfl) (fun s => by kernel_rfl) DL.G.run (by kernel_rfl) (by kernel_rfl) (by kernel_rfl) (by rfl) (by first | assumption | decide +kernel) (by decide +kernel) ⟨rfl, rfl, rfl, rfl, rfl, by decide +kernel⟩ ?hw ?hc
  case hw => w_witness2
  case hc =>
    refine LamX.walk_ofTsE (l := PySem.Challenge.rw_shellmarks_k13_whole_measures_that_depen) (n := 63) (k := 11) (x := "script") (CX := fun w => L2.CX DL.G.pr w) rfl (by decide) (by kernel_rfl) ⟨rfl, by decide, by decide⟩ ?F (fun w => DL.Hd.cx_no)
    intro w mg fa h Y G hmg
    obtain ⟨K, KX, c⟩ := Y
    have hm : mg ("law" : PySem.Str) = some (.ref fa) := by
      have e : (HandSHeadRun.topDef DL.G.pr 71).name = ("law" : PySem.Str) := by kernel_rfl
      rw [← e]
      exact hmg
    exact ⟨K, KX, DL.G.law_at DL.G.law_ok KX G hm c⟩

