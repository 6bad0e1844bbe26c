import PyProof.Rows.All
import Wide.All
import OpenK.AllK
import Wide.FinOn
import HandS.ForMost
import HandS.Exc
import HandS.ExcOwn
import HandS.WordsExc
import HandS.Lambda
import HandS.TupAny
import HandS.TupMul
import HandS.TupLe
import HandS.Style
import HandS.Flow
import HandS.IsInst
import HandS.Conv
import HandS.Strs
import HandS.SetFor
import HandS.SetBool
import HandS.Deep
import HandS.TryMany
import HandS.Wide
import KE.GoesEnum
import HandS.More
import HandS.SortInts
import HandS.RaiseMore
import HandS.EndTab
import KE.KNestM
import HandS.SortRule
import PyProof.P3In
import PySem.Challenge.RW_countbook_k86_numbers_in_q_and_spaces
set_option Elab.async false
set_option linter.all false
set_option maxRecDepth 100000
namespace CB
open PySem PySem.Spec
open L2

/-! ## values, heaps, results -/
inductive D where
  | non | bl (b : Bool) | int (i : Int) | str (s : Str) | tup (ds : List D) | scr (ns : List Int) | ref (i : Nat)
inductive Ob where
  | lst (ds : List D)
  | dK (kvs : List (Key × D))
  | lk (kvs : List (Key × D))
abbrev Hh := List Ob
inductive R (α : Type) where
  | ok (a : α) (h : Hh) | ex (e : Str) (h : Hh) | no
abbrev Env' := List (Option D)
inductive RS where
  | nx (env : Env') (h : Hh) | rt (d : D) (h : Hh) | bk (env : Env') (h : Hh) | ct (env : Env') (h : Hh) | ex (e : Str) (h : Hh) | no
abbrev EM := Env' → Hh → R D
abbrev SM := Env' → Hh → RS
@[reducible] def R.bind {α β : Type} (r : R α) (k : α → Hh → R β) : R β := match r with
  | .ok a h => k a h
  | .ex e h => .ex e h
  | .no => .no

/-! ## how they lie in the abstract heap -/
def stab : HO → Bool
  | .lst _ => false
  | .dK _ => false
  | .dT _ => false
  | .set _ _ => false
  | .ins _ _ _ => false
  | .tbl _ => false
  | _ => true
/-- a read-only list -/
def RoL (K : PySem.W.Frag) (H : Hp) (a : Addr) (xs : List V) : Prop := (∃ o, H a = some (.frz o (.lst xs))) ∨ (SqL K (fun _ => none) a xs)
/-- a tuple without a dict of its own -/
def SqP (K : PySem.W.Frag) (H : Hp) (a : Addr) (xs : List V) : Prop :=
  (∃ o, H a = some (.frz o (.tup xs)) ∧ o.dict = none) ∨
    ∃ (o : Obj) (its : Array Value) (n : Nat), K.lookup a = some o ∧ o.cls = .type "tuple" ∧ o.data = .seq its n ∧ its.size ≤ sizeLine ∧ Vals xs its.toList ∧ o.dict = none
theorem SqP.t {K : PySem.W.Frag} {H : Hp} {a : Addr} {xs : List V} (h : SqP K H a xs) : SqT K H a xs := by
  rcases h with ⟨o, h, _⟩ | ⟨o, its, n, h1, h2, h3, h4, h5, _⟩
  · exact .inl (.inr ⟨o, h⟩)
  · exact .inr ⟨o, its, n, h1, h2, h3, h4, h5⟩
theorem SqP.mk {K : PySem.W.Frag} {H : Hp} {a : Addr} {xs : List V} {o : Obj} (h : H a = some (.frz o (.tup xs))) (hd : o.dict = none) : SqP K H a xs := .inl ⟨o, h, hd⟩
mutual
inductive VR (K : PySem.W.Frag) (H : Hp) (f : List Addr) : D → V → Prop
  | non : VR K H f .non .non
  | bl (b : Bool) : VR K H f (.bl b) (.bl b)
  | int (i : Int) : VR K H f (.int i) (.int i)
  | str (s : Str) : VR K H f (.str s) (.str s)
  | tup {a : Addr} {vs : List V} {ds : List D} : SqP K H a vs → VRs K H f ds vs → VR K H f (.tup ds) (.ref a)
  | scr {a : Addr} {ns : List Int} : RoL K H a (ns.map V.int) → VR K H f (.scr ns) (.ref a)
  | ref {i : Nat} {a : Addr} : f[i]? = some a → VR K H f (.ref i) (.ref a)
inductive VRs (K : PySem.W.Frag) (H : Hp) (f : List Addr) : List D → List V → Prop
  | nil : VRs K H f [] []
  | cons {d : D} {v : V} {ds : List D} {vs : List V} : VR K H f d v → VRs K H f ds vs → VRs K H f (d :: ds) (v :: vs)
end
def OR (K : PySem.W.Frag) (H : Hp) (f : List Addr) : Ob → Addr → Prop
  | .lst ds, a => ∃ vs, H a = some (.lst vs) ∧ VRs K H f ds vs
  | .dK kvs, a => ∃ kws : List (Key × V), H a = some (.dK kws) ∧ kws.map (·.1) = kvs.map (·.1) ∧ VRs K H f (kvs.map (·.2)) (kws.map (·.2))
  | .lk kvs, a => ∃ (od : Obj) (kws : List (Key × V)), H a = some (.frz od (.dK kws)) ∧ kws.map (·.1) = kvs.map (·.1) ∧ VRs K H f (kvs.map (·.2)) (kws.map (·.2))
structure HR (K : PySem.W.Frag) (H : Hp) (f : List Addr) (h : Hh) : Prop where
  len : f.length = h.length
  inj : ∀ (i j : Nat) (a : Addr), f[i]? = some a → f[j]? = some a → i = j
  ob : ∀ (i : Nat) (o : Ob), h[i]? = some o → ∃ a, f[i]? = some a ∧ OR K H f o a
/-- what a piece of code may do -/
structure Step (H : Hp) (f : List Addr) (H' : Hp) (f' : List Addr) : Prop where
  pre : ∀ (i : Nat) (a : Addr), f[i]? = some a → f'[i]? = some a
  keep : ∀ b o, H b = some o → (stab o = true ∨ b ∉ f) → (∀ ps, o ≠ .tbl ps) → H' b = some o
  new : ∀ a, a ∈ f' → a ∈ f ∨ ∀ o, H a = some o → ∃ ps, o = .tbl ps
theorem Step.refl {H : Hp} {f : List Addr} : Step H f H f := ⟨fun _ _ h => h, fun _ _ h _ _ => h, fun _ h => .inl h⟩
theorem stab_tbl {o : HO} (h : stab o = true) : ∀ ps, o ≠ .tbl ps := fun ps z => by subst z; cases h
theorem Step.trans {H H1 H2 : Hp} {f f1 f2 : List Addr} (a : Step H f H1 f1) (b : Step H1 f1 H2 f2) : Step H f H2 f2 where
  pre := fun i x e => b.pre i x (a.pre i x e)
  keep := fun x o e s n => by
    have e1 := a.keep x o e s n
    refine b.keep x o e1 ?_ n
    rcases s with s | s
    · exact .inl s
    · refine .inr fun z => ?_
      rcases a.new x z with q | q
      · exact s q
      · obtain ⟨ps, q⟩ := q o e
        exact n ps q
  new := fun x z => by
    rcases b.new x z with q | q
    · exact a.new x q
    · by_cases hx : x ∈ f
      · exact .inl hx
      · refine .inr fun o w => ?_
        by_cases t : ∃ ps, o = .tbl ps
        · exact t
        · exact q o (a.keep x o w (.inr hx) (fun ps z => t ⟨ps, z⟩))
/-- what data lean on -/
structure Lo (H : Hp) (f : List Addr) (H' : Hp) (f' : List Addr) : Prop where
  pre : ∀ (i : Nat) (a : Addr), f[i]? = some a → f'[i]? = some a
  keep : ∀ b o, H b = some o → stab o = true → H' b = some o
theorem Step.lo {H H' : Hp} {f f' : List Addr} (s : Step H f H' f') : Lo H f H' f' := ⟨s.pre, fun b o e k => s.keep b o e (.inl k) (stab_tbl k)⟩
section
variable {K : PySem.W.Frag} {H H' : Hp} {f f' : List Addr}
theorem RoL.lo (s : Lo H f H' f') {a : Addr} {xs : List V} (h : RoL K H a xs) : RoL K H' a xs := by
  rcases h with ⟨o, h⟩ | h
  · exact .inl ⟨o, s.keep _ _ h rfl⟩
  · exact .inr h
theorem RoL.step (s : Step H f H' f') {a : Addr} {xs : List V} (h : RoL K H a xs) : RoL K H' a xs := h.lo s.lo
theorem RoL.sq {a : Addr} {xs : List V} (h : RoL K H a xs) : SqL K H a xs := by
  rcases h with ⟨o, h⟩ | (h | h)
  · exact .inl (.inr ⟨o, h⟩)
  · rcases h with h | ⟨o, h⟩ <;> cases h
  · exact .inr h
theorem sqP_lo (s : Lo H f H' f') {a : Addr} {xs : List V} (h : SqP K H a xs) : SqP K H' a xs := by
  rcases h with ⟨o, h, hd⟩ | h
  · exact .inl ⟨o, s.keep _ _ h rfl, hd⟩
  · exact .inr h
theorem sqT_lo (s : Lo H f H' f') {a : Addr} {xs : List V} (h : SqT K H a xs) : SqT K H' a xs := by
  rcases h with (h | ⟨o, h⟩) | h
  · exact .inl (.inl (s.keep _ _ h rfl))
  · exact .inl (.inr ⟨o, s.keep _ _ h rfl⟩)
  · exact .inr h
mutual
theorem VR.lo (s : Lo H f H' f') : ∀ {d : D} {v : V}, VR K H f d v → VR K H' f' d v
  | _, _, .non => .non
  | _, _, .bl b => .bl b
  | _, _, .int i => .int i
  | _, _, .str x => .str x
  | _, _, .tup h r => .tup (sqP_lo s h) (VRs.lo s r)
  | _, _, .scr h => .scr (h.lo s)
  | _, _, .ref e => .ref (s.pre _ _ e)
theorem VRs.lo (s : Lo H f H' f') : ∀ {ds : List D} {vs : List V}, VRs K H f ds vs → VRs K H' f' ds vs
  | _, _, .nil => .nil
  | _, _, .cons a b => .cons (VR.lo s a) (VRs.lo s b)
end
theorem VR.step (s : Step H f H' f') {d : D} {v : V} (r : VR K H f d v) : VR K H' f' d v := r.lo s.lo
theorem VRs.step (s : Step H f H' f') {d : List D} {v : List V} (r : VRs K H f d v) : VRs K H' f' d v := r.lo s.lo
theorem VRs.len : ∀ {ds : List D} {vs : List V}, VRs K H f ds vs → ds.length = vs.length
  | _, _, .nil => rfl
  | _, _, .cons _ b => congrArg Nat.succ (VRs.len b)
theorem VRs.get : ∀ {ds : List D} {vs : List V} {i : Nat} {d : D}, VRs K H f ds vs → ds[i]? = some d → ∃ v, vs[i]? = some v ∧ VR K H f d v
  | _, _, _, _, .nil, e => by simp at e
  | _, _, 0, _, .cons a _, e => by simp at e; subst e; exact ⟨_, rfl, a⟩
  | _, _, i + 1, d, .cons _ t, e => by
    obtain ⟨v, h1, h2⟩ := VRs.get (i := i) (d := d) t (by simpa using e)
    exact ⟨v, by simpa using h1, h2⟩
theorem VRs.getV : ∀ {ds : List D} {vs : List V} {i : Nat} {v : V}, VRs K H f ds vs → vs[i]? = some v → ∃ d, ds[i]? = some d ∧ VR K H f d v
  | _, _, _, _, .nil, e => by simp at e
  | _, _, 0, _, .cons a _, e => by simp at e; subst e; exact ⟨_, rfl, a⟩
  | _, _, i + 1, d, .cons _ t, e => by
    obtain ⟨v, h1, h2⟩ := VRs.getV (i := i) (v := d) t (by simpa using e)
    exact ⟨v, by simpa using h1, h2⟩
theorem VRs.app : ∀ {ds es : List D} {vs ws : List V}, VRs K H f ds vs → VRs K H f es ws → VRs K H f (ds ++ es) (vs ++ ws)
  | _, _, _, _, .nil, s => s
  | _, _, _, _, .cons r t, s => .cons r (VRs.app t s)
theorem VRs.takeN : ∀ {ds : List D} {vs : List V} (n : Nat), VRs K H f ds vs → VRs K H f (ds.take n) (vs.take n)
  | _, _, 0, _ => .nil
  | _, _, _ + 1, .nil => .nil
  | _, _, n + 1, .cons r t => .cons r (VRs.takeN n t)
theorem VRs.dropN : ∀ {ds : List D} {vs : List V} (n : Nat), VRs K H f ds vs → VRs K H f (ds.drop n) (vs.drop n)
  | _, _, 0, r => r
  | _, _, _ + 1, .nil => .nil
  | _, _, n + 1, .cons _ t => VRs.dropN n t
theorem VRs.setN {d : D} {v : V} (r : VR K H f d v) : ∀ {ds : List D} {vs : List V} (i : Nat), VRs K H f ds vs → VRs K H f (ds.set i d) (vs.set i v)
  | _, _, _, .nil => .nil
  | _, _, 0, .cons _ t => .cons r t
  | _, _, i + 1, .cons q t => .cons q (VRs.setN r i t)
theorem VRs.eraseN : ∀ {ds : List D} {vs : List V} (n : Nat), VRs K H f ds vs → VRs K H f (ds.eraseIdx n) (vs.eraseIdx n)
  | _, _, _, .nil => .nil
  | _, _, 0, .cons _ t => t
  | _, _, n + 1, .cons r t => .cons r (VRs.eraseN n t)
theorem VRs.rev {ds : List D} {vs : List V} (r : VRs K H f ds vs) : VRs K H f ds.reverse vs.reverse := by
  induction ds generalizing vs with
  | nil => cases r; exact .nil
  | cons d ds ih => cases r with | cons a b => rw [List.reverse_cons, List.reverse_cons]; exact VRs.app (ih b) (.cons a .nil)
theorem VRs.flatRep {ds : List D} {vs : List V} (r : VRs K H f ds vs) : ∀ n : Nat, VRs K H f (List.replicate n ds).flatten (List.replicate n vs).flatten
  | 0 => .nil
  | n + 1 => by rw [List.replicate_succ, List.replicate_succ, List.flatten_cons, List.flatten_cons]; exact VRs.app r (VRs.flatRep r n)
theorem VRs.ints {ns : List Int} : VRs K H f (ns.map D.int) (ns.map V.int) := by
  induction ns with
  | nil => exact .nil
  | cons n ns ih => exact .cons (.int n) ih
theorem VRs.intsV : ∀ {ns : List Int} {vs : List V}, VRs K H f (ns.map D.int) vs → vs = ns.map V.int
  | [], _, .nil => rfl
  | _ :: _, _, .cons a b => by cases a; rw [VRs.intsV b]; rfl
theorem OR.step (s : Step H f H' f') {o : Ob} {a : Addr} (ha : H' a = H a) (h : OR K H f o a) : OR K H' f' o a := by
  cases o with
  | lst ds => obtain ⟨vs, e, r⟩ := h; exact ⟨vs, ha.trans e, r.step s⟩
  | dK kvs => obtain ⟨kws, e, k, r⟩ := h; exact ⟨kws, ha.trans e, k, r.step s⟩
  | lk kvs => obtain ⟨od, kws, e, k, r⟩ := h; exact ⟨od, kws, ha.trans e, k, r.step s⟩
/-- the object at an id -/
theorem HR.lst {h : Hh} (R : HR K H f h) {i : Nat} {ds : List D} (e : h[i]? = some (.lst ds)) : ∃ a vs, f[i]? = some a ∧ H a = some (.lst vs) ∧ VRs K H f ds vs := by
  obtain ⟨a, e1, vs, e2, r⟩ := R.ob i _ e
  exact ⟨a, vs, e1, e2, r⟩
theorem Ob.some {h : Hh} (R : HR K H f h) {i : Nat} {a : Addr} (e : f[i]? = some a) : ∃ o, H a = some o := by
  have hi : i < h.length := by rw [← R.len]; exact (List.getElem?_eq_some_iff.mp e).1
  obtain ⟨b, e1, q⟩ := R.ob i _ (List.getElem?_eq_getElem hi)
  rw [e] at e1; cases e1
  cases hh : h[i] with
  | lst ds => rw [hh] at q; obtain ⟨vs, e, _⟩ := q; exact ⟨_, e⟩
  | dK kvs => rw [hh] at q; obtain ⟨vs, e, _⟩ := q; exact ⟨_, e⟩
  | lk kvs => rw [hh] at q; obtain ⟨od, vs, e, _⟩ := q; exact ⟨_, e⟩
theorem HR.not_mem {h : Hh} (R : HR K H f h) {p : Addr} (n : H p = none) : p ∉ f := fun z => by
  obtain ⟨i, hi, e⟩ := List.getElem_of_mem z
  obtain ⟨o, q⟩ := Ob.some R (i := i) (a := p) (by rw [List.getElem?_eq_getElem hi, e])
  rw [n] at q; cases q
/-- a new object that is not told -/
theorem Step.fresh {p : Addr} {o : HO} (n : H p = none) : Step H f (upd H p o) f where
  pre := fun _ _ h => h
  keep := fun b u e _ _ => by rw [upd_ne (ne_of_none e n)]; exact e
  new := fun _ h => .inl h
theorem HR.fresh {h : Hh} {p : Addr} {o : HO} (R : HR K H f h) (n : H p = none) : HR K (upd H p o) f h where
  len := R.len
  inj := R.inj
  ob := fun i u e => by
    obtain ⟨a, e1, q⟩ := R.ob i u e
    obtain ⟨w, e2⟩ := Ob.some R e1
    exact ⟨a, e1, q.step (Step.fresh n) (by rw [upd_ne (ne_of_none e2 n)])⟩
/-- a new object that is told -/
theorem Step.alloc {p : Addr} {o : HO} (n : H p = none) : Step H f (upd H p o) (f ++ [p]) where
  pre := fun i a e => by rw [List.getElem?_append_left (List.getElem?_eq_some_iff.mp e).1]; exact e
  keep := fun b u e _ _ => by rw [upd_ne (ne_of_none e n)]; exact e
  new := fun a h => by
    rcases List.mem_append.mp h with h | h
    · exact .inl h
    · rw [List.mem_singleton] at h; subst h; exact .inr fun o e => by rw [n] at e; cases e
theorem HR.alloc {h : Hh} {p : Addr} {o : HO} {u : Ob} (R : HR K H f h) (n : H p = none) (ho : OR K (upd H p o) (f ++ [p]) u p) : HR K (upd H p o) (f ++ [p]) (h ++ [u]) where
  len := by rw [List.length_append, List.length_append, R.len]; rfl
  inj := fun i j a e1 e2 => by
    have key : ∀ {i : Nat} {a : Addr}, (f ++ [p])[i]? = some a → (f[i]? = some a) ∨ (i = f.length ∧ a = p) := fun {i a} e => by
      by_cases hi : i < f.length
      · rw [List.getElem?_append_left hi] at e; exact .inl e
      · rw [List.getElem?_append_right (by omega)] at e
        have h0 : i - f.length < 1 := (List.getElem?_eq_some_iff.mp e).1
        have h1 : i = f.length := by omega
        subst h1
        rw [Nat.sub_self] at e
        exact .inr ⟨rfl, (Option.some.inj e).symm⟩
    have np := R.not_mem n
    rcases key e1 with h1 | ⟨h1, rfl⟩ <;> rcases key e2 with h2 | ⟨h2, h3⟩
    · exact R.inj i j a h1 h2
    · subst h3; exact absurd (List.mem_of_getElem? h1) np
    · exact absurd (List.mem_of_getElem? h2) np
    · omega
  ob := fun i v e => by
    by_cases hi : i < h.length
    · rw [List.getElem?_append_left hi] at e
      obtain ⟨a, e1, q⟩ := R.ob i v e
      obtain ⟨w, e2⟩ := Ob.some R e1
      exact ⟨a, (Step.alloc (o := o) n).pre _ _ e1, q.step (Step.alloc n) (by rw [upd_ne (ne_of_none e2 n)])⟩
    · rw [List.getElem?_append_right (by omega)] at e
      have h0 : i - h.length < 1 := (List.getElem?_eq_some_iff.mp e).1
      have h1 : i = h.length := by omega
      subst h1
      rw [Nat.sub_self] at e
      cases Option.some.inj e
      refine ⟨p, ?_, ho⟩
      rw [← R.len, List.getElem?_append_right (Nat.le_refl _), Nat.sub_self]
      rfl
/-- an object changed -/
theorem Step.write {h : Hh} (R : HR K H f h) {i : Nat} {a : Addr} {o w : HO} (e : f[i]? = some a) (ha : H a = some w) (hs : stab w = false) (hw : ∀ ps, w ≠ .tbl ps) : Step H f (upd H a o) f where
  pre := fun _ _ h => h
  keep := fun b u q s _ => by
    have hb : b ≠ a := fun z => by
      subst z
      rw [ha] at q; cases q
      rcases s with s | s
      · rw [hs] at s; cases s
      · exact s (List.mem_of_getElem? e)
    rw [upd_ne hb]; exact q
  new := fun _ h => .inl h
theorem HR.write {h : Hh} (R : HR K H f h) {i : Nat} {a : Addr} {o w : HO} {u : Ob} (e : f[i]? = some a) (ha : H a = some w) (hs : stab w = false) (hw : ∀ ps, w ≠ .tbl ps)
    (ho : OR K (upd H a o) f u a) : HR K (upd H a o) f (h.set i u) where
  len := by rw [List.length_set]; exact R.len
  inj := R.inj
  ob := fun j v q => by
    by_cases hj : j = i
    · subst hj
      have hl : j < h.length := by rw [← R.len]; exact (List.getElem?_eq_some_iff.mp e).1
      rw [List.getElem?_set_self hl] at q
      cases q
      exact ⟨a, e, ho⟩
    · rw [List.getElem?_set_ne (Ne.symm hj)] at q
      obtain ⟨b, e1, r⟩ := R.ob j v q
      refine ⟨b, e1, r.step (Step.write R e ha hs hw) ?_⟩
      rw [upd_ne (fun z => hj (R.inj j i b e1 (by rw [z]; exact e)))]
end
/-- tables of code objects stay through -/
theorem tabs_alloc {T : List (Addr × Str)} {H : Hp} {p : Addr} {o : HO} (t : LamX.Tabs T H) (n : H p = none) : LamX.Tabs T (upd H p o) := t.ext fun b u e => by rw [upd_ne (ne_of_none e n)]; exact e
theorem tabs_write {T : List (Addr × Str)} {H : Hp} {a : Addr} {o w : HO} (t : LamX.Tabs T H) (ha : H a = some w) (hs : stab w = false) (hw : ∀ ps, w ≠ .tbl ps) : LamX.Tabs T (upd H a o) := fun p hp => by
  obtain ⟨ps, h1, h2, h3⟩ := t p hp
  have na : ∀ b u, H b = some u → (stab u = true ∨ ∃ ps, u = .tbl ps) → b ≠ a := fun b u e s z => by
    subst z
    rw [ha] at e; cases e
    rcases s with s | ⟨ps, s⟩
    · rw [hs] at s; cases s
    · exact hw ps s
  refine ⟨ps, by rw [upd_ne (na _ _ h1 (.inr ⟨ps, rfl⟩))]; exact h1, h2, fun pos cv hc => ?_⟩
  obtain ⟨c, e1, e2⟩ := h3 pos cv hc
  exact ⟨c, e1, by rw [upd_ne (na _ _ e2 (.inl rfl))]; exact e2⟩
end CB

set_option maxRecDepth 100000
namespace CB
open PySem PySem.Spec
open L2

structure ER (K : PySem.W.Frag) (H : Hp) (f : List Addr) (env : Env') (σ : St) : Prop where
  len : env.length = σ.length
  get : ∀ (i : Nat) (d : D), env[i]? = some (some d) → ∃ v, σ[i]? = some (some v) ∧ VR K H f d v
structure SR (K : PySem.W.Frag) (T : List (Addr × Str)) (σ : St) (H : Hp) (f : List Addr) (env : Env') (h : Hh) : Prop where
  er : ER K H f env σ
  hr : HR K H f h
  tb : LamX.Tabs T H
section
variable {K : PySem.W.Frag} {T : List (Addr × Str)} {mg : Str → Option Value} {E : XK} {H H' H1 : Hp} {f f' f1 : List Addr} {env : Env'} {σ : St} {h h' h1 : Hh}
theorem ER.step (s : Step H f H' f') (e : ER K H f env σ) : ER K H' f' env σ := ⟨e.len, fun i d q => let ⟨v, a, b⟩ := e.get i d q; ⟨v, a, b.step s⟩⟩
theorem ER.set (e : ER K H f env σ) {d : D} {v : V} (r : VR K H f d v) (i : Nat) : ER K H f (env.set i (some d)) (σ.set i (some v)) := by
  refine ⟨by rw [List.length_set, List.length_set]; exact e.len, fun j x q => ?_⟩
  by_cases hj : j = i
  · subst hj
    have hl : j < env.length := by have := (List.getElem?_eq_some_iff.mp q).1; rwa [List.length_set] at this
    rw [List.getElem?_set_self hl] at q
    cases q
    exact ⟨v, List.getElem?_set_self (by rw [← e.len]; exact hl), r⟩
  · rw [List.getElem?_set_ne (Ne.symm hj)] at q
    rw [List.getElem?_set_ne (Ne.symm hj)]
    exact e.get j x q
theorem ER.unset (e : ER K H f env σ) (i : Nat) : ER K H f (env.set i none) (σ.set i none) := by
  refine ⟨by rw [List.length_set, List.length_set]; exact e.len, fun j x q => ?_⟩
  by_cases hj : j = i
  · subst hj
    have hl : j < env.length := by have := (List.getElem?_eq_some_iff.mp q).1; rwa [List.length_set] at this
    rw [List.getElem?_set_self hl] at q
    cases q
  · rw [List.getElem?_set_ne (Ne.symm hj)] at q
    rw [List.getElem?_set_ne (Ne.symm hj)]
    exact e.get j x q
theorem SR.step (S : SR K T σ H f env h) (s : Step H f H' f') (hr : HR K H' f' h') (tb : LamX.Tabs T H') : SR K T σ H' f' env h' := ⟨S.er.step s, hr, tb⟩
end

section
variable (K : PySem.W.Frag) (T : List (Addr × Str)) (mg : Str → Option Value) (E : XK)
def PostG {α β : Type} (rel : Hp → List Addr → α → β → Prop) (H : Hp) (f : List Addr) (r : R α) (Q : β → Hp → Prop) : Prop := match r with
  | .ok d h' => ∀ v H' f', Step H f H' f' → rel H' f' d v → HR K H' f' h' → LamX.Tabs T H' → Q v H'
  | .ex e h' => ∀ C H' f', mg e = some (.ref C) → Step H f H' f' → HR K H' f' h' → LamX.Tabs T H' → E (.ref C) none H'
  | .no => False
abbrev PostE (H : Hp) (f : List Addr) (r : R D) (Q : VK) : Prop := PostG K T mg E (VR K) H f r Q
abbrev PostA (H : Hp) (f : List Addr) (r : R (List D)) (Q : List V → Hp → Prop) : Prop := PostG K T mg E (VRs K) H f r Q
/-- the reading of an expression by its meaning m -/
def tE (m : EM) : TE := fun σ H Q => ∃ env f h, SR K T σ H f env h ∧ PostE K T mg E H f (m env h) Q
abbrev AM := Env' → Hh → R (List D)
def tA (m : AM) : TA := fun σ H Q => ∃ env f h, SR K T σ H f env h ∧ PostA K T mg E H f (m env h) Q
def PostS (H : Hp) (f : List Addr) (r : RS) (Dn : Ends) : Prop := match r with
  | .nx env' h' => ∀ σ' H' f', Step H f H' f' → SR K T σ' H' f' env' h' → Dn.nx σ' H'
  | .rt d h' => ∀ v H' f', Step H f H' f' → VR K H' f' d v → HR K H' f' h' → LamX.Tabs T H' → Dn.rt v H'
  | .bk env' h' => ∀ σ' H' f', Step H f H' f' → SR K T σ' H' f' env' h' → Dn.bk σ' H'
  | .ct env' h' => ∀ σ' H' f', Step H f H' f' → SR K T σ' H' f' env' h' → Dn.ct σ' H'
  | .ex e h' => ∀ C H' f', mg e = some (.ref C) → Step H f H' f' → HR K H' f' h' → LamX.Tabs T H' → E (.ref C) none H'
  | .no => False
def tS (m : SM) : TS := fun Dn σ H => ∃ env f h, SR K T σ H f env h ∧ PostS K T mg E H f (m env h) Dn
end
section
variable {K : PySem.W.Frag} {T : List (Addr × Str)} {mg : Str → Option Value} {E : XK} {H H1 : Hp} {f f1 : List Addr} {α β γ δ : Type} {rel : Hp → List Addr → α → β → Prop} {rel' : Hp → List Addr → γ → δ → Prop}
theorem PostG.later {r : R α} {Q : β → Hp → Prop} (s : Step H f H1 f1) (p : PostG K T mg E rel H f r Q) : PostG K T mg E rel H1 f1 r Q := by
  cases r with
  | ok d h' => exact fun v H' f' s' => p v H' f' (s.trans s')
  | ex e h' => exact fun C H' f' g s' => p C H' f' g (s.trans s')
  | no => exact p
theorem PostS.later {r : RS} {Dn : Ends} (s : Step H f H1 f1) (p : PostS K T mg E H f r Dn) : PostS K T mg E H1 f1 r Dn := by
  cases r with
  | nx env h' => exact fun v H' f' s' => p v H' f' (s.trans s')
  | bk env h' => exact fun v H' f' s' => p v H' f' (s.trans s')
  | ct env h' => exact fun v H' f' s' => p v H' f' (s.trans s')
  | rt d h' => exact fun v H' f' s' => p v H' f' (s.trans s')
  | ex e h' => exact fun C H' f' g s' => p C H' f' g (s.trans s')
  | no => exact p
theorem PostG.bind {r : R α} {k : α → Hh → R γ} {Q : δ → Hp → Prop} {Q1 : β → Hp → Prop} (p : PostG K T mg E rel' H f (r.bind k) Q)
    (go : ∀ d h1 v H1 f1, Step H f H1 f1 → rel H1 f1 d v → HR K H1 f1 h1 → LamX.Tabs T H1 → PostG K T mg E rel' H1 f1 (k d h1) Q → Q1 v H1) : PostG K T mg E rel H f r Q1 := by
  cases r with
  | ok d h1 => exact fun v H1 f1 s a b c => go d h1 v H1 f1 s a b c (PostG.later s p)
  | ex e h1 => exact p
  | no => exact p
def R.bindS {α : Type} (r : R α) (k : α → Hh → RS) : RS := match r with
  | .ok a h => k a h
  | .ex e h => .ex e h
  | .no => .no
theorem PostG.bindS {r : R α} {k : α → Hh → RS} {Dn : Ends} {Q1 : β → Hp → Prop} (p : PostS K T mg E H f (r.bindS k) Dn)
    (go : ∀ d h1 v H1 f1, Step H f H1 f1 → rel H1 f1 d v → HR K H1 f1 h1 → LamX.Tabs T H1 → PostS K T mg E H1 f1 (k d h1) Dn → Q1 v H1) : PostG K T mg E rel H f r Q1 := by
  cases r with
  | ok d h1 => exact fun v H1 f1 s a b c => go d h1 v H1 f1 s a b c (PostS.later s p)
  | ex e h1 => exact p
  | no => exact p
theorem PostG.now {d : α} {h : Hh} {v : β} {Q : β → Hp → Prop} (p : PostG K T mg E rel H f (.ok d h) Q) (r : rel H f d v) (hr : HR K H f h) (tb : LamX.Tabs T H) : Q v H := p v H f Step.refl r hr tb
theorem PostS.nx {env : Env'} {h : Hh} {σ : St} {Dn : Ends} (p : PostS K T mg E H f (.nx env h) Dn) (S : SR K T σ H f env h) : Dn.nx σ H := p σ H f Step.refl S
end

/-! ## weakening -/
section
variable {X : Cx}
theorem _root_.L2.PE.imp {e : Expr} {t t' : TE} (p : PE X e t) (h : ∀ σ H Q, t' σ H Q → t σ H Q) : PE X e t' := ⟨fun pins s σ H Q I q => p.run pins s σ H Q I (h σ H Q q)⟩
theorem _root_.L2.PT.imp {e : Expr} {t t' : TT} (p : PT X e t) (h : ∀ σ H Q, t' σ H Q → t σ H Q) : PT X e t' := ⟨fun pins s σ H Q I q => p.run pins s σ H Q I (h σ H Q q)⟩
theorem _root_.L2.PW.imp {e : Expr} {t t' : TT} (p : PW X e t) (h : ∀ σ H Q, t' σ H Q → t σ H Q) : PW X e t' := ⟨fun w pins s σ H Q I q => p.run w pins s σ H Q I (h σ H Q q)⟩
theorem _root_.L2.PA.imp {e : List Expr} {t t' : TA} (p : PA X e t) (h : ∀ σ H Q, t' σ H Q → t σ H Q) : PA X e t' := ⟨fun pos pins s σ H Q I q => p.run pos pins s σ H Q I (h σ H Q q)⟩
theorem _root_.L2.PS.imp {e : Stmt} {t t' : TS} (p : PS X e t) (h : ∀ Dn σ H, t' Dn σ H → t Dn σ H) : PS X e t' := ⟨fun pins s σ H Dn I q => p.run pins s σ H Dn I (h Dn σ H q)⟩
theorem _root_.L2.PSs.imp {e : List Stmt} {t t' : TS} (p : PSs X e t) (h : ∀ Dn σ H, t' Dn σ H → t Dn σ H) : PSs X e t' := ⟨fun pins s σ H Dn I q => p.run pins s σ H Dn I (h Dn σ H q)⟩
theorem _root_.L2.OpR.imp {g : Value → Value → Sem Value} {r r' : R2} (p : OpR X g r) (h : ∀ x y H Q, r' x y H Q → r x y H Q) : OpR X g r' := fun pins s σ H x y v u Q I rx ry q => p pins s σ H x y v u Q I rx ry (h x y H Q q)
theorem _root_.L2.UnR.imp {g : Value → Sem Value} {r r' : V → Hp → VK → Prop} (p : UnR X g r) (h : ∀ x H Q, r' x H Q → r x H Q) : UnR X g r' := fun pins s σ H x v Q I rx q => p pins s σ H x v Q I rx (h x H Q q)
theorem _root_.L2.CallR.imp {g : Value} {r r' : List V → Hp → VK → Prop} (p : CallR X g r) (h : ∀ x H Q, r' x H Q → r x H Q) : CallR X g r' := fun pins s σ H x v Q I rx q => p pins s σ H x v Q I rx (h x H Q q)
theorem _root_.L2.MtR.imp {id : String} {r r' : V → List V → Hp → VK → Prop} (p : MtR X id r) (h : ∀ x y H Q, r' x y H Q → r x y H Q) : MtR X id r' := fun pins s σ H x y v u Q I rx ry q => p pins s σ H x y v u Q I rx ry (h x y H Q q)
end

/-! ## names, constants, two-place operations -/
def mV (i : Nat) : EM := fun env h => match env[i]? with
  | some (some d) => .ok d h
  | _ => .no
def mC (d : D) : EM := fun _ h => .ok d h
def mBin (p : D → D → Hh → R D) (a b : EM) : EM := fun env h => (a env h).bind fun x h1 => (b env h1).bind fun y h2 => p x y h2
def mUn (p : D → Hh → R D) (a : EM) : EM := fun env h => (a env h).bind fun x h1 => p x h1
section
variable (K : PySem.W.Frag) (T : List (Addr × Str)) (mg : Str → Option Value) (E : XK)
/-- an operation's reading by its meaning -/
def rP (p : D → D → Hh → R D) : R2 := fun x y H Q => ∃ d e f h, VR K H f d x ∧ VR K H f e y ∧ HR K H f h ∧ LamX.Tabs T H ∧ PostE K T mg E H f (p d e h) Q
def rP1 (p : D → Hh → R D) : V → Hp → VK → Prop := fun x H Q => ∃ d f h, VR K H f d x ∧ HR K H f h ∧ LamX.Tabs T H ∧ PostE K T mg E H f (p d h) Q
def rPA (p : List D → Hh → R D) : List V → Hp → VK → Prop := fun xs H Q => ∃ ds f h, VRs K H f ds xs ∧ HR K H f h ∧ LamX.Tabs T H ∧ PostE K T mg E H f (p ds h) Q
def rPM (p : D → List D → Hh → R D) : V → List V → Hp → VK → Prop := fun x xs H Q => ∃ d ds f h, VR K H f d x ∧ VRs K H f ds xs ∧ HR K H f h ∧ LamX.Tabs T H ∧ PostE K T mg E H f (p d ds h) Q
end
section
variable {X : Cx} {T : List (Addr × Str)} {E : XK} {pos : Pos} {a b c : Expr} {ma mb mc : EM}
abbrev XE (X : Cx) (T : List (Addr × Str)) (E : XK) (e : Expr) (m : EM) : Prop := PE X e (tE X.K T X.mg E m)
abbrev XT (X : Cx) (T : List (Addr × Str)) (E : XK) (e : Expr) (m : EM) : Prop := PT X e (tTest (tE X.K T X.mg E m))
abbrev XS (X : Cx) (T : List (Addr × Str)) (E : XK) (e : Stmt) (m : SM) : Prop := PS X e (tS X.K T X.mg E m)
abbrev XB (X : Cx) (T : List (Addr × Str)) (E : XK) (e : List Stmt) (m : SM) : Prop := PSs X e (tS X.K T X.mg E m)
abbrev XA (X : Cx) (T : List (Addr × Str)) (E : XK) (e : List Expr) (m : AM) : Prop := PA X e (tA X.K T X.mg E m)

theorem T_v (i : Nat) {x : Str} (hN : X.N[i]? = some x := by rfl) (hv : Vis X.env.scope x := by first | exact Or.inl rfl | exact Or.inr (Or.inl rfl) | exact Or.inr (Or.inr rfl)) (hd : (x == ("__debug__" : Str)) = false := by decide)
    (hcd : (x == ("__classdict__" : Str)) = false := by decide) : XE X T E (.Name x pos) (mV i) :=
  (pe_var hN hv hd hcd).imp fun σ H Q ⟨env, f, h, S, p⟩ => by
    unfold mV at p
    cases q : env[i]? with
    | none => rw [q] at p; exact p.elim
    | some o =>
      cases o with
      | none => rw [q] at p; exact p.elim
      | some d =>
        rw [q] at p
        obtain ⟨v, e, r⟩ := S.er.get i d q
        exact ⟨v, e, PostG.now p r S.hr S.tb⟩
theorem tC_of {v : V} {d : D} (hd : ∀ H f, VR X.K H f d v) {e : Expr} (p : PE X e (tC v)) : XE X T E e (mC d) :=
  p.imp fun σ H Q ⟨env, f, h, S, p⟩ => PostG.now p (hd H f) S.hr S.tb
theorem T_int {i j} : XE X T E (.Constant (.int i) j pos) (mC (.int i)) := tC_of (fun _ _ => .int i) pe_int
theorem T_bl {i j} : XE X T E (.Constant (.bool i) j pos) (mC (.bl i)) := tC_of (fun _ _ => .bl i) pe_bl
theorem T_non {j} : XE X T E (.Constant .none j pos) (mC .non) := tC_of (fun _ _ => .non) pe_non
theorem T_str {x j} : XE X T E (.Constant (.str x) j pos) (mC (.str x)) := tC_of (fun _ _ => .str x) pe_str
/-- a module's number -/
theorem T_glI {x : Str} {i : Int} {t : Tok} (hg : Gl X x) (hm : X.mg x = some (.int i t)) (hd : (x == ("__debug__" : Str)) = false := by decide) : XE X T E (.Name x pos) (mC (.int i)) :=
  tC_of (fun _ _ => .int i) (pe_glob (v := .int i) hg hm ⟨t, rfl⟩ hd)
/-- two places -/
theorem two {ta : TE} {tb : TE} {r : R2} {p : D → D → Hh → R D} (hr : ∀ x y H Q, rP X.K T X.mg E p x y H Q → r x y H Q) {σ : St} {H : Hp} {Q : VK}
    (q : tE X.K T X.mg E (mBin p ma mb) σ H Q) : tOp r (tE X.K T X.mg E ma) (tE X.K T X.mg E mb) σ H Q := by
  obtain ⟨env, f, h, S, p⟩ := q
  refine ⟨env, f, h, S, PostG.bind p fun d1 h1 v1 H1 f1 s1 r1 hr1 tb1 p1 => ?_⟩
  refine ⟨env, f1, h1, S.step s1 hr1 tb1, PostG.bind p1 fun d2 h2 v2 H2 f2 s2 r2 hr2 tb2 p2 => ?_⟩
  exact hr _ _ _ _ ⟨d1, d2, f2, h2, r1.step s2, r2, hr2, tb2, p2⟩
theorem T_bin {op : Operator} {p : D → D → Hh → R D} (ho : OpR X (binaryOp op) (rP X.K T X.mg E p)) (ha : XE X T E a ma) (hb : XE X T E b mb) : XE X T E (.BinOp a op b pos) (mBin p ma mb) :=
  (pe_op ho ha hb).imp fun σ H Q q => two (ta := tE X.K T X.mg E ma) (tb := tE X.K T X.mg E mb) (fun _ _ _ _ q => q) q
theorem T_cmp {op : CmpOp} {p : D → D → Hh → R D} (ho : OpR X (compareOp op) (rP X.K T X.mg E p)) (ha : XE X T E a ma) (hb : XE X T E b mb) (hm : behindInMarks op b = false := by first | exact nomark _ | rfl) : XE X T E (.Compare a [op] [b] pos) (mBin p ma mb) :=
  (pe_cmpR ho ha hb hm).imp fun σ H Q q => two (ta := tE X.K T X.mg E ma) (tb := tE X.K T X.mg E mb) (fun _ _ _ _ q => q) q
theorem TT_cmp {op : CmpOp} {p : D → D → Hh → R D} (ho : OpR X (compareOp op) (rP X.K T X.mg E p)) (ha : XE X T E a ma) (hb : XE X T E b mb) (hm : behindInMarks op b = false := by first | exact nomark _ | rfl) : XT X T E (.Compare a [op] [b] pos) (mBin p ma mb) :=
  (pt_cmpR ho ha hb hm).imp fun σ H Q q => two (ta := tE X.K T X.mg E ma) (tb := tE X.K T X.mg E mb) (fun _ _ _ _ q => q) q
theorem T_un {op : UnaryOp} {p : D → Hh → R D} (ho : UnR X (unaryOp op) (rP1 X.K T X.mg E p)) (ha : XE X T E a ma) : XE X T E (.UnaryOp op a pos) (mUn p ma) :=
  (pe_un ho ha).imp fun σ H Q ⟨env, f, h, S, p⟩ => ⟨env, f, h, S, PostG.bind p fun d1 h1 v1 H1 f1 s1 r1 hr1 tb1 p1 => ⟨d1, f1, h1, r1, hr1, tb1, p1⟩⟩
/-- a op1 b op2 c -/
def mChain (p q : D → D → Hh → R D) (a b c : EM) : EM := fun env h => (a env h).bind fun x h1 => (b env h1).bind fun y h2 => (p x y h2).bind fun z h3 => match z with
  | .bl true => (c env h3).bind fun w h4 => q y w h4
  | .bl false => .ok (.bl false) h3
  | _ => .no
theorem chain_ok {p q : D → D → Hh → R D} {σ : St} {H : Hp} {Q : VK} (z : tE X.K T X.mg E (mChain p q ma mb mc) σ H Q) :
    tChain (rP X.K T X.mg E p) (rP X.K T X.mg E q) (tE X.K T X.mg E ma) (tE X.K T X.mg E mb) (tE X.K T X.mg E mc) σ H Q := by
  obtain ⟨env, f, h, S, p⟩ := z
  refine ⟨env, f, h, S, PostG.bind p fun d1 h1 v1 H1 f1 s1 r1 hr1 tb1 p1 => ?_⟩
  refine ⟨env, f1, h1, S.step s1 hr1 tb1, PostG.bind p1 fun d2 h2 v2 H2 f2 s2 r2 hr2 tb2 p2 => ?_⟩
  refine ⟨d1, d2, f2, h2, r1.step s2, r2, hr2, tb2, PostG.bind p2 fun d3 h3 v3 H3 f3 s3 r3 hr3 tb3 p3 => ?_⟩
  cases r3 with
  | bl k =>
    refine ⟨k, rfl, ?_⟩
    cases k with
    | true =>
      refine iteT ⟨env, f3, h3, S.step ((s1.trans s2).trans s3) hr3 tb3, PostG.bind p3 fun d4 h4 v4 H4 f4 s4 r4 hr4 tb4 p4 => ?_⟩
      exact ⟨d2, d4, f4, h4, (r2.step s3).step s4, r4, hr4, tb4, p4⟩
    | false => exact iteF (PostG.now p3 (.bl false) hr3 tb3)
  | _ => exact p3.elim
theorem T_chain {op op' : CmpOp} {p q : D → D → Hh → R D} (ho : OpR X (compareOp op) (rP X.K T X.mg E p)) (ho' : OpR X (compareOp op') (rP X.K T X.mg E q)) (ha : XE X T E a ma) (hb : XE X T E b mb) (hc : XE X T E c mc)
    (hm : lastMarks [op, op'] [b, c] = false := by with_unfolding_all rfl) : XE X T E (.Compare a [op, op'] [b, c] pos) (mChain p q ma mb mc) := (pe_chain ho ho' ha hb hc hm).imp fun σ H Q z => chain_ok z
theorem TT_chain {op op' : CmpOp} {p q : D → D → Hh → R D} (ho : OpR X (compareOp op) (rP X.K T X.mg E p)) (ho' : OpR X (compareOp op') (rP X.K T X.mg E q)) (ha : XE X T E a ma) (hb : XE X T E b mb) (hc : XE X T E c mc)
    (hm : lastMarks [op, op'] [b, c] = false := by with_unfolding_all rfl) : XT X T E (.Compare a [op, op'] [b, c] pos) (mChain p q ma mb mc) := (pt_chain ho ho' ha hb hc hm).imp fun σ H Q z => chain_ok z

/-! ## truth, and, or, not, if -/
def pTruO (h : Hh) : Option Ob → R D
  | some (.lst ds) => .ok (.bl (!ds.isEmpty)) h
  | some (.dK kvs) => .ok (.bl (!kvs.isEmpty)) h
  | _ => .no
def pTru : D → Hh → R D
  | .non, h => .ok (.bl false) h
  | .bl b, h => .ok (.bl b) h
  | .int i, h => .ok (.bl (i != 0)) h
  | .str s, h => if s.length ≤ sizeLine then .ok (.bl ((s.length : Int) != 0)) h else .no
  | .tup ds, h => .ok (.bl (!ds.isEmpty)) h
  | .scr ns, h => .ok (.bl (!ns.isEmpty)) h
  | .ref i, h => pTruO h h[i]?
theorem isEmpty_len {α β : Type} {xs : List α} {ys : List β} (h : xs.length = ys.length) : xs.isEmpty = ys.isEmpty := by
  cases xs <;> cases ys <;> first | rfl | cases h
theorem tru_of {H : Hp} {f : List Addr} {h : Hh} {d : D} {v : V} {Q : VK} (r : VR X.K H f d v) (hr : HR X.K H f h) (tb : LamX.Tabs T H) (p : PostE X.K T X.mg E H f (pTru d h) Q) : ∃ k, TruV X.K v H k ∧ Q (.bl k) H := by
  cases r with
  | non => exact ⟨false, rfl, PostG.now p (.bl false) hr tb⟩
  | bl b => exact ⟨b, rfl, PostG.now p (.bl b) hr tb⟩
  | int i => exact ⟨_, rfl, PostG.now p (.bl _) hr tb⟩
  | str s =>
    dsimp only [pTru] at p
    by_cases hs : s.length ≤ sizeLine
    · rw [if_pos hs] at p; exact ⟨_, ⟨hs, rfl⟩, PostG.now p (.bl _) hr tb⟩
    · rw [if_neg hs] at p; exact p.elim
  | tup ht hv => exact ⟨_, .inr (.inl ⟨_, ht.t, by rw [isEmpty_len hv.len.symm]⟩), PostG.now p (.bl _) hr tb⟩
  | scr hs => exact ⟨_, .inl ⟨_, hs.sq, rfl⟩, by
      have q := PostG.now p (.bl _) hr tb
      rw [show (List.map V.int _).isEmpty = _ from isEmpty_len (List.length_map ..)]; exact q⟩
  | ref e =>
    rename_i i a
    have p : PostE X.K T X.mg E H f (pTruO h h[i]?) Q := p
    cases q : h[i]? with
    | none => rw [q] at p; exact p.elim
    | some o =>
      rw [q] at p
      obtain ⟨b, e1, w⟩ := hr.ob i o q
      rw [e] at e1; cases e1
      cases o with
      | lst ds =>
        obtain ⟨vs, e2, r2⟩ := w
        exact ⟨_, .inl ⟨vs, SqL.of e2, by rw [isEmpty_len r2.len.symm]⟩, PostG.now p (.bl _) hr tb⟩
      | dK kvs =>
        obtain ⟨kws, e2, hk, r2⟩ := w
        refine ⟨_, .inr (.inr ⟨kws, e2, ?_⟩), PostG.now p (.bl _) hr tb⟩
        have := congrArg List.length hk
        rw [List.length_map, List.length_map] at this
        rw [isEmpty_len this.symm]
      | lk kvs => exact p.elim
theorem TT_tru (ha : XE X T E a ma) (he : ∀ whole, isTrue a X.env whole = (do let v ← whole; standAt a.pos; holding [v] (truthy v)) := by intro _; rfl) : XT X T E a (mUn pTru ma) :=
  (pt_truth ha he).imp fun σ H Q ⟨env, f, h, S, p⟩ => ⟨env, f, h, S, PostG.bind p fun d1 h1 v1 H1 f1 s1 r1 hr1 tb1 p1 => by
    obtain ⟨k, e1, q⟩ := tru_of r1 hr1 tb1 p1
    obtain ⟨k', e2, q⟩ := q
    cases e2
    exact ⟨k, e1, q⟩⟩
def mAnd (a b : EM) : EM := fun env h => (a env h).bind fun x h1 => match x with
  | .bl true => b env h1
  | .bl false => .ok (.bl false) h1
  | _ => .no
def mOr (a b : EM) : EM := fun env h => (a env h).bind fun x h1 => match x with
  | .bl false => b env h1
  | .bl true => .ok (.bl true) h1
  | _ => .no
def mNot (a : EM) : EM := fun env h => (a env h).bind fun x h1 => match x with
  | .bl b => .ok (.bl (!b)) h1
  | _ => .no
def mIte (c a b : EM) : EM := fun env h => (c env h).bind fun x h1 => match x with
  | .bl true => a env h1
  | .bl false => b env h1
  | _ => .no
/-- a test of a bool: the two ways -/
theorem test2 {σ : St} {H : Hp} {f : List Addr} {env : Env'} {h : Hh} {k : D → Hh → R D} {Q : VK} {R' : Bool → Hp → Prop} (S : SR X.K T σ H f env h) (p : PostE X.K T X.mg E H f ((ma env h).bind k) Q)
    (hn : ∀ d h1, (∀ b, d ≠ .bl b) → k d h1 = .no)
    (go : ∀ b h1 H1 f1, Step H f H1 f1 → SR X.K T σ H1 f1 env h1 → PostE X.K T X.mg E H1 f1 (k (.bl b) h1) Q → R' b H1) : tTest (tE X.K T X.mg E ma) σ H R' :=
  ⟨env, f, h, S, PostG.bind p fun d1 h1 v1 H1 f1 s1 r1 hr1 tb1 p1 => by
    cases r1 with
    | bl b => exact ⟨b, rfl, go b h1 H1 f1 s1 (S.step s1 hr1 tb1) p1⟩
    | _ => rw [hn _ _ (fun b z => by cases z)] at p1; exact p1.elim⟩
theorem TT_and {rest : List Expr} (ha : XT X T E a ma) (hb : PW X (.BoolOp .And (b :: rest) pos) (tTest (tE X.K T X.mg E mb))) : PW X (.BoolOp .And (a :: b :: rest) pos) (tTest (tE X.K T X.mg E (mAnd ma mb))) :=
  (pw_and ha hb).imp fun σ H Q ⟨env, f, h, S, p⟩ => test2 S p (fun d h1 n => by cases d <;> first | rfl | exact absurd rfl (n _)) fun k h1 H1 f1 s1 S1 p1 => by
    cases k with
    | true => exact iteT ⟨env, f1, h1, S1, p1⟩
    | false => obtain ⟨k', e, q⟩ := PostG.now p1 (.bl false) S1.hr S1.tb; cases e; exact iteF q
theorem TT_or {rest : List Expr} (ha : XT X T E a ma) (hb : PW X (.BoolOp .Or (b :: rest) pos) (tTest (tE X.K T X.mg E mb))) : PW X (.BoolOp .Or (a :: b :: rest) pos) (tTest (tE X.K T X.mg E (mOr ma mb))) :=
  (pw_or ha hb).imp fun σ H Q ⟨env, f, h, S, p⟩ => test2 S p (fun d h1 n => by cases d <;> first | rfl | exact absurd rfl (n _)) fun k h1 H1 f1 s1 S1 p1 => by
    cases k with
    | false => exact iteF ⟨env, f1, h1, S1, p1⟩
    | true => obtain ⟨k', e, q⟩ := PostG.now p1 (.bl true) S1.hr S1.tb; cases e; exact iteT q
theorem TT_and1 (ha : XT X T E a ma) : PW X (.BoolOp .And [a] pos) (tTest (tE X.K T X.mg E ma)) := pw_and1 ha
theorem TT_or1 (ha : XT X T E a ma) : PW X (.BoolOp .Or [a] pos) (tTest (tE X.K T X.mg E ma)) := pw_or1 ha
theorem TT_not (ha : XT X T E a ma) : XT X T E (.UnaryOp .Not a pos) (mNot ma) :=
  (pt_not ha).imp fun σ H Q ⟨env, f, h, S, p⟩ => test2 S p (fun d h1 n => by cases d <;> first | rfl | exact absurd rfl (n _)) fun k h1 H1 f1 s1 S1 p1 => by
    obtain ⟨k', e, q⟩ := PostG.now p1 (.bl (!k)) S1.hr S1.tb; cases e; exact q
theorem T_not (ha : XE X T E a ma) : XE X T E (.UnaryOp .Not a pos) (mNot (mUn pTru ma)) :=
  (pe_notT ha).imp fun σ H Q ⟨env, f, h, S, p⟩ => ⟨env, f, h, S, by
    have p' : PostE X.K T X.mg E H f ((ma env h).bind fun x h1 => (pTru x h1).bind fun x h2 => match x with
      | .bl b => .ok (.bl (!b)) h2
      | _ => .no) Q := by
      have e : mNot (mUn pTru ma) env h = ((ma env h).bind fun x h1 => (pTru x h1).bind fun x h2 => match x with
        | .bl b => .ok (.bl (!b)) h2
        | _ => .no) := by unfold mNot mUn; cases ma env h <;> rfl
      rw [e] at p; exact p
    exact PostG.bind p' fun d1 h1 v1 H1 f1 s1 r1 hr1 tb1 p1 => by
      refine tru_of (Q := fun v H => ∃ k, v = .bl k ∧ Q (.bl (!k)) H) r1 hr1 tb1 (PostG.bind p1 fun d2 h2 v2 H2 f2 s2 r2 hr2 tb2 p2 => ?_) |>.imp fun k ⟨e1, k', e2, q⟩ => ?_
      · cases r2 with
        | bl b => exact ⟨b, rfl, PostG.now p2 (.bl _) hr2 tb2⟩
        | _ => exact p2.elim
      · cases e2; exact ⟨e1, q⟩⟩
theorem T_and {rest : List Expr} (ha : XE X T E a ma) (hb : XE X T E (.BoolOp .And (b :: rest) pos) mb) : XE X T E (.BoolOp .And (a :: b :: rest) pos) (mAnd ma mb) :=
  (pe_and ha hb).imp fun σ H Q ⟨env, f, h, S, p⟩ => ⟨env, f, h, S, PostG.bind p fun d1 h1 v1 H1 f1 s1 r1 hr1 tb1 p1 => by
    cases r1 with
    | bl k =>
      refine ⟨k, rfl, ?_⟩
      cases k with
      | true => exact iteT ⟨env, f1, h1, S.step s1 hr1 tb1, p1⟩
      | false => exact iteF (PostG.now p1 (.bl false) hr1 tb1)
    | _ => exact p1.elim⟩
theorem T_or {rest : List Expr} (ha : XE X T E a ma) (hb : XE X T E (.BoolOp .Or (b :: rest) pos) mb) : XE X T E (.BoolOp .Or (a :: b :: rest) pos) (mOr ma mb) :=
  (pe_or ha hb).imp fun σ H Q ⟨env, f, h, S, p⟩ => ⟨env, f, h, S, PostG.bind p fun d1 h1 v1 H1 f1 s1 r1 hr1 tb1 p1 => by
    cases r1 with
    | bl k =>
      refine ⟨k, rfl, ?_⟩
      cases k with
      | false => exact iteF ⟨env, f1, h1, S.step s1 hr1 tb1, p1⟩
      | true => exact iteT (PostG.now p1 (.bl true) hr1 tb1)
    | _ => exact p1.elim⟩
theorem T_one {op} (ha : XE X T E a ma) : XE X T E (.BoolOp op [a] pos) ma := pe_one ha
theorem T_ite (hc : XT X T E c mc) (ha : XE X T E a ma) (hb : XE X T E b mb) : XE X T E (.IfExp c a b pos) (mIte mc ma mb) :=
  (pe_ifExp hc ha hb).imp fun σ H Q ⟨env, f, h, S, p⟩ => test2 S p (fun d h1 n => by cases d <;> first | rfl | exact absurd rfl (n _)) fun k h1 H1 f1 s1 S1 p1 => by
    cases k with
    | true => exact iteT ⟨env, f1, h1, S1, p1⟩
    | false => exact iteF ⟨env, f1, h1, S1, p1⟩
end
end CB

set_option maxRecDepth 100000
set_option maxHeartbeats 4000000
namespace CB
open PySem PySem.Spec
open L2

/-! ## tuples that are made: without a dict of their own -/
section
variable {X : Cx} {pos : Pos}
abbrev tupOb (its : List Value) : Obj := { cls := .type "tuple", data := .seq its.toArray }
theorem laid_tup {pins : List (Addr × Obj)} {σ : L2.St} {H : Hp} {s : Shared} {xs : List V} {its : List Value} (I : L2.Inv X pins σ H s) (r : Vals xs its) (hz : xs.length ≤ sizeLine) :
    L2.Inv X pins σ (upd H s.heap.objs.size (.frz (tupOb its) (.tup xs))) { s with heap := s.heap.push (tupOb its) } :=
  I.laid (t' := s.toks) (o := .frz (tupOb its) (.tup xs)) (fun b ob q => Heap.get?_push_of_some _ q) (Nat.le_refl _) ⟨Heap.get?_push_size _ rfl, hz, its, r, PyProof.Rows.IsTup.new _ _⟩
abbrev Zt (H : Hp) (Q : VK) (xs : List V) : Prop := ∀ p o, H p = none → o.dict = none → Q (.ref p) (upd H p (.frz o (.tup xs)))
theorem ep_tup {pins : List (Addr × Obj)} {σ : L2.St} {H : Hp} {s : Shared} {xs : List V} {its : List Value} {Q : VK} (I : L2.Inv X pins σ H s) (r : Vals xs its) (hz : xs.length ≤ sizeLine) (q : Zt H Q xs) :
    EP X pins σ Q (.ref s.heap.objs.size) { s with heap := s.heap.push (tupOb its) } := ⟨.ref s.heap.objs.size, _, laid_tup I r hz, rfl, q _ _ (I.hok.fresh (Nat.le_refl _)) rfl⟩
def tTupZ (t : TA) : TE := fun σ H Q => t σ H fun xs H1 => xs.length ≤ sizeLine ∧ Zt H1 Q xs
theorem pe_tupZ {es : List Expr} {t : TA} {x1} (h : PA X es t) : PE X (.Tuple es x1 pos) (tTupZ t) := by
  refine ⟨fun pins s σ H Q I hq => ?_⟩
  refine wpAny_Tuple_spliced (thn (h.run pos pins s σ H _ I hq) fun us s1 ⟨xs, H1, I1, r, z, q⟩ => ⟨by rw [← r.length]; exact z, ?_⟩)
  exact ep_tup I1 r z q
def rCatZ (K : PySem.W.Frag) : R2 := fun x y H Q => ∃ a b xs ys, x = .ref a ∧ y = .ref b ∧ SqT K H a xs ∧ SqT K H b ys ∧ xs.length + ys.length ≤ sizeLine ∧
  (xs = [] → Q (.ref b) H) ∧ (xs ≠ [] → ys = [] → Q (.ref a) H) ∧ (xs ≠ [] → ys ≠ [] → Zt H Q (xs ++ ys))
theorem op_catZ : OpR X (binaryOp .Add) (rCatZ X.K) := by
  intro pins s σ H x y v u Q I rx ry h
  obtain ⟨a, b, xs, ys, rfl, rfl, ha, hb, hz, q0, q1, q2⟩ := h
  cases rx
  cases ry
  obtain ⟨its, r1, p1, _⟩ := I.tuple ha
  obtain ⟨its2, r2, p2, _⟩ := I.tuple hb
  by_cases hx : xs = []
  · subst hx
    cases r1
    exact cat_tup0 p1 p2 ⟨.ref b, H, I, rfl, q0 rfl⟩
  · refine HT.cat_tup p1 p2 (fun z => hx (r1.nil_iff.mp z)) (fun z => ⟨.ref a, H, I, rfl, q1 hx (r2.nil_iff.mp z)⟩) (fun z => ?_) (by rw [← r1.length, ← r2.length]; exact hz)
    exact ep_tup I (r1.append r2) (by rw [List.length_append]; exact hz) (q2 hx (fun w => z (r2.nil_iff.mpr w)))
def rSlZ (K : PySem.W.Frag) : V → Option Int → Option Int → Hp → VK → Prop := fun x lo hi H Q => ∃ a xs, x = .ref a ∧ SqT K H a xs ∧
  (HT.sIx xs.length 0 lo = 0 ∧ HT.sIx xs.length xs.length hi = xs.length → Q (.ref a) H) ∧ (¬ (HT.sIx xs.length 0 lo = 0 ∧ HT.sIx xs.length xs.length hi = xs.length) → Zt H Q (cutV xs lo hi))
theorem sl_tupZ : SlR X (rSlZ X.K) := by
  intro pins s σ H x v vl vu lo hi sl Q I rx hs pl pu h
  obtain ⟨a, xs, rfl, hx, q1, q2⟩ := h
  cases rx
  obtain ⟨its, r, ht, hz⟩ := I.tuple hx
  have hlen : its.toArray.size = xs.length := by rw [List.size_toArray]; exact r.length.symm
  by_cases hw : HT.sIx xs.length 0 lo = 0 ∧ HT.sIx xs.length xs.length hi = xs.length
  · refine ⟨"tuple", _, PyProof.Rows.slot_tuple_getitem.lookup, ht.typeIs, ?_⟩
    exact getItem_tuple_whole ht hs pl pu (by rw [hlen]; exact hw) ⟨.ref a, H, I, rfl, q1 hw⟩
  · refine ⟨"tuple", _, PyProof.Rows.slot_tuple_getitem.lookup, ht.typeIs, ?_⟩
    refine HT.getItem_tuple_cut ht hs pl pu (by rw [hlen]; exact hw) ?_ (by rw [hlen]; exact hz)
    rw [hlen]
    exact ep_tup I ((r.drop (HT.sIx xs.length 0 lo)).take (HT.sIx xs.length xs.length hi - HT.sIx xs.length 0 lo)) (Nat.le_trans (cutV_length xs lo hi) hz) (q2 hw)
theorem call_tupleZ : CallR X (.type "tuple") (fun xs H Q => ∃ p ys, xs = [.ref p] ∧ ((SqL X.K H p ys ∧ Zt H Q ys) ∨ (SqT X.K H p ys ∧ Q (.ref p) H))) := by
  intro pins s σ H xs us Q I r h
  obtain ⟨p, ys, rfl, h⟩ := h
  obtain ⟨u, rfl, rx⟩ := vals1 r
  cases rx
  rcases h with ⟨hq, q⟩ | ⟨hq, q⟩
  · obtain ⟨its, r', pl, hz⟩ := I.list hq
    have hlen := r'.length
    refine call_tuple_list pl.isList (fun h' kp => ?_) (by simp only [List.size_toArray] <;> omega)
    have I1 : L2.Inv X pins σ H { s with heap := h' } := I.kept (t' := s.toks) kp
    exact ep_tup (s := { s with heap := h' }) I1 r' hz q
  · obtain ⟨its, r', pl, hz⟩ := I.tuple hq
    exact call_tuple_same pl ⟨.ref p, H, I, rfl, q⟩
end
end CB

set_option maxRecDepth 100000
namespace CB
open PySem PySem.Spec
open L2

/-! ## equality of data -/
mutual
def D.beq : D → D → Bool
  | .non, .non => true
  | .bl a, .bl b => a == b
  | .int a, .int b => a == b
  | .str a, .str b => decide (a = b)
  | .tup xs, .tup ys => D.beqs xs ys
  | .scr a, .scr b => a == b
  | .ref a, .ref b => a == b
  | _, _ => false
def D.beqs : List D → List D → Bool
  | [], [] => true
  | x :: xs, y :: ys => D.beq x y && D.beqs xs ys
  | _, _ => false
end
mutual
theorem D.beq_iff : ∀ a b : D, D.beq a b = true ↔ a = b
  | .non, b => by cases b <;> simp [D.beq]
  | .bl x, b => by cases b <;> simp [D.beq]
  | .int x, b => by cases b <;> simp [D.beq]
  | .str x, b => by cases b <;> simp [D.beq]
  | .tup xs, b => by cases b <;> simp [D.beq, D.beqs_iff xs]
  | .scr x, b => by cases b <;> simp [D.beq]
  | .ref x, b => by cases b <;> simp [D.beq]
theorem D.beqs_iff : ∀ a b : List D, D.beqs a b = true ↔ a = b
  | [], b => by cases b <;> simp [D.beqs]
  | x :: xs, b => by cases b <;> simp [D.beqs, D.beq_iff x, D.beqs_iff xs]
end
instance : DecidableEq D := fun a b => decidable_of_iff _ (D.beq_iff a b)
theorem D.beq_dec (a b : D) : D.beq a b = decide (a = b) := by
  rw [Bool.eq_iff_iff, D.beq_iff, decide_eq_true_iff]
mutual
def D.pd : D → PyData
  | .non => .none
  | .bl b => .bool b
  | .int i => .int i
  | .str s => .str s
  | .tup ds => .tuple (D.pds ds)
  | .scr _ => .none
  | .ref _ => .none
def D.pds : List D → List PyData
  | [] => []
  | d :: ds => D.pd d :: D.pds ds
end
/-! plain data: no bool, nothing changeable, not deep -/
mutual
def D.pl : D → Nat → Bool
  | .non, _ => true
  | .bl _, _ => false
  | .int _, _ => true
  | .str s, _ => PyData.strOk s
  | .tup ds, n => match n with
    | 0 => false
    | n + 1 => D.pls ds n
  | .scr _, _ => false
  | .ref _, _ => false
def D.pls : List D → Nat → Bool
  | [], _ => true
  | d :: ds, n => D.pl d n && D.pls ds n
end
mutual
theorem D.eqv_pd : ∀ (a b : D) (n m : Nat), D.pl a n = true → D.pl b m = true → PyData.eqv a.pd b.pd = D.beq a b
  | .non, b, n, m, ha, hb => by cases b <;> simp_all [D.pl, D.pd, D.beq, PyData.eqv]
  | .bl x, b, n, m, ha, hb => by simp [D.pl] at ha
  | .int x, b, n, m, ha, hb => by cases b <;> simp_all [D.pl, D.pd, D.beq, PyData.eqv]
  | .str x, b, n, m, ha, hb => by
    cases b <;> simp_all [D.pl, D.pd, D.beq, PyData.eqv]
    rw [Bool.eq_iff_iff]; simp
  | .tup xs, b, n, m, ha, hb => by
    cases b with
    | tup ys =>
      cases n with
      | zero => simp [D.pl] at ha
      | succ n =>
        cases m with
        | zero => simp [D.pl] at hb
        | succ m =>
          simp only [D.pl] at ha hb
          simp only [D.pd, D.beq, PyData.eqv]
          exact D.eqv_pds xs ys n m ha hb
    | _ => simp_all [D.pl, D.pd, D.beq, PyData.eqv]
  | .scr x, b, n, m, ha, hb => by simp [D.pl] at ha
  | .ref x, b, n, m, ha, hb => by simp [D.pl] at ha
theorem D.eqv_pds : ∀ (a b : List D) (n m : Nat), D.pls a n = true → D.pls b m = true → PyData.eqvAll (D.pds a) (D.pds b) = D.beqs a b
  | [], b, n, m, ha, hb => by cases b <;> simp [D.pds, D.beqs, PyData.eqvAll]
  | x :: xs, b, n, m, ha, hb => by
    cases b with
    | nil => simp [D.pds, D.beqs, PyData.eqvAll]
    | cons y ys =>
      simp only [D.pls, Bool.and_eq_true] at ha hb
      simp only [D.pds, D.beqs, PyData.eqvAll]
      rw [D.eqv_pd x y n m ha.1 hb.1, D.eqv_pds xs ys n m ha.2 hb.2]
end
mutual
theorem D.lay_pd : ∀ (a : D) (n : Nat), D.pl a n = true → PyData.canLay0 a.pd = true ∧ a.pd.depth ≤ n
  | .non, n, h => by simp [D.pd, PyData.canLay0, PyData.depth]
  | .bl x, n, h => by simp [D.pl] at h
  | .int x, n, h => by simp [D.pd, PyData.canLay0, PyData.depth]
  | .str x, n, h => by simp [D.pl] at h; simp [D.pd, PyData.canLay0, PyData.depth, h]
  | .tup xs, n, h => by
    cases n with
    | zero => simp [D.pl] at h
    | succ n =>
      simp only [D.pl] at h
      have q := D.lay_pds xs n h
      simp only [D.pd, PyData.canLay0, PyData.depth]
      exact ⟨q.1, by have := q.2; omega⟩
  | .scr x, n, h => by simp [D.pl] at h
  | .ref x, n, h => by simp [D.pl] at h
theorem D.lay_pds : ∀ (a : List D) (n : Nat), D.pls a n = true → PyData.canLayAll0 (D.pds a) = true ∧ PyData.depthAll (D.pds a) ≤ n
  | [], n, h => by simp [D.pds, PyData.canLayAll0, PyData.depthAll]
  | x :: xs, n, h => by
    simp only [D.pls, Bool.and_eq_true] at h
    have q1 := D.lay_pd x n h.1
    have q2 := D.lay_pds xs n h.2
    simp only [D.pds, PyData.canLayAll0, PyData.depthAll, Bool.and_eq_true]
    exact ⟨⟨q1.1, q2.1⟩, by have := q1.2; have := q2.2; omega⟩
end
theorem D.shaped_pd {a : D} {n : Nat} (h : D.pl a n = true) (hn : n ≤ 64) : SeqAt.shaped a.pd = true := by
  have q := D.lay_pd a n h
  unfold SeqAt.shaped
  rw [q.1, decide_eq_true (Nat.le_trans q.2 hn)]
  rfl
mutual
theorem VR.dp {K : PySem.W.Frag} {H : Hp} {f : List Addr} : ∀ {d : D} {v : V} {n : Nat}, VR K H f d v → D.pl d n = true → Dp K H v d.pd
  | _, _, _, .non, _ => .non
  | _, _, _, .bl b, h => by simp [D.pl] at h
  | _, _, _, .int i, _ => .int i
  | _, _, _, .str x, _ => .str x
  | _, _, 0, .tup ht hv, h => by simp [D.pl] at h
  | _, _, n + 1, .tup ht hv, h => .tup ht.t (VRs.dps (n := n) hv (by simpa [D.pl] using h))
  | _, _, _, .scr _, h => by simp [D.pl] at h
  | _, _, _, .ref _, h => by simp [D.pl] at h
theorem VRs.dps {K : PySem.W.Frag} {H : Hp} {f : List Addr} : ∀ {ds : List D} {vs : List V} {n : Nat}, VRs K H f ds vs → D.pls ds n = true → DpAll K H vs (D.pds ds)
  | _, _, _, .nil, _ => .nil
  | _, _, n, .cons a b, h => by
    simp only [D.pls, Bool.and_eq_true] at h
    exact .cons (VR.dp a h.1) (VRs.dps b h.2)
end

/-! ## argument lists, displays -/
def LN : Nat := 16777216
theorem LN_eq : sizeLine = LN := sizeLine_eq
def mNil : AM := fun _ h => .ok [] h
def mCons (a : EM) (r : AM) : AM := fun env h => (a env h).bind fun d h1 => (r env h1).bind fun ds h2 => .ok (d :: ds) h2
def mTup (r : AM) : EM := fun env h => (r env h).bind fun ds h1 => if ds.length ≤ LN then .ok (.tup ds) h1 else .no
def mLst (r : AM) : EM := fun env h => (r env h).bind fun ds h1 => if ds.length ≤ LN then .ok (.ref h1.length) (h1 ++ [.lst ds]) else .no
def mCall (p : List D → Hh → R D) (r : AM) : EM := fun env h => (r env h).bind fun ds h1 => p ds h1
section
variable {X : Cx} {T : List (Addr × Str)} {E : XK} {pos : Pos} {a b c : Expr} {es : List Expr} {ma mb mc : EM} {ms : AM} {H : Hp} {f : List Addr} {h : Hh} {Q : VK}
theorem post_tup {ds : List D} {vs : List V} (p : PostE X.K T X.mg E H f (.ok (.tup ds) h) Q) (r : VRs X.K H f ds vs) (hr : HR X.K H f h) (tb : LamX.Tabs T H) : Zt H Q vs := fun q o n hd =>
  p (.ref q) _ f (Step.fresh n) (.tup (.mk upd_same hd) (r.step (Step.fresh n))) (hr.fresh n) (tabs_alloc tb n)
theorem post_lst {ds : List D} {vs : List V} (p : PostE X.K T X.mg E H f (.ok (.ref h.length) (h ++ [.lst ds])) Q) (r : VRs X.K H f ds vs) (hr : HR X.K H f h) (tb : LamX.Tabs T H) : ∀ q, H q = none → Q (.ref q) (upd H q (.lst vs)) := fun q n =>
  p (.ref q) _ (f ++ [q]) (Step.alloc n) (.ref (by rw [← hr.len, List.getElem?_append_right (Nat.le_refl _), Nat.sub_self]; rfl)) (hr.alloc n ⟨vs, upd_same, r.step (Step.alloc n)⟩) (tabs_alloc tb n)
theorem T_nil : XA X T E [] mNil := pa_nil.imp fun σ H Q ⟨env, f, h, S, p⟩ => PostG.now p .nil S.hr S.tb
theorem T_cons (ha : XE X T E a ma) (hr : XA X T E es ms) (hs : starEach (a :: es) X.env = (false, eval a X.env) :: starEach es X.env := by rfl) : XA X T E (a :: es) (mCons ma ms) :=
  (pa_cons ha hr hs).imp fun σ H Q ⟨env, f, h, S, p⟩ => ⟨env, f, h, S, PostG.bind p fun d1 h1 v1 H1 f1 s1 r1 hr1 tb1 p1 =>
    ⟨env, f1, h1, S.step s1 hr1 tb1, PostG.bind p1 fun d2 h2 v2 H2 f2 s2 r2 hr2 tb2 p2 => PostG.now p2 (.cons (r1.step s2) r2) hr2 tb2⟩⟩
theorem T_tup {k : Nat} (h : XA X T E es ms) : XE X T E (.Tuple es k pos) (mTup ms) :=
  (pe_tupZ h).imp fun σ H Q ⟨env, f, h, S, p⟩ => ⟨env, f, h, S, PostG.bind p fun d1 h1 v1 H1 f1 s1 r1 hr1 tb1 p1 => by
    by_cases hl : d1.length ≤ LN
    · rw [if_pos hl] at p1
      exact ⟨by rw [LN_eq, ← r1.len]; exact hl, post_tup p1 r1 hr1 tb1⟩
    · rw [if_neg hl] at p1; exact p1.elim⟩
theorem T_lst (h : XA X T E es ms) : XE X T E (.List es pos) (mLst ms) :=
  (pe_lst h).imp fun σ H Q ⟨env, f, h, S, p⟩ => ⟨env, f, h, S, PostG.bind p fun d1 h1 v1 H1 f1 s1 r1 hr1 tb1 p1 => by
    by_cases hl : d1.length ≤ LN
    · rw [if_pos hl] at p1
      exact ⟨by rw [LN_eq, ← r1.len]; exact hl, post_lst p1 r1 hr1 tb1⟩
    · rw [if_neg hl] at p1; exact p1.elim⟩
/-- a built-in by its name, a built-in class -/
theorem T_blt {id : String} {x : Str} {px : Pos} {p : List D → Hh → R D} (hc : CallR X (.builtin id) (rPA X.K T X.mg E p)) (hg : Gl X x) (hm : X.mg x = none) (hv : bootBuiltins x = some (.builtin id)) (ha : XA X T E (a :: es) ms) (hn : x ≠ "__name__" := by decide) (hdb : (x == ("__debug__" : Str)) = false := by decide)
    (he : starEach (a :: es) X.env = (false, eval a X.env) :: starEach es X.env := by rfl) (hpl : (backTo pos (starEach es X.env)).any (·.1) = false := by rfl) : XE X T E (.Call (.Name x px) (a :: es) [] pos) (mCall p ms) :=
  (pe_callB hc hg hm hv ha hn hdb he hpl).imp fun σ H Q ⟨env, f, h, S, p⟩ => ⟨env, f, h, S, PostG.bind p fun d1 h1 v1 H1 f1 s1 r1 hr1 tb1 p1 => ⟨d1, f1, h1, r1, hr1, tb1, p1⟩⟩
theorem T_ty {id : String} {x : Str} {px : Pos} {p : List D → Hh → R D} (hc : CallR X (.type id) (rPA X.K T X.mg E p)) (hg : Gl X x) (hm : X.mg x = none) (hv : bootBuiltins x = some (.type id)) (ha : XA X T E (a :: es) ms) (hn : x ≠ "__name__" := by decide) (hdb : (x == ("__debug__" : Str)) = false := by decide)
    (he : starEach (a :: es) X.env = (false, eval a X.env) :: starEach es X.env := by rfl) (hpl : (backTo pos (starEach es X.env)).any (·.1) = false := by rfl) : XE X T E (.Call (.Name x px) (a :: es) [] pos) (mCall p ms) :=
  (pe_callTy hc hg hm hv ha hn hdb he hpl).imp fun σ H Q ⟨env, f, h, S, p⟩ => ⟨env, f, h, S, PostG.bind p fun d1 h1 v1 H1 f1 s1 r1 hr1 tb1 p1 => ⟨d1, f1, h1, r1, hr1, tb1, p1⟩⟩

/-! ## what is promised of a def -/
def spM (K : PySem.W.Frag) (T : List (Addr × Str)) (mg : Str → Option Value) (n : Nat) (φ : List D → Hh → R D) : Sp := fun vs H Q E => ∃ ds f h, ds.length = n ∧ VRs K H f ds vs ∧ HR K H f h ∧ LamX.Tabs T H ∧ PostE K T mg E H f (φ ds h) Q
/-- a call of a def -/
theorem T_call {k : Nat} {fa : Addr} {fd : FuncData} {ps : List Str} {φ : List D → Hh → R D} {x : Str} {px : Pos} {n : Nat} (F : FnOk X.prog X.w X.K X.mg X.base (L2.CX X.prog X.w) k fa fd ps (spM X.K T X.mg n φ)) (hr : Room k X.A) (hg : Gl X x) (hm : X.mg x = some (.ref fa)) (hk : PySem.W.keepIn X.K (.ref fa) = true) (hb : Binds X.K fd ps [])
    (tk : Takes X (fun c d _ H => E c d H)) (ha : XA X T E (a :: es) ms) (hn : (a :: es).length = n) (hml : ∀ env h ds h', ms env h = .ok ds h' → ds.length = (a :: es).length) (hdb : (x == ("__debug__" : Str)) = false := by decide)
    (he : starEach (a :: es) X.env = (false, eval a X.env) :: starEach es X.env := by rfl) (hpl : (backTo pos (starEach es X.env)).any (·.1) = false := by rfl) : XE X T E (.Call (.Name x px) (a :: es) [] pos) (mCall φ ms) :=
  (pe_call F hr hg hm hk hb .nil (passes_call tk (E := E) fun _ _ _ _ h => h) ha hdb he hpl).imp fun σ H Q ⟨env, f, h, S, p⟩ => ⟨env, f, h, S, by
    have key : ∀ {d1 h1}, ms env h = .ok d1 h1 → d1.length = n := fun e => (hml _ _ _ _ e).trans hn
    cases q : ms env h with
    | ok d1 h1 =>
      unfold mCall at p
      rw [q] at p
      exact fun v1 H1 f1 s1 r1 hr1 tb1 => ⟨d1, f1, h1, key q, by rw [List.append_nil]; exact r1, hr1, tb1, PostG.later s1 p⟩
    | ex e h1 => unfold mCall at p; rw [q] at p; exact p
    | no => unfold mCall at p; rw [q] at p; exact p⟩
theorem T_call0 {k : Nat} {fa : Addr} {fd : FuncData} {ps : List Str} {φ : List D → Hh → R D} {x : Str} {px : Pos} (F : FnOk X.prog X.w X.K X.mg X.base (L2.CX X.prog X.w) k fa fd ps (spM X.K T X.mg 0 φ)) (hr : Room k X.A) (hg : Gl X x) (hm : X.mg x = some (.ref fa)) (hk : PySem.W.keepIn X.K (.ref fa) = true) (hb : Binds X.K fd ps [])
    (tk : Takes X (fun c d _ H => E c d H)) (hdb : (x == ("__debug__" : Str)) = false := by decide) : XE X T E (.Call (.Name x px) [] [] pos) (fun env h => φ [] h) :=
  (pe_call0 F hr hg hm hk hb .nil (passes_call tk (E := E) fun _ _ _ _ h => h) hdb).imp fun σ H Q ⟨env, f, h, S, p⟩ => ⟨[], f, h, rfl, .nil, S.hr, S.tb, p⟩
end
theorem mNil_len : ∀ env h ds h', mNil env h = .ok ds h' → ds.length = 0 := fun env h ds h' e => by
  unfold mNil at e; cases e; rfl
theorem mCons_len {ma : EM} {ms : AM} {n : Nat} (h : ∀ env h ds h', ms env h = .ok ds h' → ds.length = n) : ∀ env h ds h', mCons ma ms env h = .ok ds h' → ds.length = n + 1 := fun env h0 ds h' e => by
  unfold mCons at e
  cases q : ma env h0 with
  | ok d h1 =>
    rw [q] at e
    cases q2 : ms env h1 with
    | ok ds2 h2 =>
      have e : R.bind (ms env h1) (fun ds h2 => .ok (d :: ds) h2) = R.ok ds h' := e
      rw [q2] at e
      cases e
      rw [List.length_cons, h _ _ _ _ q2]
    | ex e1 h2 => have e : R.bind (ms env h1) (fun ds h2 => .ok (d :: ds) h2) = R.ok ds h' := e; rw [q2] at e; cases e
    | no => have e : R.bind (ms env h1) (fun ds h2 => .ok (d :: ds) h2) = R.ok ds h' := e; rw [q2] at e; cases e
  | ex e1 h2 => rw [q] at e; cases e
  | no => rw [q] at e; cases e
end CB

set_option maxRecDepth 100000
namespace CB
open PySem PySem.Spec
open L2

/-! ## sequences by value -/
def getL (h : Hh) (i : Nat) : Option (List D) := match h[i]? with
  | some (.lst ds) => some ds
  | _ => none
theorem getL_iff {h : Hh} {i : Nat} {ds : List D} : getL h i = some ds ↔ h[i]? = some (.lst ds) := by
  unfold getL
  cases h[i]? with
  | none => simp
  | some o => cases o <;> simp
def seqOf (h : Hh) : D → Option (List D)
  | .tup ds => some ds
  | .scr ns => some (ns.map D.int)
  | .ref i => getL h i
  | _ => none
section
variable {K : PySem.W.Frag} {T : List (Addr × Str)} {mg : Str → Option Value} {E : XK} {H : Hp} {f : List Addr} {h : Hh} {Q : VK} {d e : D} {v : V} {a : Addr} {i : Nat} {ds : List D}
theorem HR.getL (R : HR K H f h) (e : f[i]? = some a) (g : getL h i = some ds) : ∃ vs, H a = some (.lst vs) ∧ VRs K H f ds vs := by
  obtain ⟨b, vs, e1, e2, r⟩ := R.lst (getL_iff.mp g)
  rw [e] at e1; cases e1
  exact ⟨vs, e2, r⟩
theorem VR.seq (r : VR K H f d v) (hr : HR K H f h) (g : seqOf h d = some ds) : ∃ a vs, v = .ref a ∧ (SqL K H a vs ∨ SqT K H a vs) ∧ VRs K H f ds vs := by
  cases r with
  | tup ht hv => cases g; exact ⟨_, _, rfl, .inr ht.t, hv⟩
  | scr hs => cases g; exact ⟨_, _, rfl, .inl hs.sq, .ints⟩
  | ref e =>
    obtain ⟨vs, e2, r⟩ := hr.getL e g
    exact ⟨_, vs, rfl, .inl (SqL.of e2), r⟩
  | _ => cases g
/-- a result that changes nothing -/
theorem post_v {v : V} (p : PostE K T mg E H f (.ok d h) Q) (r : VR K H f d v) (hr : HR K H f h) (tb : LamX.Tabs T H) : Q v H := PostG.now p r hr tb
/-- a list is written -/
theorem post_set {d : D} {v : V} {vs ws : List V} {es : List D} (p : PostE K T mg E H f (.ok d (h.set i (.lst es))) Q) (e : f[i]? = some a) (ha : H a = some (.lst vs)) (hr : HR K H f h) (tb : LamX.Tabs T H) (r : VRs K H f es ws)
    (rv : VR K (upd H a (.lst ws)) f d v) : Q v (upd H a (.lst ws)) := by
  have s : Step H f (upd H a (.lst ws)) f := Step.write hr e ha rfl (fun ps z => by cases z)
  exact p v _ f s rv (hr.write e ha rfl (fun ps z => by cases z) ⟨ws, upd_same, r.step s⟩) (tabs_write tb ha rfl (fun ps z => by cases z))
theorem post_setD {d : D} {v : V} {kws : List (Key × V)} {kws' : List (Key × V)} {kvs : List (Key × D)} (p : PostE K T mg E H f (.ok d (h.set i (.dK kvs))) Q) (e : f[i]? = some a) (ha : H a = some (.dK kws)) (hr : HR K H f h) (tb : LamX.Tabs T H)
    (hk : kws'.map (·.1) = kvs.map (·.1)) (r : VRs K H f (kvs.map (·.2)) (kws'.map (·.2))) (rv : VR K (upd H a (.dK kws')) f d v) : Q v (upd H a (.dK kws')) := by
  have s : Step H f (upd H a (.dK kws')) f := Step.write hr e ha rfl (fun ps z => by cases z)
  exact p v _ f s rv (hr.write e ha rfl (fun ps z => by cases z) ⟨kws', upd_same, hk, r.step s⟩) (tabs_write tb ha rfl (fun ps z => by cases z))
end

/-! ## raw rules that lack -/
section
variable {prog : Program} {w : World} {A : Around} {E : Value → Shared → Prop} {s : Shared}
theorem adjust_rev (n : Nat) : Builtin.Slice.sliceAdjust none none (-1) (n : Int) = ((n : Int) - 1, -1) := by
  unfold Builtin.Slice.sliceAdjust
  rfl
theorem places_rev (n : Nat) : Builtin.Slice.slicePlaces ((n : Int) - 1) (-1) (-1) = n := by
  unfold Builtin.Slice.slicePlaces
  simp only [show ¬ ((-1 : Int) > 0) by omega, if_false]
  have e : ∀ x : Int, x / 1 = x := fun x => Int.ediv_one x
  simp only [Int.neg_neg, e]
  split <;> omega
theorem pick_rev (xs : Array Value) : ((List.range xs.size).filterMap fun (m : Nat) => xs[(((xs.size : Nat) : Int) - 1 + (m : Int) * (-1)).toNat]?).toArray = xs.toList.reverse.toArray := by
  congr 1
  have e : ∀ m ∈ List.range xs.size, xs[(((xs.size : Nat) : Int) - 1 + (m : Int) * (-1)).toNat]? = (xs.toList.reverse)[m]? := fun m hm => by
    have hm := List.mem_range.mp hm
    rw [List.getElem?_reverse (by simpa using hm), Array.length_toList]
    have : (((xs.size : Nat) : Int) - 1 + (m : Int) * (-1)).toNat = xs.size - 1 - m := by omega
    rw [this, ← Array.getElem?_toList]
  have cg : ∀ (l : List Nat) (p q : Nat → Option Value), (∀ m ∈ l, p m = q m) → l.filterMap p = l.filterMap q := fun l p q => by
    induction l with
    | nil => intro _; rfl
    | cons x l ih => intro hh; rw [List.filterMap_cons, List.filterMap_cons, hh x List.mem_cons_self, ih fun m hm => hh m (List.mem_cons_of_mem _ hm)]
  rw [cg _ _ _ e]
  have g : ∀ l : List Value, (List.range l.length).filterMap (fun m => l[m]?) = l := fun l => by
    induction l with
    | nil => rfl
    | cons x l ih =>
      rw [List.length_cons, List.range_succ_eq_map, List.filterMap_cons, List.filterMap_map]
      simp only [List.getElem?_cons_zero]
      congr 1
  have := g xs.toList.reverse
  rw [List.length_reverse, Array.length_toList] at this
  exact this
theorem getItem_tuple_rev {t sl : Addr} {items : Array Value} {vl vu : Value} {u : Tok} {Q : Value → Shared → Prop} (ht : PyProof.Rows.IsTup s.heap t items) (hs : s.heap.IsSliceOf sl vl vu (.int (-1) u)) (pl : IsPart vl none) (pu : IsPart vu none)
    (h : Q (.ref s.heap.objs.size) { s with heap := s.heap.push { cls := .type "tuple", data := .seq items.toList.reverse.toArray } })
    (hsz : items.size ≤ sizeLine) : wpAny (model prog w) A (getItem (.ref t) (.ref sl)) Q E s := by
  have htake : sizeOk (.seq items.toList.reverse.toArray) := by
    show items.toList.reverse.toArray.size ≤ sizeLine
    rw [List.size_toArray, List.length_reverse, Array.length_toList]
    exact hsz
  obtain ⟨os, hos, hcs, hds⟩ := id hs
  have hTs : s.TypeIs (.ref sl) "slice" := ⟨os, hos, hcs⟩
  unfold getItem
  try with_reducible refine wpAny_holding ?_
  first | refine wpAny_bind (wpAny_pure ?_) | skip
  refine wpAny_bind (wpAny_sequenceKey ht.typeIs (by decide) ?_)
  refine wpAny_bind (wpAny_callSpecial?_slot (name := Str.ofString "__getitem__") ht.typeIs PyProof.Rows.slot_tuple_getitem
    (wpAny_call_entry PyProof.Rows.slot_tuple_getitem ht.typeIs PyProof.Rows.entry_tuple_getitem ?_ (PyProof.Rows.args_tuple_getitem _ _)))
  show wpAny _ _ (Builtin.Tuple.tupleItemsOf (.ref t) >>= _) _ _ s
  refine wpAny_bind (PyProof.Rows.tupleItemsOf_ ht ?_)
  refine wpAny_bind (wpAny_typeOf hTs ?_)
  rw [if_pos (by decide)]
  have hap : ∀ Q' : Int × Int × Nat → Shared → Prop, Q' ((items.size : Int) - 1, -1, items.size) s → wpAny (model prog w) A.in1 (Builtin.Slice.sliceApplied (.ref sl) (pure (items.size : Int))) Q' E s := fun Q' q => by
    unfold Builtin.Slice.sliceApplied Builtin.Slice.sliceFields
    refine wpAny_bind (wpAny_bind (wpAny_field hos hds (x := vl) rfl (wpAny_bind (wpAny_field hos hds (x := vu) rfl (wpAny_bind (wpAny_field hos hds (x := .int (-1) u) rfl (wpAny_pure ?_)))))))
    refine wpAny_bind (HT.slicePart_ (.int (-1) u) ?_)
    show wpAny _ _ (if ((-1 : Int) == 0) = true then _ else _) _ _ s
    rw [if_neg (by decide)]
    refine wpAny_bind (HT.slicePart_ pl (wpAny_bind (HT.slicePart_ pu (wpAny_bind (wpAny_pure ?_)))))
    show wpAny _ _ (match Builtin.Slice.sliceAdjust none none (-1) (items.size : Int) with | (lo, hi) => pure (lo, (-1 : Int), Builtin.Slice.slicePlaces lo hi (-1))) _ _ s
    rw [adjust_rev]
    show wpAny _ _ (pure ((items.size : Int) - 1, (-1 : Int), Builtin.Slice.slicePlaces ((items.size : Int) - 1) (-1) (-1))) _ _ s
    rw [places_rev]
    exact wpAny_pure q
  refine wpAny_bind (hap _ ?_)
  have hno : ¬ ((((items.size : Int) - 1) == 0 && (-1 : Int) == 1 && items.size == items.size) = true) := by
    intro q
    rw [Bool.and_eq_true, Bool.and_eq_true] at q
    exact absurd q.1.2 (by decide)
  show wpAny _ _ (if (((items.size : Int) - 1) == 0 && (-1 : Int) == 1 && items.size == items.size) = true then _ else _) _ _ s
  rw [if_neg hno, pick_rev]
  first
    | exact wpAny_bind (m := Builtin.Tuple.tupleExact _) (wpAny_newObj_type (wpAny_pure ⟨_, rfl, wpAny_pure h⟩) htake)
    | exact wpAny_bind (m := Builtin.Tuple.tupleExact _) (wpAny_newObj_type (wpAny_bind (wpAny_pure (wpAny_pure ⟨_, rfl, wpAny_pure h⟩))) htake)
    | exact wpAny_bind (wpAny_bind (m := Builtin.Tuple.tupleExact _) (wpAny_newObj_type (wpAny_pure (wpAny_pure ⟨_, rfl, wpAny_pure h⟩)) htake))
    | exact wpAny_bind (wpAny_bind (m := Builtin.Tuple.tupleExact _) (wpAny_newObj_type (wpAny_pure ⟨_, rfl, wpAny_pure h⟩) htake))
end
section
variable {X : Cx} {T : List (Addr × Str)} {E : XK}
def tRevA (K : PySem.W.Frag) (te : TE) : TE := fun σ H Q => te σ H fun x H1 => ∃ a xs, x = .ref a ∧ ((SqL K H1 a xs ∧ ∀ p, H1 p = none → Q (.ref p) (upd H1 p (.lst xs.reverse))) ∨ (SqT K H1 a xs ∧ Zt H1 Q xs.reverse))
theorem pe_revA {e : Expr} {te : TE} {k : Nat} {p1 p2 p3 pos : Pos} (he : PE X e te) : PE X (.Subscript e (.Slice none none (some (.UnaryOp .USub (.Constant (.int 1) k p1) p2)) p3) pos) (tRevA X.K te) := by
  refine ⟨fun pins s σ H Q I h => ?_⟩
  refine PyProof.Rows.Subscript_ (thn (he.run pins s σ H _ I h) fun v s1 ⟨x, H1, I1, r1, q1⟩ => ?_)
  obtain ⟨a, xs, ex, q1⟩ := q1
  subst ex
  cases r1
  have hst : PO X (some (.UnaryOp .USub (.Constant (.int 1) k p1) p2)) (tPart (tUn (rU fun i => .int (-i)) (tC (.int 1)))) := po_some (pe_un un_neg pe_int)
  refine wpAny_Slice (thn (po_none.run pins s1 σ H1 (fun o H2 => o = none ∧ H2 = H1) I1 ⟨rfl, rfl⟩) fun vl s2 ⟨l, H2, I2, pl, el, e2⟩ => ?_)
  subst el e2
  refine thn (po_none.run pins s2 σ H2 (fun o H3 => o = none ∧ H3 = H2) I2 ⟨rfl, rfl⟩) fun vu s3 ⟨u, H3, I3, pu, eu, e3⟩ => ?_
  subst eu e3
  refine thn (hst.run pins s3 σ H3 (fun o H4 => o = some (-1) ∧ H4 = H3) I3 ⟨1, rfl, -1, rfl, rfl, rfl⟩) fun vs s4 ⟨o, H4, I4, ps, eo, e4⟩ => ?_
  subst eo e4
  have I5 : Inv X pins σ H4 { s4 with heap := s4.heap.push { cls := .type "slice", data := .fields #[vl, vu, vs] } } := I4.kept (t' := s4.toks) fun b ob q => Heap.get?_push_of_some _ q
  show wpAny (model X.prog X.w) X.A (PyProof.Rows.subscriptTail e (.Slice none none (some (.UnaryOp .USub (.Constant (.int 1) k p1) p2)) p3) (.ref a) (.ref s4.heap.objs.size)) (EP X pins σ Q) X.xe { s4 with heap := s4.heap.push { cls := .type "slice", data := .fields #[vl, vu, vs] } }
  rcases q1 with ⟨hx, q⟩ | ⟨hx, q⟩
  · obtain ⟨its, r, ht, hz⟩ := I5.list hx
    have hlen := r.length
    refine PyProof.Rows.tail_any (ops := [.ref a, .ref s4.heap.objs.size]) ht.isList.typeIs (PySem.slot_list_getitem.lookup) ?_ (by with_unfolding_all rfl)
    refine wpAny_getItem_list_slice ht.isList (Heap.IsSliceOf.new _ vl vu vs) pl pu ps (by decide) ?_ (by rw [List.size_toArray]; omega)
    rw [PySem.W.krv_pick]
    refine ⟨.ref _, _, I5.laid (t' := s4.toks) (o := .lst xs.reverse) (fun b ob q => Heap.get?_push_of_some _ q) (Nat.le_refl _) ?_, rfl, q _ (I5.hok.fresh (Nat.le_refl _))⟩
    exact ⟨by rw [List.length_reverse]; exact hz, _, 0, r.reverse, Heap.get?_push_size _ rfl⟩
  · obtain ⟨its, r, ht, hz⟩ := I5.tuple hx
    have hlen := r.length
    cases ps with
    | int i t =>
      refine PyProof.Rows.tail_any (ops := [.ref a, .ref s4.heap.objs.size]) ht.typeIs (PyProof.Rows.slot_tuple_getitem.lookup) ?_ (by with_unfolding_all rfl)
      refine getItem_tuple_rev ht (Heap.IsSliceOf.new _ vl vu _) pl pu ?_ (by rw [List.size_toArray]; omega)
      exact ep_tup I5 r.reverse (by rw [List.length_reverse]; exact hz) q
end
end CB

set_option maxRecDepth 100000
namespace CB
open PySem PySem.Spec
open L2

/-! ## tuple * int, the odd cases -/
theorem tuple_mul_same (l : Addr) (items : Array Value) (n : Nat) (dd : Option Addr) (sl : Array (Option Value)) (x : Int) (u : Tok) (c0 : (decide (x < -(2 ^ 63)) || decide (x ≥ 2 ^ 63)) = false) (c1 : (items.isEmpty || x == 1) = true) :
    Meets (Builtin.«tuple.__mul__» ⟨[.ref l, .int x u], []⟩) (fun _ R s => s.heap.get? l = some { cls := .type "tuple", dict := dd, data := .seq items n, slots := sl } ∧ R (.ok (.ret (Value.ref l))) s) :=
  .of_wp fun prog w A R s h => by
    obtain ⟨hp, g, d, tk, os⟩ := s
    obtain ⟨hl, h⟩ := h
    have f1 := AutoSeq1.idx_int
    wp_walk using wpAny_loadPart' hl
    repeat (first
      | (refine wpAny_ite_false (decide_eq_false (by rw [c0]; exact Bool.false_ne_true)) ?_; wp_walk using wpAny_loadPart' hl)
      | (refine wpAny_ite_true (decide_eq_true c1) ?_; wp_walk using wpAny_loadPart' hl))
    exact ⟨_, rfl, h⟩
theorem tuple_mul_none (l : Addr) (items : Array Value) (n : Nat) (dd : Option Addr) (sl : Array (Option Value)) (x : Int) (u : Tok) (c0 : (decide (x < -(2 ^ 63)) || decide (x ≥ 2 ^ 63)) = false) (c1 : (items.isEmpty || x == 1) = false) (c2 : (decide (x ≤ 0) || items.isEmpty) = true) :
    Meets (Builtin.«tuple.__mul__» ⟨[.ref l, .int x u], []⟩) (fun _ R s => s.heap.get? l = some { cls := .type "tuple", dict := dd, data := .seq items n, slots := sl } ∧
      R (.ok (.ret (Value.ref s.heap.objs.size))) { s with heap := s.heap.push { cls := Value.type "tuple", data := Data.seq #[] }, toks := s.toks }) :=
  .of_wp fun prog w A R s h => by
    obtain ⟨hp, g, d, tk, os⟩ := s
    obtain ⟨hl, h⟩ := h
    have f1 := AutoSeq1.idx_int
    wp_walk using wpAny_loadPart' hl
    repeat (first
      | (refine wpAny_ite_false (decide_eq_false (by rw [c0]; exact Bool.false_ne_true)) ?_; wp_walk using wpAny_loadPart' hl)
      | (refine wpAny_ite_false (decide_eq_false (by rw [c1]; exact Bool.false_ne_true)) ?_; wp_walk using wpAny_loadPart' hl)
      | (refine wpAny_ite_true (decide_eq_true c2) ?_; wp_walk using wpAny_loadPart' hl))
    exact ⟨_, rfl, h⟩
def rRepA (K : PySem.W.Frag) : R2 := fun x y H Q => ∃ l k xs, x = .ref l ∧ y = .int k ∧ SqT K H l xs ∧ -1000 ≤ k ∧ k ≤ 1000 ∧ xs.length ≤ 1000 ∧ ((xs = [] ∨ k = 1) → Q (.ref l) H) ∧ (¬ (xs = [] ∨ k = 1) → Zt H Q (List.replicate k.toNat xs).flatten)
section
variable {X : Cx}
theorem op_repA : OpR X (binaryOp .Mult) (rRepA X.K) := by
  intro pins s σ H x y v u Q I rx ry h
  obtain ⟨l, k, xs, rfl, rfl, hT, h1, h2, hz, q1, q2⟩ := h
  cases rx
  obtain ⟨t, rfl⟩ := ry
  obtain ⟨its, r, ⟨⟨cls, dd, data, sl⟩, ho, hc, n, hd⟩, hs⟩ := I.tuple hT
  simp only at hc hd
  subst hc hd
  have hle : its.length = xs.length := r.length.symm
  by_cases hbig : xs ≠ [] ∧ 2 ≤ k
  · have hne : its ≠ [] := fun e => hbig.1 (by rw [e] at hle; exact List.eq_nil_of_length_eq_zero hle.symm)
    have hi : its.toArray.isEmpty = false := by
      cases its with
      | nil => exact absurd rfl hne
      | cons a b => rfl
    have hsz0 : its.toArray.size = xs.length := by rw [List.size_toArray, hle]
    have hm : ((its.toArray.size : Nat) : Int) * k ≤ 1000000 := by
      rw [hsz0]
      have a1 : ((xs.length : Nat) : Int) * k ≤ 1000 * k := Int.mul_le_mul_of_nonneg_right (by omega) (by omega)
      omega
    have flen : (List.replicate k.toNat its).flatten.length ≤ sizeLine := by
      rw [PyProof.Rows.lm_len_rep_flat, hle, sizeLine_eq]
      have a1 : k.toNat * xs.length ≤ 1000 * 1000 := Nat.mul_le_mul (by omega) hz
      omega
    have c0 : (decide (k < -(2 ^ 63)) || decide (k ≥ 2 ^ 63)) = false := by
      rw [decide_eq_false (by omega), decide_eq_false (by omega)] <;> rfl
    have c1 : (its.toArray.isEmpty || k == 1) = false := by
      rw [hi, Bool.false_or]
      exact beq_eq_false_iff_ne.mpr (by omega)
    have c2 : (decide (k ≤ 0) || its.toArray.isEmpty) = false := by
      rw [hi, Bool.or_false]
      exact decide_eq_false (by omega)
    have c4 : Builtin.Tuple.tupleTooMany (((its.toArray.size : Nat) : Int) * k) = false := by
      unfold Builtin.Tuple.tupleTooMany
      rw [sizeLine_eq]
      exact decide_eq_false (by omega)
    refine wpAny_binaryOp_repeat_ref (T := "tuple") (U := "int") (by decide) ⟨_, ho, rfl⟩ (fun s' => typeIs_int s' k t) noFill_tuple_mul F.fills_int_mul F.slot_int_rmul repeat_tuple F.slot_int_index.lookup
      (call_meets F.slot_int_rmul (typeIs_int s k t) F.entry_int_rmul (F.args_int_rmul_2 _ _) (int_rmul_tuple k t l its.toArray n dd sl)
        ⟨ho, rfl, ⟨_, ho, rfl⟩, call_meets F.slot_tuple_mul ⟨_, ho, rfl⟩ F.entry_tuple_mul (F.args_tuple_mul_2 _ _) (tuple_mulW l its.toArray n dd sl k t c0 c1 c2 (by omega) c4 (by rw [size_rep, List.size_toArray]; exact flen)) ⟨ho, ?_⟩⟩)
    rw [size_rep]
    exact ep_tup I (r.rep k.toNat) (by rw [PyProof.Rows.lm_len_rep_flat, sizeLine_eq]; have a1 : k.toNat * xs.length ≤ 1000 * 1000 := Nat.mul_le_mul (by omega) hz; omega) (q2 fun z => z.elim (fun z => hbig.1 z) (fun z => by omega))
  have hnil : its = [] ↔ xs = [] := by rw [← List.length_eq_zero_iff, ← List.length_eq_zero_iff, hle]
  have hi : its.toArray.isEmpty = decide (xs = []) := by
    cases its with
    | nil => rw [decide_eq_true (hnil.mp rfl)]; rfl
    | cons a b => rw [decide_eq_false (fun z => by have := hnil.mpr z; cases this)]; rfl
  have c0 : (decide (k < -(2 ^ 63)) || decide (k ≥ 2 ^ 63)) = false := by
    rw [decide_eq_false (by omega), decide_eq_false (by omega)] <;> rfl
  by_cases hsame : xs = [] ∨ k = 1
  · have c1 : (its.toArray.isEmpty || k == 1) = true := by
      rw [hi, Bool.or_eq_true]
      rcases hsame with z | z
      · exact .inl (decide_eq_true z)
      · exact .inr (beq_iff_eq.mpr z)
    refine wpAny_binaryOp_repeat_ref (T := "tuple") (U := "int") (by decide) ⟨_, ho, rfl⟩ (fun s' => typeIs_int s' k t) noFill_tuple_mul F.fills_int_mul F.slot_int_rmul repeat_tuple F.slot_int_index.lookup
      (call_meets F.slot_int_rmul (typeIs_int s k t) F.entry_int_rmul (F.args_int_rmul_2 _ _) (int_rmul_tuple k t l its.toArray n dd sl)
        ⟨ho, rfl, ⟨_, ho, rfl⟩, call_meets F.slot_tuple_mul ⟨_, ho, rfl⟩ F.entry_tuple_mul (F.args_tuple_mul_2 _ _) (tuple_mul_same l its.toArray n dd sl k t c0 c1) ⟨ho, ?_⟩⟩)
    exact ⟨.ref l, H, I, rfl, q1 hsame⟩
  · have n1 : ¬ xs = [] := fun z => hsame (.inl z)
    have n2 : k ≠ 1 := fun z => hsame (.inr z)
    have c1 : (its.toArray.isEmpty || k == 1) = false := by
      rw [hi, decide_eq_false n1, Bool.false_or]
      exact beq_eq_false_iff_ne.mpr n2
    have k0 : k ≤ 0 := by
      have : ¬ 2 ≤ k := fun z => hbig ⟨n1, z⟩
      omega
    have c2 : (decide (k ≤ 0) || its.toArray.isEmpty) = true := by rw [decide_eq_true k0]; rfl
    refine wpAny_binaryOp_repeat_ref (T := "tuple") (U := "int") (by decide) ⟨_, ho, rfl⟩ (fun s' => typeIs_int s' k t) noFill_tuple_mul F.fills_int_mul F.slot_int_rmul repeat_tuple F.slot_int_index.lookup
      (call_meets F.slot_int_rmul (typeIs_int s k t) F.entry_int_rmul (F.args_int_rmul_2 _ _) (int_rmul_tuple k t l its.toArray n dd sl)
        ⟨ho, rfl, ⟨_, ho, rfl⟩, call_meets F.slot_tuple_mul ⟨_, ho, rfl⟩ F.entry_tuple_mul (F.args_tuple_mul_2 _ _) (tuple_mul_none l its.toArray n dd sl k t c0 c1 c2) ⟨ho, ?_⟩⟩)
    have q := q2 hsame
    have e : List.replicate k.toNat xs = [] := by
      rw [show k.toNat = 0 by omega]; rfl
    rw [e] at q
    exact ep_tup I .nil (Nat.zero_le _) q
end

/-! ## two-place operations -/
def pAdd : D → D → Hh → R D
  | .int i, .int j, h => .ok (.int (i + j)) h
  | .tup xs, .tup ys, h => if xs.length + ys.length ≤ LN then .ok (.tup (xs ++ ys)) h else .no
  | .ref i, .ref j, h => match getL h i, getL h j with
    | some xs, some ys => if xs.length + ys.length ≤ LN then .ok (.ref h.length) (h ++ [.lst (xs ++ ys)]) else .no
    | _, _ => .no
  | _, _, _ => .no
def pSub : D → D → Hh → R D
  | .int i, .int j, h => .ok (.int (i - j)) h
  | _, _, _ => .no
def mulOk (i j : Int) : Bool := Nat.blt i.natAbs 18446744073709551616 || (Nat.blt j.natAbs 18446744073709551616 || decide (i.natAbs.log2 + j.natAbs.log2 < 1000000))
def pMul : D → D → Hh → R D
  | .int i, .int j, h => if mulOk i j then .ok (.int (i * j)) h else .no
  | .tup xs, .int k, h => if -1000 ≤ k ∧ k ≤ 1000 ∧ xs.length ≤ 1000 then .ok (.tup (List.replicate k.toNat xs).flatten) h else .no
  | .ref i, .int k, h => match getL h i with
    | some xs => if -1000 ≤ k ∧ k ≤ 1000 ∧ xs.length ≤ 1000 then .ok (.ref h.length) (h ++ [.lst (List.replicate k.toNat xs).flatten]) else .no
    | _ => .no
  | _, _, _ => .no
def pDiv : D → D → Hh → R D
  | .int i, .int j, h => if (j ≠ 0 ∧ j.natAbs < 1073741824) then .ok (.int (i.fdiv j)) h else if (0 < j ∧ j.natAbs.log2 < 9000) then .ok (.int (i / j)) h else .no
  | _, _, _ => .no
def pMod : D → D → Hh → R D
  | .int i, .int j, h => if j ≠ 0 then .ok (.int (i.fmod j)) h else .no
  | _, _, _ => .no
def pPow : D → D → Hh → R D
  | .int i, .int j, h => if (0 ≤ j ∧ j ≤ 1000000 ∧ i.natAbs < 2 ^ 64) then .ok (.int (i ^ j.toNat)) h else .no
  | _, _, _ => .no
def pNeg : D → Hh → R D
  | .int i, h => .ok (.int (-i)) h
  | _, _ => .no
section
variable {X : Cx} {T : List (Addr × Str)} {E : XK}
theorem o_add : OpR X (binaryOp .Add) (rP X.K T X.mg E pAdd) :=
  ((op_add.or op_catZ).or op_cat).imp fun x y H Q ⟨d, e, f, h, rx, ry, hr, tb, p⟩ => by
    cases rx with
    | int i => cases ry with
      | int j => exact .inl (.inl ⟨i, j, rfl, rfl, post_v p (.int _) hr tb⟩)
      | _ => exact p.elim
    | @tup a vs ds ht hv => cases ry with
      | @tup b ws es ht2 hv2 =>
        dsimp only [pAdd] at p
        by_cases hl : ds.length + es.length ≤ LN
        · rw [if_pos hl] at p
          refine .inl (.inr ⟨a, b, vs, ws, rfl, rfl, ht.t, ht2.t, by rw [LN_eq, ← hv.len, ← hv2.len]; exact hl, fun z => ?_, fun z z2 => ?_, fun z z2 => post_tup p (hv.app hv2) hr tb⟩)
          · subst z
            cases hv
            exact post_v p (.tup ht2 hv2) hr tb
          · subst z2
            cases hv2
            rw [List.append_nil] at p
            exact post_v p (.tup ht hv) hr tb
        · rw [if_neg hl] at p; exact p.elim
      | _ => exact p.elim
    | @ref i a e1 => cases ry with
      | @ref j b e2 =>
        dsimp only [pAdd] at p
        cases g1 : getL h i with
        | none => rw [g1] at p; exact p.elim
        | some xs =>
          cases g2 : getL h j with
          | none => rw [g1, g2] at p; exact p.elim
          | some ys =>
            rw [g1, g2] at p
            dsimp only at p
            by_cases hl : xs.length + ys.length ≤ LN
            · rw [if_pos hl] at p
              obtain ⟨vs, h1, r1⟩ := hr.getL e1 g1
              obtain ⟨ws, h2, r2⟩ := hr.getL e2 g2
              exact .inr ⟨a, b, vs, ws, rfl, rfl, h1, h2, by rw [LN_eq, ← r1.len, ← r2.len]; exact hl, post_lst p (r1.app r2) hr tb⟩
            · rw [if_neg hl] at p; exact p.elim
      | _ => exact p.elim
    | _ => cases ry <;> exact p.elim
theorem o_sub : OpR X (binaryOp .Sub) (rP X.K T X.mg E pSub) := op_sub.imp fun x y H Q ⟨d, e, f, h, rx, ry, hr, tb, p⟩ => by
  cases rx with
  | int i => cases ry with
    | int j => exact ⟨i, j, rfl, rfl, post_v p (.int _) hr tb⟩
    | _ => exact p.elim
  | _ => cases ry <;> exact p.elim
theorem o_mul : OpR X (binaryOp .Mult) (rP X.K T X.mg E pMul) :=
  (((op_mul.or op_mulW).or op_repA).or op_rep).imp fun x y H Q ⟨d, e, f, h, rx, ry, hr, tb, p⟩ => by
    cases rx with
    | int i => cases ry with
      | int j =>
        dsimp only [pMul] at p
        by_cases hm : mulOk i j = true
        · rw [if_pos hm] at p
          unfold mulOk at hm
          simp only [Bool.or_eq_true, Nat.blt_eq, decide_eq_true_eq] at hm
          have q := post_v p (.int _) hr tb
          rcases hm with hm | hm | hm
          · exact .inl (.inl (.inl ⟨i, j, rfl, rfl, .inl (by omega), q⟩))
          · exact .inl (.inl (.inl ⟨i, j, rfl, rfl, .inr (by omega), q⟩))
          · exact .inl (.inl (.inr ⟨i, j, rfl, rfl, hm, q⟩))
        · rw [if_neg hm] at p; exact p.elim
      | _ => exact p.elim
    | @tup a vs ds ht hv => cases ry with
      | int k =>
        dsimp only [pMul] at p
        by_cases hm : -1000 ≤ k ∧ k ≤ 1000 ∧ ds.length ≤ 1000
        · rw [if_pos hm] at p
          refine .inl (.inr ⟨a, k, vs, rfl, rfl, ht.t, hm.1, hm.2.1, by rw [← hv.len]; exact hm.2.2, fun z => ?_, fun z => post_tup p (hv.flatRep _) hr tb⟩)
          have e : (List.replicate k.toNat ds).flatten = ds := by
            rcases z with z | z
            · subst z; cases hv; simp
            · subst z; simp
          rw [e] at p
          exact post_v p (.tup ht hv) hr tb
        · rw [if_neg hm] at p; exact p.elim
      | _ => exact p.elim
    | @ref i a e1 => cases ry with
      | int k =>
        dsimp only [pMul] at p
        cases g1 : getL h i with
        | none => rw [g1] at p; exact p.elim
        | some xs =>
          rw [g1] at p
          dsimp only at p
          by_cases hm : -1000 ≤ k ∧ k ≤ 1000 ∧ xs.length ≤ 1000
          · rw [if_pos hm] at p
            obtain ⟨vs, h1, r1⟩ := hr.getL e1 g1
            refine .inr ⟨a, k, vs, rfl, rfl, h1, by omega, by omega, ?_, post_lst p (r1.flatRep _) hr tb⟩
            rw [LN_eq, ← r1.len]
            have a1 : xs.length * k.toNat ≤ 1000 * 1000 := Nat.mul_le_mul hm.2.2 (by omega)
            show _ ≤ 16777216
            omega
          · rw [if_neg hm] at p; exact p.elim
      | _ => exact p.elim
    | _ => cases ry <;> exact p.elim
theorem o_div : OpR X (binaryOp .FloorDiv) (rP X.K T X.mg E pDiv) := (op_fdivN.or op_fdivW).imp fun x y H Q ⟨d, e, f, h, rx, ry, hr, tb, p⟩ => by
  cases rx with
  | int i => cases ry with
    | int j =>
      dsimp only [pDiv] at p
      by_cases hm : (j ≠ 0 ∧ j.natAbs < 1073741824)
      · rw [if_pos hm] at p; exact .inl ⟨i, j, rfl, rfl, hm, post_v p (.int _) hr tb⟩
      · rw [if_neg hm] at p
        by_cases hm : (0 < j ∧ j.natAbs.log2 < 9000)
        · rw [if_pos hm] at p; exact .inr ⟨i, j, rfl, rfl, hm, post_v p (.int _) hr tb⟩
        · rw [if_neg hm] at p; exact p.elim
    | _ => exact p.elim
  | _ => cases ry <;> exact p.elim
theorem o_mod : OpR X (binaryOp .Mod) (rP X.K T X.mg E pMod) := op_modN.imp fun x y H Q ⟨d, e, f, h, rx, ry, hr, tb, p⟩ => by
  cases rx with
  | int i => cases ry with
    | int j =>
      dsimp only [pMod] at p
      by_cases hm : j ≠ 0
      · rw [if_pos hm] at p; exact ⟨i, j, rfl, rfl, hm, post_v p (.int _) hr tb⟩
      · rw [if_neg hm] at p; exact p.elim
    | _ => exact p.elim
  | _ => cases ry <;> exact p.elim
theorem o_pow : OpR X (binaryOp .Pow) (rP X.K T X.mg E pPow) := op_pow.imp fun x y H Q ⟨d, e, f, h, rx, ry, hr, tb, p⟩ => by
  cases rx with
  | int i => cases ry with
    | int j =>
      dsimp only [pPow] at p
      by_cases hm : (0 ≤ j ∧ j ≤ 1000000 ∧ i.natAbs < 2 ^ 64)
      · rw [if_pos hm] at p; exact ⟨i, j, rfl, rfl, hm, post_v p (.int _) hr tb⟩
      · rw [if_neg hm] at p; exact p.elim
    | _ => exact p.elim
  | _ => cases ry <;> exact p.elim
theorem u_neg : UnR X (unaryOp .USub) (rP1 X.K T X.mg E pNeg) := un_neg.imp fun x H Q ⟨d, f, h, rx, hr, tb, p⟩ => by
  cases rx with
  | int i => exact ⟨i, rfl, post_v p (.int _) hr tb⟩
  | _ => exact p.elim

/-! ## comparisons -/
def pCmp (c : Int → Int → Bool) : D → D → Hh → R D
  | .int i, .int j, h => .ok (.bl (c i j)) h
  | _, _, _ => .no
abbrev pLe := pCmp fun i j => decide (i ≤ j)
abbrev pGt := pCmp fun i j => decide (j < i)
abbrev pGe := pCmp fun i j => decide (j ≤ i)
theorem o_cmp {g : Value → Value → Sem Value} {c : Int → Int → Bool} (o : OpR X g (rI0 fun i j => .bl (c i j))) : OpR X g (rP X.K T X.mg E (pCmp c)) := o.imp fun x y H Q ⟨d, e, f, h, rx, ry, hr, tb, p⟩ => by
  cases rx with
  | int i => cases ry with
    | int j => exact ⟨i, j, rfl, rfl, post_v p (.bl _) hr tb⟩
    | _ => exact p.elim
  | _ => cases ry <;> exact p.elim
theorem o_le : OpR X (compareOp .LtE) (rP X.K T X.mg E pLe) := o_cmp op_le
theorem o_gt : OpR X (compareOp .Gt) (rP X.K T X.mg E pGt) := o_cmp op_gt
theorem o_ge : OpR X (compareOp .GtE) (rP X.K T X.mg E pGe) := o_cmp op_ge
/-- a tuple of ints -/
def intsOf : List D → Option (List Int)
  | [] => some []
  | .int i :: r => (intsOf r).map (i :: ·)
  | _ => none
theorem intsOf_eq : ∀ {ds : List D} {ns : List Int}, intsOf ds = some ns → ds = ns.map D.int
  | [], ns, h => by cases h; rfl
  | d :: ds, ns, h => by
    cases d with
    | int i =>
      simp only [intsOf, Option.map_eq_some_iff] at h
      obtain ⟨r, h1, rfl⟩ := h
      rw [intsOf_eq h1]; rfl
    | _ => cases h
theorem intsOf_map (ns : List Int) : intsOf (ns.map D.int) = some ns := by
  induction ns with
  | nil => rfl
  | cons n ns ih => simp [intsOf, ih]
def pLt : D → D → Hh → R D
  | .int i, .int j, h => .ok (.bl (decide (i < j))) h
  | .tup xs, .tup ys, h => match intsOf xs, intsOf ys with
    | some ns, some ms => .ok (.bl (HT.lexLt ns ms)) h
    | _, _ => .no
  | _, _, _ => .no
theorem o_lt (hu : X.A.units < cLine) : OpR X (compareOp .Lt) (rP X.K T X.mg E pLt) := (op_lt.or (op_ltT hu)).imp fun x y H Q ⟨d, e, f, h, rx, ry, hr, tb, p⟩ => by
  cases rx with
  | int i => cases ry with
    | int j => exact .inl ⟨i, j, rfl, rfl, post_v p (.bl _) hr tb⟩
    | _ => exact p.elim
  | @tup a vs ds ht hv => cases ry with
    | @tup b ws es ht2 hv2 =>
      dsimp only [pLt] at p
      cases g1 : intsOf ds with
      | none => rw [g1] at p; exact p.elim
      | some ns =>
        cases g2 : intsOf es with
        | none => rw [g1, g2] at p; exact p.elim
        | some ms =>
          rw [g1, g2] at p
          rw [intsOf_eq g1] at hv
          rw [intsOf_eq g2] at hv2
          rw [hv.intsV] at ht
          rw [hv2.intsV] at ht2
          exact .inr ⟨a, b, ns, ms, rfl, rfl, ht.t, ht2.t, post_v p (.bl _) hr tb⟩
    | _ => exact p.elim
  | _ => cases ry <;> exact p.elim
/-- == -/
def lstD (h : Hh) : D → Option (List D)
  | .ref i => getL h i
  | _ => none
def eqD (a b : D) (h : Hh) : Option Bool :=
  if (D.pl a 60 && D.pl b 60) = true then some (D.beq a b) else match a, b with
    | .bl x, .bl y => some (x == y)
    | .bl _, .non => some false
    | .non, .bl _ => some false
    | .bl _, .str _ => some false
    | .str _, .bl _ => some false
    | .ref i, .ref j => match getL h i, getL h j with
      | some xs, some ys => if (D.pls xs 60 && D.pls ys 60) = true then some (D.beqs xs ys) else none
      | _, _ => none
    | .ref i, .non => match getL h i with
      | some xs => if D.pls xs 60 = true then some false else none
      | _ => none
    | _, _ => none
def pEq (a b : D) (h : Hh) : R D := match eqD a b h with
  | some k => .ok (.bl k) h
  | none => .no
def pNe (a b : D) (h : Hh) : R D := match eqD a b h with
  | some k => .ok (.bl (!k)) h
  | none => .no
theorem pls_lay {xs : List D} (hx : D.pls xs 60 = true) : SeqAt.shaped (.list (D.pds xs)) = true := by
  have q := D.lay_pds xs 60 hx
  unfold SeqAt.shaped
  have e1 : PyData.canLay0 (.list (D.pds xs)) = true := by simp [PyData.canLay0, q.1]
  have e2 : PyData.depth (.list (D.pds xs)) ≤ 64 := by have := q.2; simp only [PyData.depth]; omega
  rw [e1, decide_eq_true e2]; rfl
theorem eqD_of {H : Hp} {f : List Addr} {h : Hh} {d e : D} {x y : V} {k : Bool} (rx : VR X.K H f d x) (ry : VR X.K H f e y) (hr : HR X.K H f h) (q : eqD d e h = some k) :
    (scal x y = true ∧ k = decide (x = y)) ∨ ∃ a b, Dp X.K H x a ∧ Dp X.K H y b ∧ SeqAt.shaped a = true ∧ SeqAt.shaped b = true ∧ k = PyData.eqv a b := by
  unfold eqD at q
  by_cases hp : (D.pl d 60 && D.pl e 60) = true
  · rw [if_pos hp] at q
    cases q
    rw [Bool.and_eq_true] at hp
    exact .inr ⟨_, _, rx.dp hp.1, ry.dp hp.2, D.shaped_pd hp.1 (by omega), D.shaped_pd hp.2 (by omega), (D.eqv_pd d e 60 60 hp.1 hp.2).symm⟩
  · rw [if_neg hp] at q
    cases rx with
    | non => cases ry with
      | bl b => cases q; exact .inl ⟨rfl, by simp⟩
      | _ => cases q
    | bl b => cases ry with
      | non => cases q; exact .inl ⟨rfl, by simp⟩
      | bl c => cases q; exact .inl ⟨rfl, by rw [dec_bl]⟩
      | str c => cases q; exact .inl ⟨rfl, by simp⟩
      | _ => cases q
    | int i => cases ry <;> cases q
    | str i => cases ry with
      | bl b => cases q; exact .inl ⟨rfl, by simp⟩
      | _ => cases q
    | tup ht hv => cases ry <;> cases q
    | scr hs => cases ry <;> cases q
    | @ref i a e1 => cases ry with
      | non =>
        dsimp only at q
        cases g1 : getL h i with
        | none => rw [g1] at q; cases q
        | some xs =>
          rw [g1] at q
          dsimp only at q
          by_cases hx : D.pls xs 60 = true
          · rw [if_pos hx] at q
            cases q
            obtain ⟨vs, h1, r1⟩ := hr.getL e1 g1
            exact .inr ⟨.list (D.pds xs), .none, .lst (SqL.of h1) (r1.dps hx), .non, pls_lay hx, by decide, rfl⟩
          · rw [if_neg hx] at q; cases q
      | @ref j b e2 =>
        dsimp only at q
        cases g1 : getL h i with
        | none => rw [g1] at q; cases q
        | some xs =>
          cases g2 : getL h j with
          | none => rw [g1, g2] at q; cases q
          | some ys =>
            rw [g1, g2] at q
            dsimp only at q
            by_cases hx : (D.pls xs 60 && D.pls ys 60) = true
            · rw [if_pos hx] at q
              cases q
              rw [Bool.and_eq_true] at hx
              obtain ⟨vs, h1, r1⟩ := hr.getL e1 g1
              obtain ⟨ws, h2, r2⟩ := hr.getL e2 g2
              exact .inr ⟨.list (D.pds xs), .list (D.pds ys), .lst (SqL.of h1) (r1.dps hx.1), .lst (SqL.of h2) (r2.dps hx.2), pls_lay hx.1, pls_lay hx.2, (D.eqv_pds xs ys 60 60 hx.1 hx.2).symm⟩
            · rw [if_neg hx] at q; cases q
      | _ => cases q
theorem o_eq (hu : X.A.units + 64 < cLine) : OpR X (compareOp .Eq) (rP X.K T X.mg E pEq) := (op_eq.or (op_eqD hu)).imp fun x y H Q ⟨d, e, f, h, rx, ry, hr, tb, p⟩ => by
  unfold pEq at p
  cases q : eqD d e h with
  | none => rw [q] at p; exact p.elim
  | some k =>
    rw [q] at p
    have z := post_v p (.bl k) hr tb
    rcases eqD_of rx ry hr q with ⟨h1, rfl⟩ | ⟨a, b, h1, h2, h3, h4, rfl⟩
    · exact .inl ⟨h1, z⟩
    · exact .inr ⟨a, b, h1, h2, h3, h4, z⟩
theorem o_ne (hu : X.A.units + 64 < cLine) : OpR X (compareOp .NotEq) (rP X.K T X.mg E pNe) := (op_ne.or (op_neD hu)).imp fun x y H Q ⟨d, e, f, h, rx, ry, hr, tb, p⟩ => by
  unfold pNe at p
  cases q : eqD d e h with
  | none => rw [q] at p; exact p.elim
  | some k =>
    rw [q] at p
    have z := post_v p (.bl (!k)) hr tb
    rcases eqD_of rx ry hr q with ⟨h1, rfl⟩ | ⟨a, b, h1, h2, h3, h4, rfl⟩
    · exact .inl ⟨h1, z⟩
    · exact .inr ⟨a, b, h1, h2, h3, h4, z⟩
/-- is None, is True, is False -/
def pIs : D → D → Hh → R D
  | .bl a, .bl b, h => .ok (.bl (decide (a = b))) h
  | d, .non, h => .ok (.bl (match d with | .non => true | _ => false)) h
  | _, _, _ => .no
def pIsNot : D → D → Hh → R D
  | .bl a, .bl b, h => .ok (.bl (!decide (a = b))) h
  | d, .non, h => .ok (.bl (match d with | .non => false | _ => true)) h
  | _, _, _ => .no
theorem o_is : OpR X (compareOp .Is) (rP X.K T X.mg E pIs) := (op_isN.or op_is_bl).imp fun x y H Q ⟨d, e, f, h, rx, ry, hr, tb, p⟩ => by
  cases ry with
  | non =>
    refine .inl ⟨rfl, ?_⟩
    cases rx <;> (simp only [reduceCtorEq, decide_false, decide_true]; exact post_v p (.bl _) hr tb)
  | bl b => cases rx with
    | bl a => exact .inr ⟨a, b, rfl, rfl, post_v p (.bl _) hr tb⟩
    | _ => exact p.elim
  | _ => cases rx <;> exact p.elim
theorem o_isnot : OpR X (compareOp .IsNot) (rP X.K T X.mg E pIsNot) := (op_notN.or op_isnot_bl).imp fun x y H Q ⟨d, e, f, h, rx, ry, hr, tb, p⟩ => by
  cases ry with
  | non =>
    refine .inl ⟨rfl, ?_⟩
    cases rx <;> (simp only [reduceCtorEq, decide_false, decide_true, Bool.not_true, Bool.not_false]; exact post_v p (.bl _) hr tb)
  | bl b => cases rx with
    | bl a => exact .inr ⟨a, b, rfl, rfl, post_v p (.bl _) hr tb⟩
    | _ => exact p.elim
  | _ => cases rx <;> exact p.elim
end
end CB

set_option maxRecDepth 100000
namespace CB
open PySem PySem.Spec
open L2

/-! ## statements -/
def mPass : SM := fun env h => .nx env h
def mSeq (a b : SM) : SM := fun env h => match a env h with
  | .nx env1 h1 => b env1 h1
  | r => r
def mSet (i : Nat) (m : EM) : SM := fun env h => (m env h).bindS fun d h1 => .nx (env.set i (some d)) h1
def mDo (m : EM) : SM := fun env h => (m env h).bindS fun _ h1 => .nx env h1
def mRet (m : EM) : SM := fun env h => (m env h).bindS fun d h1 => .rt d h1
def mIf (c : EM) (a b : SM) : SM := fun env h => (c env h).bindS fun x h1 => match x with
  | .bl true => a env h1
  | .bl false => b env h1
  | _ => .no
def mBreak : SM := fun env h => .bk env h
def mCont : SM := fun env h => .ct env h
def mRaise (e : Str) : SM := fun _ h => .ex e h
section
variable {X : Cx} {T : List (Addr × Str)} {E : XK} {pos : Pos} {e c : Expr} {st : Stmt} {sts : List Stmt} {me mc : EM} {m m1 m2 : SM}
theorem B_nil : XB X T E [] mPass := pss_nil.imp fun Dn σ H ⟨env, f, h, S, p⟩ => PostS.nx p S
theorem B_one (h : XS X T E st m) : XB X T E [st] m := pss_one h
theorem B_cons (h1 : XS X T E st m1) (h2 : XB X T E sts m2) : XB X T E (st :: sts) (mSeq m1 m2) :=
  (pss_cons h1 h2).imp fun Dn σ H ⟨env, f, h, S, p⟩ => ⟨env, f, h, S, by
    unfold mSeq at p
    cases q : m1 env h with
    | nx env1 h1 =>
      rw [q] at p
      exact fun σ' H' f' s' S' => ⟨env1, f', h1, S', PostS.later s' p⟩
    | rt d h1 => rw [q] at p; exact p
    | bk env1 h1 => rw [q] at p; exact p
    | ct env1 h1 => rw [q] at p; exact p
    | ex e1 h1 => rw [q] at p; exact p
    | no => rw [q] at p; exact p⟩
theorem S_pass : XS X T E (.Pass pos) mPass := ps_pass.imp fun Dn σ H ⟨env, f, h, S, p⟩ => PostS.nx p S
theorem S_set (i : Nat) {x : Str} {pos' : Pos} (hN : X.N.Nodup) (he : XE X T E e me) (hi : X.N[i]? = some x := by rfl) (hx : Loc X.env.scope x := by first | exact Or.inl rfl | exact Or.inr rfl) (hs : swapsWith e (some (.Name x pos')) pos.line X.env = pure false := by rfl)
    (hf : X.fn x = true ∨ X.env.scope.names.lookup x = some .local := by first | exact .inl rfl | exact .inr rfl) : XS X T E (.Assign [.Name x pos'] e pos) (mSet i me) :=
  (ps_set hN hi hx he hs hf).imp fun Dn σ H ⟨env, f, h, S, p⟩ => ⟨env, f, h, S, PostG.bindS p fun d1 h1 v1 H1 f1 s1 r1 hr1 tb1 p1 =>
    PostS.nx p1 ⟨(S.er.step s1).set r1 i, hr1, tb1⟩⟩
theorem S_do (he : XE X T E e me) (hs : swapsWith e none pos.line X.env = pure false := by rfl) : XS X T E (.Expr e pos) (mDo me) :=
  (ps_expr he hs).imp fun Dn σ H ⟨env, f, h, S, p⟩ => ⟨env, f, h, S, PostG.bindS p fun d1 h1 v1 H1 f1 s1 r1 hr1 tb1 p1 => PostS.nx p1 (S.step s1 hr1 tb1)⟩
theorem S_ret (he : XE X T E e me) : XS X T E (.Return (some e) pos) (mRet me) :=
  (ps_ret he).imp fun Dn σ H ⟨env, f, h, S, p⟩ => ⟨env, f, h, S, PostG.bindS p fun d1 h1 v1 H1 f1 s1 r1 hr1 tb1 p1 => p1 v1 H1 f1 Step.refl r1 hr1 tb1⟩
theorem S_if {a b : List Stmt} (hc : XT X T E c mc) (ha : XB X T E a m1) (hb : XB X T E b m2) : XS X T E (.If c a b pos) (mIf mc m1 m2) :=
  (ps_if hc ha hb).imp fun Dn σ H ⟨env, f, h, S, p⟩ => ⟨env, f, h, S, PostG.bindS p fun d1 h1 v1 H1 f1 s1 r1 hr1 tb1 p1 => by
    cases r1 with
    | bl k =>
      refine ⟨k, rfl, ?_⟩
      cases k with
      | true => exact iteT ⟨env, f1, h1, S.step s1 hr1 tb1, p1⟩
      | false => exact iteF ⟨env, f1, h1, S.step s1 hr1 tb1, p1⟩
    | _ => exact p1.elim⟩
theorem S_break : XS X T E (.Break pos) mBreak := ps_break.imp fun Dn σ H ⟨env, f, h, S, p⟩ => p σ H f Step.refl S
theorem S_cont : XS X T E (.Continue pos) mCont := ps_continue.imp fun Dn σ H ⟨env, f, h, S, p⟩ => p σ H f Step.refl S
/-- raise C() -/
theorem S_raise {C : Addr} {x : Str} {p1 : Pos} {bm : List Value} {B newId initId : String} (hc : X.calm = true) (tk : Takes X (fun c d _ H => E c d H)) (F : ExcBaseFacts B newId initId bm) (q : PySem.W.excIn X.K C bm newId = true) (gC : X.mg x = some (.ref C)) (kC : PySem.W.keepIn X.K (.ref C) = true)
    (r : Raises X (.ref C)) (hg : Gl X x) (he : PMk X (.Call (.Name x p1) [] [] pos) (fun σ H Q => Q (.ref C) none H)) {pos' : Pos} : XS X T E (.Raise (some (.Call (.Name x p1) [] [] pos)) none pos') (mRaise x) :=
  (ps_raise hc tk he).imp fun Dn σ H ⟨env, f, h, S, p⟩ => p C H f gC Step.refl S.hr S.tb

/-! ## a op= e -/
def mAug (i : Nat) (p : D → D → Hh → R D) (m : EM) : SM := fun env h => match env[i]? with
  | some (some x) => (m env h).bindS fun y h1 => (p x y h1).bindS fun z h2 => .nx (env.set i (some z)) h2
  | _ => .no
theorem S_aug (i : Nat) {x : Str} {op : Operator} {p : D → D → Hh → R D} {pos' : Pos} (hN : X.N.Nodup) (ho : OpR X (inplaceOp op) (rP X.K T X.mg E p)) (he : XE X T E e me) (hi : X.N[i]? = some x := by rfl) (hx : Loc X.env.scope x := by first | exact Or.inl rfl | exact Or.inr rfl)
    (hf : X.fn x = true ∨ X.env.scope.names.lookup x = some .local := by first | exact .inl rfl | exact .inr rfl) : XS X T E (.AugAssign (.Name x pos') op e pos) (mAug i p me) :=
  (ps_aug (ti := rP X.K T X.mg E p) hN hi hx he (fun pins s σ H x y v u Q I r1 r2 h => ho pins s σ H x y v u Q I r1 r2 h) hf).imp fun Dn σ H ⟨env, f, h, S, p⟩ => by
    unfold mAug at p
    cases q : env[i]? with
    | none => rw [q] at p; exact p.elim
    | some o =>
      cases o with
      | none => rw [q] at p; exact p.elim
      | some d =>
        rw [q] at p
        obtain ⟨v, ev, r⟩ := S.er.get i d q
        refine ⟨v, ev, env, f, h, S, PostG.bindS p fun d1 h1 v1 H1 f1 s1 r1 hr1 tb1 p1 => ?_⟩
        refine ⟨d, d1, f1, h1, r.step s1, r1, hr1, tb1, PostG.bindS p1 fun d2 h2 v2 H2 f2 s2 r2 hr2 tb2 p2 => ?_⟩
        exact PostS.nx p2 ⟨((S.er.step s1).step s2).set r2 i, hr2, tb2⟩
/-- o[i] op= e, o a list -/
def pGetL : D → D → Hh → R D
  | .ref j, .int i, h => match getL h j with
    | some xs => match atI xs i with
      | some d => .ok d h
      | none => .no
    | none => .no
  | _, _, _ => .no
def setL (o i v : D) (h : Hh) : Option Hh := match o, i with
  | .ref j, .int k => match getL h j with
    | some xs => match ixN xs.length k with
      | some n => some (h.set j (.lst (xs.set n v)))
      | none => none
    | none => none
  | _, _ => none
def mAugS (o i : EM) (p : D → D → Hh → R D) (m : EM) : SM := fun env h => (o env h).bindS fun od h1 => (i env h1).bindS fun id h2 => (pGetL od id h2).bindS fun x h3 =>
  (m env h3).bindS fun y h4 => (p x y h4).bindS fun z h5 => match setL od id z h5 with
    | some h6 => .nx env h6
    | none => .no
def mPutS (o i m : EM) : SM := fun env h => (m env h).bindS fun v h1 => (o env h1).bindS fun od h2 => (i env h2).bindS fun id h3 => match setL od id v h3 with
    | some h4 => .nx env h4
    | none => .no
theorem atI_V {K : PySem.W.Frag} {H : Hp} {f : List Addr} {ds : List D} {vs : List V} {i : Int} {d : D} (r : VRs K H f ds vs) (e : atI ds i = some d) : ∃ v, atI vs i = some v ∧ VR K H f d v := by
  unfold atI at e ⊢
  rw [← r.len]
  cases q : ixN ds.length i with
  | none => rw [q] at e; cases e
  | some n =>
    rw [q] at e
    exact r.get e
def tGetL (K : PySem.W.Frag) : V → V → Hp → VK → Prop := fun o i H Q => ∃ p xs k v, o = .ref p ∧ i = .int k ∧ SqL K H p xs ∧ atI xs k = some v ∧ Q v H
theorem pg_list : PGet X (tGetL X.K) := by
  intro pins s σ H o i ov iv Q I ro ri h
  obtain ⟨p, xs, k, v, rfl, rfl, hx, hv, q⟩ := h
  cases ro
  obtain ⟨t, rfl⟩ := ri
  obtain ⟨its, r, ht, hz⟩ := I.list hx
  obtain ⟨j, h1, h2, h3, h4, h5⟩ := atI_get hv
  obtain ⟨u, hu, ru⟩ := r.get h2
  have hl := r.length
  have hn := line63
  have fin : EP X pins σ Q u s := ⟨v, H, I, ru, q⟩
  by_cases h0 : 0 ≤ k
  · have hj : k.toNat = j := by
      rw [seqIndex_of h0 h5] at h1
      exact Option.some.inj h1
    exact wpAny_getItem_list ht.isList h0 (by omega) (by rw [hj]; simpa using hu) fin
  · have hj : (k + (its.toArray.size : Int)).toNat = j := by
      unfold seqIndex? at h1
      simp only [show k < 0 by omega, if_true] at h1
      rw [List.size_toArray, ← hl]
      split at h1
      · first | exact Option.some.inj h1 | (cases h1; rfl) | cases h1
      · first | exact Option.some.inj h1 | cases h1
    exact wpAny_getItem_list_neg ht.isList (by omega) (by rw [List.size_toArray, ← hl]; omega) (by omega) (by rw [hj]; simpa using hu) fin
theorem S_augS {o i : Expr} {mo mi : EM} {op : Operator} {p : D → D → Hh → R D} {tpos : Pos} (hop : OpR X (inplaceOp op) (rP X.K T X.mg E p)) (ho : XE X T E o mo) (hi : XE X T E i mi) (he : XE X T E e me)
    (ha : ∀ ov iv new, augStore i ov iv new = (do holding [new, ov, iv] (setItem ov iv new); release [new, ov, iv] []; pure .next) := by intros; rfl) : XS X T E (.AugAssign (.Subscript o i tpos) op e pos) (mAugS mo mi p me) :=
  (ps_augS (tip := rP X.K T X.mg E p) ho hi pg_list he (fun pins s σ H x y v u Q I r1 r2 h => hop pins s σ H x y v u Q I r1 r2 h) set_list ha).imp fun Dn σ H ⟨env, f, h, S, p⟩ =>
    ⟨env, f, h, S, PostG.bindS p fun d1 h1 v1 H1 f1 s1 r1 hr1 tb1 p1 => ⟨env, f1, h1, S.step s1 hr1 tb1, PostG.bindS p1 fun d2 h2 v2 H2 f2 s2 r2 hr2 tb2 p2 => by
      have S2 := S.step (s1.trans s2) hr2 tb2
      cases r1 with
      | @ref j a e1 => cases r2 with
        | int k =>
          have e2 := s2.pre _ _ e1
          dsimp only [pGetL] at p2
          cases g : getL h2 j with
          | none => rw [g] at p2; exact p2.elim
          | some xs =>
            rw [g] at p2
            dsimp only at p2
            cases q : atI xs k with
            | none => rw [q] at p2; exact p2.elim
            | some x0 =>
              rw [q] at p2
              obtain ⟨vs, hv, rv⟩ := hr2.getL e2 g
              obtain ⟨w, hw, rw'⟩ := atI_V rv q
              refine ⟨a, vs, k, w, rfl, rfl, SqL.of hv, hw, env, f2, h2, S2, PostG.bindS p2 fun d3 h3 v3 H3 f3 s3 r3 hr3 tb3 p3 => ?_⟩
              refine ⟨x0, d3, f3, h3, rw'.step s3, r3, hr3, tb3, PostG.bindS p3 fun d4 h4 v4 H4 f4 s4 r4 hr4 tb4 p4 => ?_⟩
              have e4 := s4.pre _ _ (s3.pre _ _ e2)
              unfold setL at p4
              dsimp only at p4
              cases g4 : getL h4 j with
              | none => rw [g4] at p4; exact p4.elim
              | some ys =>
                rw [g4] at p4
                dsimp only at p4
                cases q4 : ixN ys.length k with
                | none => rw [q4] at p4; exact p4.elim
                | some n =>
                  rw [q4] at p4
                  obtain ⟨ws, hw4, rw4⟩ := hr4.getL e4 g4
                  refine ⟨a, ws, k, n, rfl, rfl, hw4, by rw [← rw4.len]; exact q4, ?_⟩
                  have st : Step H4 f4 (upd H4 a (.lst (ws.set n v4))) f4 := Step.write hr4 e4 hw4 rfl (fun ps z => by cases z)
                  exact p4 σ _ f4 st ⟨(S.er.step (((s1.trans s2).trans s3).trans s4)).step st, hr4.write e4 hw4 rfl (fun ps z => by cases z) ⟨_, upd_same, (VRs.setN r4 n rw4).step st⟩, tabs_write tb4 hw4 rfl (fun ps z => by cases z)⟩
        | _ => exact p2.elim
      | _ => cases r2 <;> exact p2.elim⟩⟩
theorem set_ok {Dn : Ends} {σ : L2.St} {H : Hp} {f : List Addr} {h : Hh} {env : Env'} {od id d : D} {ov iv v : V} (S : SR X.K T σ H f env h) (ro : VR X.K H f od ov) (ri : VR X.K H f id iv) (r : VR X.K H f d v)
    (p : PostS X.K T X.mg E H f (match setL od id d h with | some h4 => .nx env h4 | none => .no) Dn) : rSetL ov iv v H (fun H' => Dn.nx σ H') := by
  cases ro with
  | @ref j a e1 => cases ri with
    | int k =>
      unfold setL at p
      dsimp only at p
      cases g4 : getL h j with
      | none => rw [g4] at p; exact p.elim
      | some ys =>
        rw [g4] at p
        dsimp only at p
        cases q4 : ixN ys.length k with
        | none => rw [q4] at p; exact p.elim
        | some n =>
          rw [q4] at p
          obtain ⟨ws, hw4, rw4⟩ := S.hr.getL e1 g4
          refine ⟨a, ws, k, n, rfl, rfl, hw4, by rw [← rw4.len]; exact q4, ?_⟩
          have st : Step H f (upd H a (.lst (ws.set n v))) f := Step.write S.hr e1 hw4 rfl (fun ps z => by cases z)
          exact p σ _ f st ⟨S.er.step st, S.hr.write e1 hw4 rfl (fun ps z => by cases z) ⟨_, upd_same, (VRs.setN r n rw4).step st⟩, tabs_write S.tb hw4 rfl (fun ps z => by cases z)⟩
    | _ => exact p.elim
  | _ => cases ri <;> exact p.elim
theorem S_putS {o i : Expr} {mo mi : EM} {pos' : Pos} (ho : XE X T E o mo) (hi : XE X T E i mi) (he : XE X T E e me) 
    (ha : ∀ v, assign (.Subscript o i pos') X.env v = (do
      let ov ← holding [v] (eval o X.env)
      let iv ← holding [v, ov] (eval i X.env)
      standAt pos'
      holding [v, ov, iv] (setItem ov iv v)
      release [v, ov, iv] []) := by intro _; rfl)
    (hs : swapsWithSole [.Subscript o i pos'] e pos.line X.env = pure false := by rfl) (hw : swappedStores [.Subscript o i pos'] e X.env = pure none := by rfl) (h1 : (assignEach [.Subscript o i pos'] X.env).map (·.2) = [assign (.Subscript o i pos') X.env] := by rfl) :
    XS X T E (.Assign [.Subscript o i pos'] e pos) (mPutS mo mi me) :=
  (ps_asg he (pg_sub ho hi set_list ha) hs hw h1).imp fun Dn σ H ⟨env, f, h, S, p⟩ =>
    ⟨env, f, h, S, PostG.bindS p fun d1 h1 v1 H1 f1 s1 r1 hr1 tb1 p1 => ⟨env, f1, h1, S.step s1 hr1 tb1, PostG.bindS p1 fun d2 h2 v2 H2 f2 s2 r2 hr2 tb2 p2 =>
      ⟨env, f2, h2, S.step (s1.trans s2) hr2 tb2, PostG.bindS p2 fun d3 h3 v3 H3 f3 s3 r3 hr3 tb3 p3 => set_ok (S.step ((s1.trans s2).trans s3) hr3 tb3) (r2.step s3) r3 (r1.step (s2.trans s3)) p3⟩⟩⟩

/-! ## while -/
def goW (c : EM) (b : SM) : Nat → Env' → Hh → RS
  | 0, _, _ => .no
  | n + 1, env, h => (c env h).bindS fun x h1 => match x with
    | .bl true => match b env h1 with
      | .nx env2 h2 => goW c b n env2 h2
      | .ct env2 h2 => goW c b n env2 h2
      | .bk env2 h2 => .nx env2 h2
      | r => r
    | .bl false => .nx env h1
    | _ => .no
def mWhile (n : Nat) (c : EM) (b : SM) : SM := fun env h => goW c b n env h
theorem S_while (n : Nat) {body : List Stmt} (hp : PassesOwn (model X.prog X.w) X.A X.env X.xe) (hc : XT X T E c mc) (hb : XB X T E body m) : XS X T E (.While c body [] pos) (mWhile n mc m) :=
  (ps_while hp hc hb).imp fun Dn σ H ⟨env, f, h, S, p⟩ => by
    refine ⟨fun k σ1 H1 => ∃ env1 f1 h1, SR X.K T σ1 H1 f1 env1 h1 ∧ PostS X.K T X.mg E H1 f1 (goW mc m k env1 h1) Dn, ⟨n, env, f, h, S, p⟩, ?_⟩
    rintro k σ1 H1 ⟨env1, f1, h1, S1, p1⟩
    cases k with
    | zero => exact p1.elim
    | succ k =>
      refine ⟨env1, f1, h1, S1, PostG.bindS p1 fun d2 h2 v2 H2 f2 s2 r2 hr2 tb2 p2 => ?_⟩
      have S2 := S1.step s2 hr2 tb2
      cases r2 with
      | bl b =>
        refine ⟨b, rfl, ?_⟩
        cases b with
        | false => exact iteF (PostS.nx p2 S2)
        | true =>
          refine iteT ⟨fun σ' H' => ∃ env1 f1 h1, SR X.K T σ' H' f1 env1 h1 ∧ PostS X.K T X.mg E H' f1 (goW mc m k env1 h1) Dn, fun σ' H' q => ⟨k, Nat.lt_succ_self k, q⟩, env1, f2, h2, S2, ?_⟩
          dsimp only at p2
          cases q : m env1 h2 with
          | nx env3 h3 => rw [q] at p2; exact fun σ' H' f' s' S' => ⟨env3, f', h3, S', PostS.later s' p2⟩
          | ct env3 h3 => rw [q] at p2; exact fun σ' H' f' s' S' => ⟨env3, f', h3, S', PostS.later s' p2⟩
          | bk env3 h3 => rw [q] at p2; exact p2
          | rt d h3 => rw [q] at p2; exact p2
          | ex e h3 => rw [q] at p2; exact p2
          | no => rw [q] at p2; exact p2
      | _ => exact p2.elim

/-! ## what is walked -/
inductive Sp1 | stop | item (d : D) | no
/-- a plan of a walk -/
abbrev Plan := Nat → Hh → Sp1
abbrev IM := Env' → Hh → R (Plan × Nat)
def Plans (K : PySem.W.Frag) (T : List (Addr × Str)) (H0 : Hp) (f0 : List Addr) (J : It) (pl : Plan) : Prop := ∀ (i : Nat) (H : Hp) (f : List Addr) (h : Hh), Lo H0 f0 H f → HR K H f h → LamX.Tabs T H → match pl i h with
  | .stop => J.stop i H
  | .item d => J.go i H ∧ ∀ x H', J.yld i H x H' → Step H f H' f ∧ VR K H' f d x ∧ HR K H' f h ∧ LamX.Tabs T H'
  | .no => True
def tI (K : PySem.W.Frag) (T : List (Addr × Str)) (mg : Str → Option Value) (E : XK) (m : IM) : TI := fun σ H Q => ∃ env f h, SR K T σ H f env h ∧ PostG K T mg E (fun H f p J => Plans K T H f J p.1) H f (m env h) Q
abbrev XI (X : Cx) (T : List (Addr × Str)) (E : XK) (tg e : Expr) (m : IM) : Prop := PI X tg e (tI X.K T X.mg E m)
theorem _root_.L2.PI.imp {tg e : Expr} {t t' : TI} (p : PI X tg e t) (h : ∀ σ H Q, t' σ H Q → t σ H Q) : PI X tg e t' := ⟨fun pins s σ H Q I q => p.run pins s σ H Q I (h σ H Q q)⟩
/-- targets -/
abbrev BM := D → Env' → Hh → RS
def tG (K : PySem.W.Frag) (T : List (Addr × Str)) (mg : Str → Option Value) (E : XK) (b : BM) : TG := fun v σ H Q => ∃ d env f h, VR K H f d v ∧ SR K T σ H f env h ∧ PostS K T mg E H f (b d env h) { nx := Q, rt := fun _ _ => False }
abbrev XG (X : Cx) (T : List (Addr × Str)) (E : XK) (tg : Expr) (b : BM) : Prop := PG X tg (tG X.K T X.mg E b)
theorem _root_.L2.PG.imp {tg : Expr} {t t' : TG} (p : PG X tg t) (h : ∀ v σ H Q, t' v σ H Q → t v σ H Q) : PG X tg t' := ⟨fun pins s σ H v u Q I r q => p.run pins s σ H v u Q I r (h v σ H Q q)⟩
theorem _root_.L2.PGs.imp {tg : List Expr} {t t' : TGs} (p : PGs X tg t) (h : ∀ v σ H Q, t' v σ H Q → t v σ H Q) : PGs X tg t' := ⟨fun pins s σ H v u Q I r q => p.run pins s σ H v u Q I r (h v σ H Q q)⟩
def bN (i : Nat) : BM := fun d env h => .nx (env.set i (some d)) h
theorem G_nm (i : Nat) {x : Str} (hN : X.N.Nodup) (hi : X.N[i]? = some x := by rfl) (hx : Loc X.env.scope x := by first | exact Or.inl rfl | exact Or.inr rfl) (hf : X.fn x = true ∨ X.env.scope.names.lookup x = some .local := by first | exact .inl rfl | exact .inr rfl) : XG X T E (.Name x pos) (bN i) :=
  (pg_name hN hi hx hf).imp fun v σ H Q ⟨d, env, f, h, r, S, p⟩ => p _ H f Step.refl ⟨S.er.set r i, S.hr, S.tb⟩
def tGs (K : PySem.W.Frag) (T : List (Addr × Str)) (mg : Str → Option Value) (E : XK) (b : List D → Env' → Hh → RS) : TGs := fun vs σ H Q => ∃ ds env f h, VRs K H f ds vs ∧ SR K T σ H f env h ∧ PostS K T mg E H f (b ds env h) { nx := Q, rt := fun _ _ => False }
abbrev XGs (X : Cx) (T : List (Addr × Str)) (E : XK) (tg : List Expr) (b : List D → Env' → Hh → RS) : Prop := PGs X tg (tGs X.K T X.mg E b)
def bsNil : List D → Env' → Hh → RS
  | [], env, h => .nx env h
  | _, _, _ => .no
def bsCons (b : BM) (r : List D → Env' → Hh → RS) : List D → Env' → Hh → RS
  | d :: ds, env, h => match b d env h with
    | .nx env1 h1 => r ds env1 h1
    | .ex e h1 => .ex e h1
    | _ => .no
  | [], _, _ => .no
theorem Gs_nil : XGs X T E [] bsNil := pgs_nil.imp fun vs σ H Q ⟨ds, env, f, h, r, S, p⟩ => by
  cases r with
  | nil => exact ⟨rfl, PostS.nx p S⟩
  | cons _ _ => exact p.elim
theorem Gs_cons {tg : Expr} {tgs : List Expr} {b : BM} {bs : List D → Env' → Hh → RS} (h1 : XG X T E tg b) (h2 : XGs X T E tgs bs) (hs : (assignEach (tg :: tgs) X.env).map (·.2) = assign tg X.env :: (assignEach tgs X.env).map (·.2) := by rfl) : XGs X T E (tg :: tgs) (bsCons b bs) :=
  (pgs_cons h1 h2 hs).imp fun vs σ H Q ⟨ds, env, f, h, r, S, p⟩ => by
    cases r with
    | nil => exact p.elim
    | @cons d v ds vs a b' =>
      refine ⟨v, vs, rfl, d, env, f, h, a, S, ?_⟩
      unfold bsCons at p
      dsimp only at p
      cases q : b d env h with
      | nx env1 h1 =>
        rw [q] at p
        exact fun σ' H' f' s' S' => ⟨ds, env1, f', h1, b'.step s', S', PostS.later s' p⟩
      | ex e h1 => rw [q] at p; exact p
      | _ => rw [q] at p; exact p.elim
def bT (n : Nat) (bs : List D → Env' → Hh → RS) : BM := fun d env h => match d with
  | .tup ds => if ds.length = n then bs ds env h else .no
  | _ => .no
theorem G_tup {tgs : List Expr} {k n : Nat} {bs : List D → Env' → Hh → RS} (hc : X.calm = true) (h : XGs X T E tgs bs) (hn : (assignEach tgs X.env).length = n := by rfl) (hst : (assignEach tgs X.env).findIdx? (·.1) = none := by rfl) : XG X T E (.Tuple tgs k pos) (bT n bs) :=
  (pg_tup hc h hn hst).imp fun v σ H Q ⟨d, env, f, h, r, S, p⟩ => by
    cases r with
    | @tup a vs ds ht hv =>
      unfold bT at p
      dsimp only at p
      by_cases hl : ds.length = n
      · rw [if_pos hl] at p
        exact ⟨a, vs, rfl, ht.t, by rw [← hv.len]; exact hl, ds, env, f, h, hv, S, p⟩
      · rw [if_neg hl] at p; exact p.elim
    | _ => exact p.elim
/-- targets = value -/
def mAsg (m : EM) (b : BM) : SM := fun env h => (m env h).bindS fun d h1 => match b d env h1 with
  | .nx env1 h2 => .nx env1 h2
  | .ex e h2 => .ex e h2
  | _ => .no
theorem S_asg {tg : Expr} {b : BM} (he : XE X T E e me) (hg : XG X T E tg b) (hs : swapsWithSole [tg] e pos.line X.env = pure false := by rfl) (hw : swappedStores [tg] e X.env = pure none := by rfl) (h1 : (assignEach [tg] X.env).map (·.2) = [assign tg X.env] := by rfl) : XS X T E (.Assign [tg] e pos) (mAsg me b) :=
  (ps_asg he hg hs hw h1).imp fun Dn σ H ⟨env, f, h, S, p⟩ => ⟨env, f, h, S, PostG.bindS p fun d1 h1 v1 H1 f1 s1 r1 hr1 tb1 p1 => ⟨d1, env, f1, h1, r1, S.step s1 hr1 tb1, by
    cases q : b d1 env h1 with
    | nx env1 h2 => rw [q] at p1; exact p1
    | ex e h2 => rw [q] at p1; exact p1
    | _ => rw [q] at p1; exact p1.elim⟩⟩
/-- a, b = x, y; a, b, c = x, y, z: plain local names -/
def mPar (is : List Nat) (m : AM) : SM := fun env h => (m env h).bindS fun ds h1 => if ds.length = is.length then .nx ((is.zip ds).foldl (fun env p => env.set p.1 (some p.2)) env) h1 else .no
theorem S_par {i j : Nat} {x y : Str} {a b : Expr} {ms : AM} {px py pt : Pos} {kt k2 pt2} (hc : X.calm = true) (hN : X.N.Nodup) (hij : i ≠ j) (ha : XA X T E [a, b] ms) (hi : X.N[i]? = some x := by rfl) (hj : X.N[j]? = some y := by rfl)
    (hx : X.env.scope.names.lookup x = some .local := by rfl) (hy : X.env.scope.names.lookup y = some .local := by rfl)
    (hw : swappedStores [.Tuple [.Name x px, .Name y py] kt pt] (.Tuple [a, b] k2 pt2) X.env = pure (some [x, y]) := by rfl)
    (hs : swapsWithSole [.Tuple [.Name x px, .Name y py] kt pt] (.Tuple [a, b] k2 pt2) pos.line X.env = pure false := by rfl) :
    XS X T E (.Assign [.Tuple [.Name x px, .Name y py] kt pt] (.Tuple [a, b] k2 pt2) pos) (mPar [i, j] ms) :=
  (ps_par hc hN hi hj hij hx hy ha hw hs).imp fun Dn σ H ⟨env, f, h, S, p⟩ => ⟨env, f, h, S, PostG.bindS p fun d1 h1 v1 H1 f1 s1 r1 hr1 tb1 p1 => by
    change PostS _ _ _ _ _ _ (if d1.length = 2 then _ else _) _ at p1
    by_cases hl : d1.length = 2
    · rw [if_pos hl] at p1
      match d1, hl, r1, p1 with
      | [d, e], _, .cons ra (.cons rb .nil), p1 => exact ⟨_, _, rfl, PostS.nx p1 ⟨((S.er.step s1).set ra i).set rb j, hr1, tb1⟩⟩
    · rw [if_neg hl] at p1; exact p1.elim⟩
theorem S_par3 {i j l : Nat} {x y z : Str} {a b c : Expr} {ms : AM} {px py pz pt : Pos} {kt k2 pt2} (hc : X.calm = true) (hN : X.N.Nodup) (hij : i ≠ j) (hil : i ≠ l) (hjl : j ≠ l) (ha : XA X T E [a, b, c] ms) (hi : X.N[i]? = some x := by rfl) (hj : X.N[j]? = some y := by rfl) (hl : X.N[l]? = some z := by rfl)
    (hx : X.env.scope.names.lookup x = some .local := by rfl) (hy : X.env.scope.names.lookup y = some .local := by rfl) (hz : X.env.scope.names.lookup z = some .local := by rfl)
    (hw : swappedStores [.Tuple [.Name x px, .Name y py, .Name z pz] kt pt] (.Tuple [a, b, c] k2 pt2) X.env = pure (some [x, y, z]) := by rfl)
    (hs : swapsWithSole [.Tuple [.Name x px, .Name y py, .Name z pz] kt pt] (.Tuple [a, b, c] k2 pt2) pos.line X.env = pure false := by rfl) :
    XS X T E (.Assign [.Tuple [.Name x px, .Name y py, .Name z pz] kt pt] (.Tuple [a, b, c] k2 pt2) pos) (mPar [i, j, l] ms) :=
  (ps_par3 hc hN hi hj hl hij hil hjl hx hy hz ha hw hs).imp fun Dn σ H ⟨env, f, h, S, p⟩ => ⟨env, f, h, S, PostG.bindS p fun d1 h1 v1 H1 f1 s1 r1 hr1 tb1 p1 => by
    change PostS _ _ _ _ _ _ (if d1.length = 3 then _ else _) _ at p1
    by_cases hl : d1.length = 3
    · rw [if_pos hl] at p1
      match d1, hl, r1, p1 with
      | [d, e, g], _, .cons ra (.cons rb (.cons rc .nil)), p1 => exact ⟨_, _, _, rfl, PostS.nx p1 ⟨(((S.er.step s1).set ra i).set rb j).set rc l, hr1, tb1⟩⟩
    · rw [if_neg hl] at p1; exact p1.elim⟩

/-! ## for -/
def goF (pl : Plan) (b : BM) (m : SM) : Nat → Nat → Env' → Hh → RS
  | 0, _, _, _ => .no
  | n + 1, i, env, h => match pl i h with
    | .stop => .nx env h
    | .no => .no
    | .item d => match b d env h with
      | .nx env1 h1 => match m env1 h1 with
        | .nx env2 h2 => goF pl b m n (i + 1) env2 h2
        | .ct env2 h2 => goF pl b m n (i + 1) env2 h2
        | .bk env2 h2 => .nx env2 h2
        | r => r
      | .ex e h1 => .ex e h1
      | _ => .no
def mFor (w : IM) (b : BM) (m : SM) : SM := fun env h => (w env h).bindS fun p h1 => goF p.1 b m (p.2 + 1) 0 env h1
theorem S_for {tg iter : Expr} {body : List Stmt} {w : IM} {b : BM} (hp : PassesOwn (model X.prog X.w) X.A X.env X.xe) (hc : X.calm = true) (hi : XI X T E tg iter w) (hg : XG X T E tg b) (hb : XB X T E body m)
    (hs : ∀ x, foldedSetIterable iter X.env x = pure x := by intro _; rfl) : XS X T E (.For tg iter body [] pos) (mFor w b m) :=
  (ps_for hp hc hi hg hb hs).imp fun Dn σ H ⟨env, f, h, S, p⟩ => ⟨env, f, h, S, PostG.bindS p fun pl h1 J H1 f1 s1 r1 hr1 tb1 p1 => by
    refine ⟨fun i k σ2 H2 => ∃ env2 f2 h2, Step H1 f1 H2 f2 ∧ SR X.K T σ2 H2 f2 env2 h2 ∧ PostS X.K T X.mg E H2 f2 (goF pl.1 b m k i env2 h2) Dn, ⟨pl.2 + 1, env, f1, h1, Step.refl, S.step s1 hr1 tb1, p1⟩, ?_⟩
    rintro i k σ2 H2 ⟨env2, f2, h2, s2, S2, p2⟩
    cases k with
    | zero => exact p2.elim
    | succ k =>
      have P := r1 i H2 f2 h2 s2.lo S2.hr S2.tb
      unfold goF at p2
      cases q : pl.1 i h2 with
      | no => rw [q] at p2; exact p2.elim
      | stop =>
        rw [q] at p2 P
        exact .inl ⟨P, PostS.nx p2 S2⟩
      | item d =>
        rw [q] at p2 P
        dsimp only at p2
        refine .inr ⟨P.1, fun σ' H' => ∃ env2 f2 h2, Step H1 f1 H' f2 ∧ SR X.K T σ' H' f2 env2 h2 ∧ PostS X.K T X.mg E H' f2 (goF pl.1 b m k (i + 1) env2 h2) Dn, fun σ' H' z => ⟨k, Nat.lt_succ_self k, z⟩, fun x H' y => ?_⟩
        obtain ⟨s3, rx, hr3, tb3⟩ := P.2 x H' y
        refine ⟨d, env2, f2, h2, rx, S2.step s3 hr3 tb3, ?_⟩
        cases q2 : b d env2 h2 with
        | nx env3 h3 =>
          rw [q2] at p2
          dsimp only at p2
          refine fun σ4 H4 f4 s4 S4 => ⟨env3, f4, h3, S4, ?_⟩
          have s14 := (s2.trans s3).trans s4
          have p3 := PostS.later (s3.trans s4) p2
          cases q3 : m env3 h3 with
          | nx env5 h5 => rw [q3] at p3; exact fun σ' H' f' s' S' => ⟨env5, f', h5, s14.trans s', S', PostS.later s' p3⟩
          | ct env5 h5 => rw [q3] at p3; exact fun σ' H' f' s' S' => ⟨env5, f', h5, s14.trans s', S', PostS.later s' p3⟩
          | bk env5 h5 => rw [q3] at p3; exact p3
          | rt d h5 => rw [q3] at p3; exact p3
          | ex e h5 => rw [q3] at p3; exact p3
          | no => rw [q3] at p3; exact p3
        | ex e h3 => rw [q2] at p2; exact fun C H4 f4 g s4 => p2 C H4 f4 g (s3.trans s4)
        | _ => rw [q2] at p2; exact p2.elim⟩
end
end CB

set_option maxRecDepth 100000
namespace CB
open PySem PySem.Spec
open L2

/-! ## enumerate over a tuple -/
set_option maxHeartbeats 1000000 in
theorem meets_enum_tup (l : Addr) (items : Array Value) (n : Nat) (dd : Option Addr) (sl : Array (Option Value)) : Meets (Builtin.«enumerate.__new__» ⟨[.type "enumerate", .ref l], []⟩)
    (fun _ R s => s.heap.get? l = some { cls := .type "tuple", dict := dd, data := .seq items n, slots := sl } ∧ R (.ok (.ret (.ref (s.heap.push { cls := .type "tuple_iterator", data := .fields #[.ref l, .int 0 0] }).objs.size)))
        { s with heap := (s.heap.push { cls := .type "tuple_iterator", data := .fields #[.ref l, .int 0 0] }).push { cls := .type "enumerate", data := .fields #[.none, .bool false, .ref s.heap.objs.size, rawInt 0, .none, .none] } }) :=
  .of_wp fun prog w A R s h => by
    obtain ⟨hp, g, d, tk, os⟩ := s
    obtain ⟨hl, h⟩ := h
    have hL : hp.IsTuple l items := ⟨_, hl, rfl, n, rfl⟩
    have hsub := sub_enumerate
    wp_walk using wpAny_loadPart' hl, wpAny_pyIter_tuple hL
    refine wpAny_stack_any fun st => wpAny_pure ?_
    split
    · rename_i c _ _ _ _ _
      cases hce : (c == Value.type "enumerate") <;> (wp_walk using wpAny_loadPart' hl, wpAny_pyIter_tuple hL; exact ⟨_, rfl, h⟩)
    · wp_walk using wpAny_loadPart' hl, wpAny_pyIter_tuple hL
      exact ⟨_, rfl, h⟩
theorem call_enum_tup {prog : Program} {w : World} {A : Around} {E : Value → Shared → Prop} {s : Shared} {l : Addr} {items : Array Value} {Q : Value → Shared → Prop} (hL : s.heap.IsTuple l items)
    (h : ∀ h', IsEnum h' (s.heap.objs.size + 1) s.heap.objs.size 0 .none → h'.IsTupleIter s.heap.objs.size l 0 → h'.objs.size = s.heap.objs.size + 2 → (∀ b o, s.heap.get? b = some o → h'.get? b = some o) → Q (.ref (s.heap.objs.size + 1)) { s with heap := h' }) :
    wpAny (model prog w) A (call (.type "enumerate") [.ref l]) Q E s := by
  obtain ⟨⟨c, dct, dt, sl⟩, hl, hc, n, hd⟩ := hL
  simp only at hc hd
  subst hc hd
  refine callType_new F.called_enumerate (by decide) (F.typeCall_enumerate_1 _) (F.newCall_enumerate_1 _) (fun obj => F.args_object_init_2 obj _) F.entry_enumerate_new (meets_enum_tup l items n dct sl) ⟨hl, ?_⟩
  have hz : (s.heap.push { cls := .type "tuple_iterator", data := .fields #[.ref l, .int 0 0] }).objs.size = s.heap.objs.size + 1 := Heap.size_push ..
  show _ ∧ _
  rw [hz]
  have he : IsEnum ((s.heap.push { cls := .type "tuple_iterator", data := .fields #[.ref l, .int 0 0] }).push { cls := .type "enumerate", data := .fields #[.none, .bool false, .ref s.heap.objs.size, rawInt 0, .none, .none] }) (s.heap.objs.size + 1) s.heap.objs.size 0 .none := by
    have q := Heap.get?_push_size (s.heap.push { cls := .type "tuple_iterator", data := .fields #[.ref l, .int 0 0] }) (o := { cls := .type "enumerate", data := .fields #[.none, .bool false, .ref s.heap.objs.size, rawInt 0, .none, .none] }) rfl
    rw [hz] at q; exact q
  exact ⟨⟨_, he, rfl⟩, h _ he ⟨_, Heap.get?_push_of_some _ (Heap.get?_push_size _ rfl), rfl, rfl⟩ (by rw [Heap.size_push, hz]) fun b o x => Heap.get?_push_of_some _ (Heap.get?_push_of_some _ x)⟩
def IteT (K : PySem.W.Frag) (a : Addr) : It where
  go := fun i H => ∃ (xs : List V) (x : V), SqT K H a xs ∧ xs[i]? = some x
  yld := fun i H v H' => ∃ T x, v = .ref T ∧ H T = none ∧ (∃ o : Obj, o.dict = none ∧ H' = upd H T (.frz o (.tup [.int (i : Nat), x]))) ∧ ∀ xs, SqT K H a xs → xs[i]? = some x
  stop := fun i H => ∃ xs : List V, SqT K H a xs ∧ xs.length = i
theorem turn_enumT {P : Program} {w : World} {K : PySem.W.Frag} {elts : List Expr} {kk : Nat} {tpos : Pos} (a e it : Addr) (items : Array Value) : Turn P w K (.Tuple elts kk tpos) (IteT K a) [e, it] e
    (fun i h => (∃ old, IsEnum h e it ((i : Nat) : Int) old) ∧ h.IsTupleIter it a i ∧ e ≠ it ∧ a ≠ it ∧ a ≠ e) where
  mem := by simp
  obj := fun i h st b hb => by
    obtain ⟨⟨old, he⟩, ⟨o, ho, hc, hd⟩, _⟩ := st
    have e' : b = e ∨ b = it := by simpa using hb
    rcases e' with rfl | rfl
    · exact ⟨_, he, fun v q => nomatch q⟩
    · exact ⟨o, ho, fun v q => by rw [hd] at q; cases q⟩
  keep := fun i h h' st k => let ⟨⟨old, he⟩, hi, hne⟩ := st; ⟨⟨old, k e (by simp) _ he⟩, hi.at fun o q => k it (by simp) o q, hne⟩
  item := by
    intro X hP hw hK hc i pins s σ H E I hf st hg
    subst hP hw hK
    obtain ⟨⟨old, he⟩, hit, hne, hai, hae⟩ := st
    obtain ⟨xs, x, hq, hx⟩ := hg
    obtain ⟨its, rv, p, hz⟩ := I.tuple hq
    obtain ⟨u, hu, ru⟩ := rv.get hx
    have hel : e < s.heap.objs.size := Heap.lt_size he
    have hil : it < s.heap.objs.size := by obtain ⟨_, q, _⟩ := hit; exact Heap.lt_size q
    have hlt : i < its.length := (List.getElem?_eq_some_iff.mp hu).1
    have DR := Draws.tuple (prog := X.prog) (w := X.w) (A := X.A.in1) (show X.A.in1.handled = none from I.ok.hd hc) it a hai its.toArray
    refine wpAny_pyNext_enum_itemD DR he ⟨hit, p⟩ (by simpa using hlt) hne (by simp [hne, Ne.symm hae]) fun y h' tk hy ho hit' hT hsz hk => ?_
    have hyu : y = u := by
      have hy : its.toArray[i]? = some y := hy
      have : its[i]? = some y := by simpa using hy
      exact Option.some.inj (this.symm.trans hu)
    subst hyu
    refine ⟨_, rfl, wpAny_letOwnedTupleGo_enum (s := { s with heap := h', toks := tk + 1 }) ho fun h'' he' sb => ?_⟩
    have hT2 : h''.get? s.heap.objs.size = some { cls := .type "tuple", data := .seq #[.int i tk, y] } := (sb.2 _ (Nat.ne_of_gt hel)).trans hT
    have new : ObjOk X.prog X.w (upd H s.heap.objs.size (.frz (tupOb [.int i tk, y]) (.tup [.int (i : Nat), x]))) h'' s.heap.objs.size (.frz (tupOb [.int i tk, y]) (.tup [.int (i : Nat), x])) :=
      ⟨hT2, by show 2 ≤ sizeLine; decide, [.int i tk, y], .cons ⟨_, rfl⟩ (.cons ru .nil), ⟨_, hT2, rfl, _, rfl⟩⟩
    have I1 : L2.Inv X pins σ (upd H s.heap.objs.size (.frz (tupOb [.int i tk, y]) (.tup [.int (i : Nat), x]))) { s with heap := h'', toks := tk + 1 } := by
      refine I.turnedNew (ch := [e, it]) (fun b ob hb q => ?_) hf (Nat.le_refl _) new
      have n1 : b ≠ e := fun z => hb (by simp [z])
      have n2 : b ≠ it := fun z => hb (by simp [z])
      exact (sb.2 b n1).trans (hk b ob n1 n2 q)
    refine ⟨.ref s.heap.objs.size, _, I1, rfl, ⟨_, x, rfl, I.hok.fresh (Nat.le_refl _), ⟨_, rfl, rfl⟩, fun ys hy => by rw [I.tuple_inj hy hq]; exact hx⟩, ⟨⟨y, ?_⟩, hit'.1.at fun o q => (sb.2 it (Ne.symm hne)).trans q, hne, hai, hae⟩, fun b hb => ?_⟩
    · have e1 : ((i + 1 : Nat) : Int) = (i : Int) + 1 := by omega
      rw [e1]; exact he'
    · have e' : b = e ∨ b = it := by simpa using hb
      have hb' : b < s.heap.objs.size := by rcases e' with rfl | rfl <;> assumption
      rw [upd_ne (Nat.ne_of_lt hb')]
      exact (hf b hb).1
  done := by
    intro X hP hw hK hc i pins s σ H E I hf st hg
    subst hP hw hK
    obtain ⟨⟨old, he⟩, hit, hne, hai, hae⟩ := st
    obtain ⟨xs, hq, hx⟩ := hg
    obtain ⟨its, rv, p, hz⟩ := I.tuple hq
    obtain ⟨f0, f1, f2, f3, f4, f5⟩ := hf it (by simp)
    have hl := rv.length
    have DR := Draws.tuple (prog := X.prog) (w := X.w) (A := X.A.in1) (show X.A.in1.handled = none from I.ok.hd hc) it a hai its.toArray
    have hi : i = its.toArray.size := by rw [List.size_toArray]; omega
    refine wpAny_pyNext_enum_endD DR he (by rw [← hi]; exact ⟨hit, p⟩) fun h' eb => ⟨rfl, ?_⟩
    exact I.turned (t' := s.toks) (fun b o hb q => eb b o hb q) f0 f1 f3 f4 f5
  self := fun A i s Q E st h => let ⟨⟨_, he⟩, _⟩ := st; wpAny_pyIter_enum he h
def IteL (K : PySem.W.Frag) (a : Addr) : It where
  go := fun i H => ∃ (xs : List V) (x : V), SqL K H a xs ∧ xs[i]? = some x
  yld := fun i H v H' => ∃ T x, v = .ref T ∧ H T = none ∧ (∃ o : Obj, o.dict = none ∧ H' = upd H T (.frz o (.tup [.int (i : Nat), x]))) ∧ ∀ xs, SqL K H a xs → xs[i]? = some x
  stop := fun i H => ∃ xs : List V, SqL K H a xs ∧ xs.length ≤ i
theorem turn_enumL {P : Program} {w : World} {K : PySem.W.Frag} {elts : List Expr} {kk : Nat} {tpos : Pos} (a e it : Addr) :
    Turn P w K (.Tuple elts kk tpos) (IteL K a) [e, it] e (fun i h => (∃ old, IsEnum h e it ((i : Nat) : Int) old) ∧ h.IsListIter it a i ∧ e ≠ it) where
  mem := by simp
  obj := fun i h st b hb => by
    obtain ⟨⟨old, he⟩, ⟨o, ho, hc, hd⟩, _⟩ := st
    have e' : b = e ∨ b = it := by simpa using hb
    rcases e' with rfl | rfl
    · exact ⟨_, he, fun v q => nomatch q⟩
    · exact ⟨o, ho, fun v q => by rw [hd] at q; cases q⟩
  keep := fun i h h' st k => let ⟨⟨old, he⟩, hi, hne⟩ := st; ⟨⟨old, k e (by simp) _ he⟩, hi.at fun o q => k it (by simp) o q, hne⟩
  item := by
    intro X hP hw hK hc i pins s σ H E I hf st hg
    subst hP hw hK
    obtain ⟨⟨old, he⟩, hit, hne⟩ := st
    obtain ⟨xs, x, hq, hx⟩ := hg
    obtain ⟨its, rv, p, hz⟩ := I.list hq
    obtain ⟨u, hu, ru⟩ := rv.get hx
    have hel : e < s.heap.objs.size := Heap.lt_size he
    have hil : it < s.heap.objs.size := by obtain ⟨_, q, _⟩ := hit; exact Heap.lt_size q
    refine wpAny_pyNext_enum_item he hit p.isList (x := u) (by simpa using hu) hne fun h' ho hit' hT hsz hk => ?_
    refine ⟨_, rfl, wpAny_letOwnedTupleGo_enum (s := { s with heap := h', toks := s.toks + 1 }) ho fun h'' he' sb => ?_⟩
    have hT2 : h''.get? s.heap.objs.size = some { cls := .type "tuple", data := .seq #[.int i s.toks, u] } := (sb.2 _ (Nat.ne_of_gt hel)).trans hT
    have new : ObjOk X.prog X.w (upd H s.heap.objs.size (.frz (tupOb [.int i s.toks, u]) (.tup [.int (i : Nat), x]))) h'' s.heap.objs.size (.frz (tupOb [.int i s.toks, u]) (.tup [.int (i : Nat), x])) :=
      ⟨hT2, by show 2 ≤ sizeLine; decide, [.int i s.toks, u], .cons ⟨_, rfl⟩ (.cons ru .nil), ⟨_, hT2, rfl, _, rfl⟩⟩
    have I1 : L2.Inv X pins σ (upd H s.heap.objs.size (.frz (tupOb [.int i s.toks, u]) (.tup [.int (i : Nat), x]))) { s with heap := h'', toks := s.toks + 1 } :=
      I.turnedNew (ch := [e, it]) (fun b ob hb q => (sb.2 b (fun z => hb (by simp [z]))).trans (hk b ob (fun z => hb (by simp [z])) (fun z => hb (by simp [z])) q)) hf (Nat.le_refl _) new
    refine ⟨.ref s.heap.objs.size, _, I1, rfl, ⟨_, x, rfl, I.hok.fresh (Nat.le_refl _), ⟨_, rfl, rfl⟩, fun ys hy => by rw [I.list_inj hy hq]; exact hx⟩, ⟨⟨u, ?_⟩, hit'.at fun o q => (sb.2 it (Ne.symm hne)).trans q, hne⟩, fun b hb => ?_⟩
    · have e1 : ((i + 1 : Nat) : Int) = (i : Int) + 1 := by omega
      rw [e1]; exact he'
    · have hb' : b < s.heap.objs.size := by
        have e' : b = e ∨ b = it := by simpa using hb
        rcases e' with rfl | rfl <;> assumption
      rw [upd_ne (Nat.ne_of_lt hb')]
      exact (hf b hb).1
  done := by
    intro X hP hw hK hc i pins s σ H E I hf st hg
    subst hP hw hK
    obtain ⟨⟨old, he⟩, hit, hne⟩ := st
    obtain ⟨xs, hq, hx⟩ := hg
    obtain ⟨its, rv, p, hz⟩ := I.list hq
    obtain ⟨f0, f1, f2, f3, f4, f5⟩ := hf it (by simp)
    have hl := rv.length
    exact wpAny_pyNext_enum_end (I.ok.hd hc) he hit p.isList (by simp; omega) fun h' eb => ⟨rfl, I.turned (t' := s.toks) (fun b o hb q => eb b o hb q) f0 f1 f3 f4 f5⟩
  self := fun A i s Q E st h => let ⟨⟨_, he⟩, _⟩ := st; wpAny_pyIter_enum he h
section
variable {X : Cx} {tg : Expr}
def iEnumA (K : PySem.W.Frag) (ta : TA) : TI := fun σ H R => ta σ H fun vs H1 => ∃ a xs, vs = [.ref a] ∧ ((SqL K H1 a xs ∧ R (IteL K a) H1) ∨ (SqT K H1 a xs ∧ R (IteT K a) H1))
theorem pi_enumA {e : Expr} {ta : TA} {p pos tpos : Pos} {elts : List Expr} {kk : Nat} (hg : Gl X "enumerate") (hm : X.mg "enumerate" = none) (ha : PA X [e] ta) (hs : starEach [e] X.env = [(false, eval e X.env)] := by rfl) :
    PI X (.Tuple elts kk tpos) (.Call (.Name "enumerate" p) [e] [] pos) (iEnumA X.K ta) := by
  refine ⟨fun pins s σ H R I h => ?_⟩
  refine PyProof.Rows.Call_ (ld_blt I hg hm PyProof.Rows.boot_enumerate (PyProof.Rows.callWith_type1 (thn (ha.run pos pins s σ H _ I h) fun us s1 ⟨vs, H1, I1, r1, q1⟩ => ?_) hs rfl))
  obtain ⟨a, xs, ex, q1⟩ := q1
  subst ex
  obtain ⟨u, rfl, ru⟩ := vals1 r1
  cases ru
  have fp2 : ∀ b ∈ [s1.heap.objs.size + 1, s1.heap.objs.size], FpOk X pins H1 b := fun b hb => by
    have hle : s1.heap.objs.size ≤ b := by
      simp only [List.mem_cons, List.not_mem_nil, or_false] at hb
      rcases hb with z | z
      · rw [z]; exact Nat.le_add_right _ _
      · rw [z]; exact Nat.le_refl _
    exact I1.fpOk hle (I1.hok.fresh hle)
  rcases q1 with ⟨hq, q⟩ | ⟨hq, q⟩
  · obtain ⟨its, rv, p', hz⟩ := I1.list hq
    refine call_enumerate_list p'.isList fun h' he hit hsz hk => wpAny_pyIter_enum he ?_
    have I2 : L2.Inv X pins σ H1 { s1 with heap := h' } := I1.kept (t' := s1.toks) hk
    exact ⟨s1.heap.objs.size + 1, _, _, _, H1, rfl, I2, turn_enumL a (s1.heap.objs.size + 1) s1.heap.objs.size, ⟨⟨.none, he⟩, hit, Nat.succ_ne_self _⟩, fp2, q⟩
  · obtain ⟨its, rv, p', hz⟩ := I1.tuple hq
    have hal : a < s1.heap.objs.size := by obtain ⟨o, ho, _⟩ := p'; exact Heap.lt_size ho
    refine call_enum_tup (show s1.heap.IsTuple a its.toArray from p') fun h' he hit hsz hk => wpAny_pyIter_enum he ?_
    have I2 : L2.Inv X pins σ H1 { s1 with heap := h' } := I1.kept (t' := s1.toks) hk
    exact ⟨s1.heap.objs.size + 1, _, _, _, H1, rfl, I2, turn_enumT a (s1.heap.objs.size + 1) s1.heap.objs.size its.toArray, ⟨⟨.none, he⟩, hit, Nat.succ_ne_self _, Nat.ne_of_lt hal, Nat.ne_of_lt (Nat.lt_succ_of_lt hal)⟩, fp2, q⟩
/-- a list or a tuple walked -/
def iSq (K : PySem.W.Frag) (te : TE) : TI := fun σ H R => te σ H fun x H1 => ∃ a xs, x = .ref a ∧ ((SqL K H1 a xs ∧ R (Itl K a) H1) ∨ (SqT K H1 a xs ∧ R (Itt K a) H1))
theorem pi_sq {l : Expr} {te : TE} (he : PE X l te) : PI X tg l (iSq X.K te) := by
  refine ⟨fun pins s σ H R I h => thn (he.run pins s σ H _ I h) fun v s1 ⟨x, H1, I1, r1, a, xs, ex, q⟩ => ?_⟩
  subst ex
  cases r1
  have fp1 : ∀ b ∈ [s1.heap.objs.size], FpOk X pins H1 b := fun b hb => by
    rw [List.mem_singleton] at hb
    subst hb
    exact I1.fpOk (Nat.le_refl _) (I1.hok.fresh (Nat.le_refl _))
  rcases q with ⟨hq, q⟩ | ⟨hq, q⟩
  · obtain ⟨its, rv, p, _⟩ := I1.list hq
    exact wpAny_pyIter_list p.isList ⟨s1.heap.objs.size, _, _, _, H1, rfl, I1.kept (t' := s1.toks) fun b o e => Heap.get?_push_of_some _ e, turn_list a _, ⟨_, Heap.get?_push_size _ rfl, rfl, rfl⟩, fp1, q⟩
  · obtain ⟨its, rv, p, _⟩ := I1.tuple hq
    exact wpAny_pyIter_tuple (show s1.heap.IsTuple a its.toArray from p) ⟨s1.heap.objs.size, _, _, _, H1, rfl, I1.kept (t' := s1.toks) fun b o e => Heap.get?_push_of_some _ e, turn_tuple a _, ⟨_, Heap.get?_push_size _ rfl, rfl, rfl⟩, fp1, q⟩
end

/-! ## plans -/
def plV (ds : List D) : Plan := fun i _ => match ds[i]? with
  | some d => .item d
  | none => if i = ds.length then .stop else .no
def plL (j : Nat) : Plan := fun i h => match getL h j with
  | some ds => match ds[i]? with
    | some d => .item d
    | none => .stop
  | none => .no
def plR (lo c : Int) (n : Nat) : Plan := fun i _ => if i < n then .item (.int (lo + i * c)) else .stop
def numb (pl : Plan) : Plan := fun i h => match pl i h with
  | .item d => .item (.tup [.int (i : Nat), d])
  | r => r
/-- plans of a sequence -/
def planOf (h : Hh) : D → Option (Plan × Nat)
  | .tup ds => some (plV ds, ds.length)
  | .scr ns => some (plV (ns.map D.int), ns.length)
  | .ref j => (getL h j).map fun ds => (plL j, ds.length)
  | _ => none
section
variable {K : PySem.W.Frag} {T : List (Addr × Str)} {H : Hp} {f : List Addr} {a : Addr} {ds : List D} {vs : List V}
theorem plans_tup (hs : SqT K H a vs) (r : VRs K H f ds vs) : Plans K T H f (Itt K a) (plV ds) := fun i H' f' h' s hr tb => by
  unfold plV
  have hs' := sqT_lo s hs
  cases q : ds[i]? with
  | none =>
    dsimp only
    by_cases hi : i = ds.length
    · rw [if_pos hi]; exact ⟨vs, hs', by rw [← r.len]; exact List.getElem?_eq_none_iff.mp q⟩
    · rw [if_neg hi]; trivial
  | some d =>
    obtain ⟨v, hv, rv⟩ := r.get q
    refine ⟨⟨vs, v, hs', hv⟩, fun x H2 y => ?_⟩
    obtain ⟨rfl, y⟩ := y
    have : x = v := Option.some.inj ((y vs hs').symm.trans hv)
    subst this
    exact ⟨Step.refl, rv.lo s, hr, tb⟩
theorem plans_scr {ns : List Int} (hs : RoL K H a (ns.map V.int)) : Plans K T H f (Itl K a) (plV (ns.map D.int)) := fun i H' f' h' s hr tb => by
  unfold plV
  have hs' := (hs.lo s).sq
  rw [List.getElem?_map]
  cases q : ns[i]? with
  | none =>
    dsimp only [Option.map_none]
    by_cases hi : i = (ns.map D.int).length
    · rw [if_pos hi]; exact ⟨_, hs', by rw [List.length_map]; exact List.getElem?_eq_none_iff.mp q⟩
    · rw [if_neg hi]; trivial
  | some n =>
    have hv : (ns.map V.int)[i]? = some (.int n) := by rw [List.getElem?_map, q]; rfl
    refine ⟨⟨_, _, hs', hv⟩, fun x H2 y => ?_⟩
    obtain ⟨rfl, y⟩ := y
    have : x = .int n := Option.some.inj ((y _ hs').symm.trans hv)
    subst this
    exact ⟨Step.refl, .int n, hr, tb⟩
theorem plans_lst {j : Nat} (e : f[j]? = some a) : Plans K T H f (Itl K a) (plL j) := fun i H' f' h' s hr tb => by
  unfold plL
  cases g : getL h' j with
  | none => trivial
  | some es =>
    obtain ⟨ws, hw, r⟩ := hr.getL (s.pre _ _ e) g
    dsimp only
    cases q : es[i]? with
    | none => exact ⟨ws, SqL.of hw, by rw [← r.len]; exact List.getElem?_eq_none_iff.mp q⟩
    | some d =>
      obtain ⟨v, hv, rv⟩ := r.get q
      refine ⟨⟨ws, v, SqL.of hw, hv⟩, fun x H2 y => ?_⟩
      obtain ⟨rfl, y⟩ := y
      have : x = v := Option.some.inj ((y ws (SqL.of hw)).symm.trans hv)
      subst this
      exact ⟨Step.refl, rv, hr, tb⟩
theorem plans_rng {lo : Int} {n : Nat} : Plans K T H f (Itr lo n) (plR lo 1 n) := fun i H' f' h' s hr tb => by
  unfold plR
  by_cases hi : i < n
  · rw [if_pos hi]
    refine ⟨hi, fun x H2 y => ?_⟩
    obtain ⟨rfl, rfl⟩ := y
    refine ⟨Step.refl, ?_, hr, tb⟩
    rw [show (i : Int) * 1 = i from Int.mul_one _]
    exact .int _
  · rw [if_neg hi]
    exact Nat.le_of_not_lt hi
theorem plans_rngC {lo c : Int} {n : Nat} : Plans K T H f (Itc lo c n) (plR lo c n) := fun i H' f' h' s hr tb => by
  unfold plR
  by_cases hi : i < n
  · rw [if_pos hi]
    refine ⟨hi, fun x H2 y => ?_⟩
    obtain ⟨rfl, rfl⟩ := y
    exact ⟨Step.refl, .int _, hr, tb⟩
  · rw [if_neg hi]
    exact Nat.le_of_not_lt hi
theorem pair_new {H : Hp} {h : Hh} {p : Addr} {o : Obj} {d e : D} {x y : V} (n : H p = none) (hd : o.dict = none) (hr : HR K H f h) (tb : LamX.Tabs T H) (rd : VR K H f d x) (re : VR K H f e y) : Step H f (upd H p (.frz o (.tup [x, y]))) f ∧ VR K (upd H p (.frz o (.tup [x, y]))) f (.tup [d, e]) (.ref p) ∧ HR K (upd H p (.frz o (.tup [x, y]))) f h ∧ LamX.Tabs T (upd H p (.frz o (.tup [x, y]))) :=
  ⟨Step.fresh n, .tup (.mk upd_same hd) (.cons (rd.step (Step.fresh n)) (.cons (re.step (Step.fresh n)) .nil)), hr.fresh n, tabs_alloc tb n⟩
theorem plans_enumL {j : Nat} (e : f[j]? = some a) : Plans K T H f (IteL K a) (numb (plL j)) := fun i H' f' h' s hr tb => by
  unfold numb plL
  cases g : getL h' j with
  | none => trivial
  | some es =>
    obtain ⟨ws, hw, r⟩ := hr.getL (s.pre _ _ e) g
    dsimp only
    cases q : es[i]? with
    | none => exact ⟨ws, SqL.of hw, by rw [← r.len]; exact List.getElem?_eq_none_iff.mp q⟩
    | some d =>
      obtain ⟨v, hv, rv⟩ := r.get q
      refine ⟨⟨ws, v, SqL.of hw, hv⟩, fun x H2 y => ?_⟩
      obtain ⟨p, x', rfl, np, ⟨o, hd, rfl⟩, y⟩ := y
      have : x' = v := Option.some.inj ((y ws (SqL.of hw)).symm.trans hv)
      subst this
      exact pair_new np hd hr tb (.int _) rv
theorem plans_enumT (hs : SqT K H a vs) (r : VRs K H f ds vs) : Plans K T H f (IteT K a) (numb (plV ds)) := fun i H' f' h' s hr tb => by
  unfold numb plV
  have hs' := sqT_lo s hs
  cases q : ds[i]? with
  | none =>
    dsimp only
    by_cases hi : i = ds.length
    · rw [if_pos hi]; exact ⟨vs, hs', by rw [← r.len]; exact hi.symm⟩
    · rw [if_neg hi]; trivial
  | some d =>
    obtain ⟨v, hv, rv⟩ := r.get q
    refine ⟨⟨vs, v, hs', hv⟩, fun x H2 y => ?_⟩
    obtain ⟨p, x', rfl, np, ⟨o, hd, rfl⟩, y⟩ := y
    have : x' = v := Option.some.inj ((y vs hs').symm.trans hv)
    subst this
    exact pair_new np hd hr tb (.int _) (rv.lo s)
end
/-! ## the walks of a text -/
def mSeqI (m : EM) : IM := fun env h => (m env h).bind fun d h1 => match planOf h1 d with
  | some p => .ok p h1
  | none => .no
def mEnumI (r : AM) : IM := fun env h => (r env h).bind fun ds h1 => match ds with
  | [.tup es] => .ok (numb (plV es), es.length) h1
  | [.ref j] => match getL h1 j with
    | some es => .ok (numb (plL j), es.length) h1
    | none => .no
  | _ => .no
def rngOk (i : Int) : Bool := Nat.blt i.natAbs 4611686018427387904
def mRng1 (r : AM) : IM := fun env h => (r env h).bind fun ds h1 => match ds with
  | [.int j] => if rngOk j then .ok (plR 0 1 j.toNat, j.toNat) h1 else .no
  | _ => .no
def mRng2 (r : AM) : IM := fun env h => (r env h).bind fun ds h1 => match ds with
  | [.int i, .int j] => if rngOk i && rngOk j then .ok (plR i 1 (j - i).toNat, (j - i).toNat) h1 else .no
  | _ => .no
def mRng3 (r : AM) : IM := fun env h => (r env h).bind fun ds h1 => match ds with
  | [.int i, .int j, .int (-1)] => if rngOk i && rngOk j then .ok (plR i (-1) (i - j).toNat, (i - j).toNat) h1 else .no
  | _ => .no
section
variable {X : Cx} {T : List (Addr × Str)} {E : XK} {pos : Pos} {tg e a b c : Expr} {me : EM} {ms : AM}
theorem I_sq (he : XE X T E e me) : XI X T E tg e (mSeqI me) :=
  (pi_sq he).imp fun σ H Q ⟨env, f, h, S, p⟩ => ⟨env, f, h, S, PostG.bind p fun d1 h1 v1 H1 f1 s1 r1 hr1 tb1 p1 => by
    cases r1 with
    | tup ht hv => exact ⟨_, _, rfl, .inr ⟨ht.t, PostG.now p1 (plans_tup ht.t hv) hr1 tb1⟩⟩
    | scr hs => exact ⟨_, _, rfl, .inl ⟨hs.sq, PostG.now p1 (plans_scr hs) hr1 tb1⟩⟩
    | @ref j a e1 =>
      dsimp only [planOf] at p1
      cases g : getL h1 j with
      | none => rw [g] at p1; exact p1.elim
      | some es =>
        rw [g] at p1
        obtain ⟨vs, hv, _⟩ := hr1.getL e1 g
        exact ⟨_, _, rfl, .inl ⟨SqL.of hv, PostG.now p1 (plans_lst e1) hr1 tb1⟩⟩
    | _ => exact p1.elim⟩
theorem I_enum {p tpos : Pos} {elts : List Expr} {kk : Nat} (hg : Gl X "enumerate") (hm : X.mg "enumerate" = none) (ha : XA X T E [e] ms) (hs : starEach [e] X.env = [(false, eval e X.env)] := by rfl) :
    XI X T E (.Tuple elts kk tpos) (.Call (.Name "enumerate" p) [e] [] pos) (mEnumI ms) :=
  (pi_enumA hg hm ha hs).imp fun σ H Q ⟨env, f, h, S, p⟩ => ⟨env, f, h, S, PostG.bind p fun d1 h1 v1 H1 f1 s1 r1 hr1 tb1 p1 => by
    match d1, r1, p1 with
    | [.tup es], .cons (.tup ht hv) .nil, p1 => exact ⟨_, _, rfl, .inr ⟨ht.t, PostG.now p1 (plans_enumT ht.t hv) hr1 tb1⟩⟩
    | [.ref j], .cons (.ref e1) .nil, p1 =>
      dsimp only at p1
      cases g : getL h1 j with
      | none => rw [g] at p1; exact p1.elim
      | some es =>
        rw [g] at p1
        obtain ⟨vs, hv, _⟩ := hr1.getL e1 g
        exact ⟨_, _, rfl, .inl ⟨SqL.of hv, PostG.now p1 (plans_enumL e1) hr1 tb1⟩⟩⟩
theorem rng_ok {i : Int} (h : rngOk i = true) : -(2 ^ 62) ≤ i ∧ i < 2 ^ 62 := by
  unfold rngOk at h
  rw [Nat.blt_eq] at h
  omega
theorem I_rng1 {p : Pos} (hg : Gl X "range") (hm : X.mg "range" = none) (ha : XA X T E [a] ms) (hs : starEach [a] X.env = [(false, eval a X.env)] := by rfl) : XI X T E tg (.Call (.Name "range" p) [a] [] pos) (mRng1 ms) :=
  (pi_range1 hg hm ha hs).imp fun σ H Q ⟨env, f, h, S, p⟩ => ⟨env, f, h, S, PostG.bind p fun d1 h1 v1 H1 f1 s1 r1 hr1 tb1 p1 => by
    match d1, r1, p1 with
    | [.int j], .cons (.int _) .nil, p1 =>
      dsimp only at p1
      by_cases hj : rngOk j = true
      · rw [if_pos hj] at p1
        exact ⟨j, rfl, (rng_ok hj).1, (rng_ok hj).2, PostG.now p1 plans_rng hr1 tb1⟩
      · rw [if_neg hj] at p1; exact p1.elim⟩
theorem I_rng2 {p : Pos} (hg : Gl X "range") (hm : X.mg "range" = none) (ha : XA X T E [a, b] ms) (hs : starEach [a, b] X.env = [(false, eval a X.env), (false, eval b X.env)] := by rfl) (hs2 : starEach [b] X.env = [(false, eval b X.env)] := by rfl) : XI X T E tg (.Call (.Name "range" p) [a, b] [] pos) (mRng2 ms) :=
  (pi_range2 hg hm ha hs hs2).imp fun σ H Q ⟨env, f, h, S, p⟩ => ⟨env, f, h, S, PostG.bind p fun d1 h1 v1 H1 f1 s1 r1 hr1 tb1 p1 => by
    match d1, r1, p1 with
    | [.int i, .int j], .cons (.int _) (.cons (.int _) .nil), p1 =>
      dsimp only at p1
      by_cases hj : (rngOk i && rngOk j) = true
      · rw [if_pos hj] at p1
        rw [Bool.and_eq_true] at hj
        exact ⟨i, j, rfl, ⟨(rng_ok hj.1).1, (rng_ok hj.1).2, (rng_ok hj.2).1, (rng_ok hj.2).2⟩, PostG.now p1 plans_rng hr1 tb1⟩
      · rw [if_neg hj] at p1; exact p1.elim⟩
theorem I_rng3 {p : Pos} (hg : Gl X "range") (hm : X.mg "range" = none) (ha : XA X T E [a, b, c] ms) (hs : starEach [a, b, c] X.env = (false, eval a X.env) :: starEach [b, c] X.env := by rfl) (hpl : (backTo pos (starEach [b, c] X.env)).any (·.1) = false := by rfl) : XI X T E tg (.Call (.Name "range" p) [a, b, c] [] pos) (mRng3 ms) :=
  (pi_range3 hg hm ha hs hpl).imp fun σ H Q ⟨env, f, h, S, p⟩ => ⟨env, f, h, S, PostG.bind p fun d1 h1 v1 H1 f1 s1 r1 hr1 tb1 p1 => by
    split at p1
    · rename_i i j
      by_cases hj : (rngOk i && rngOk j) = true
      · rw [if_pos hj] at p1
        rw [Bool.and_eq_true] at hj
        match r1 with
        | .cons (.int _) (.cons (.int _) (.cons (.int _) .nil)) =>
          exact ⟨i, j, -1, _, rfl, RgC.neg (rng_ok hj.1).1 (rng_ok hj.1).2 (rng_ok hj.2).1 (rng_ok hj.2).2, PostG.now p1 plans_rngC hr1 tb1⟩
      · rw [if_neg hj] at p1; exact p1.elim
    · exact p1.elim⟩
end
end CB

set_option maxRecDepth 100000
namespace CB
open PySem PySem.Spec
open L2

/-! ## targets that only bind slots -/
abbrev KB := D → Option (List (Nat × D))
def apE (as : List (Nat × D)) (env : Env') : Env' := as.foldl (fun env p => env.set p.1 (some p.2)) env
def apS (ws : List (Nat × V)) (σ : St) : St := ws.foldl (fun σ p => σ.set p.1 (some p.2)) σ
inductive AS (K : PySem.W.Frag) (H : Hp) (f : List Addr) : List (Nat × D) → List (Nat × V) → Prop
  | nil : AS K H f [] []
  | cons {i : Nat} {d : D} {v : V} {as : List (Nat × D)} {ws : List (Nat × V)} : VR K H f d v → AS K H f as ws → AS K H f ((i, d) :: as) ((i, v) :: ws)
theorem AS.app {K : PySem.W.Frag} {H : Hp} {f : List Addr} : ∀ {as bs : List (Nat × D)} {ws us : List (Nat × V)}, AS K H f as ws → AS K H f bs us → AS K H f (as ++ bs) (ws ++ us)
  | _, _, _, _, .nil, s => s
  | _, _, _, _, .cons r t, s => .cons r (AS.app t s)
theorem AS.er {K : PySem.W.Frag} {H : Hp} {f : List Addr} {as : List (Nat × D)} {ws : List (Nat × V)} (a : AS K H f as ws) : ∀ {env : Env'} {σ : St}, ER K H f env σ → ER K H f (apE as env) (apS ws σ) := by
  induction a with
  | nil => exact fun e => e
  | @cons i d v as ws r t ih => exact fun e => ih (e.set r i)
def kN (i : Nat) : KB := fun d => some [(i, d)]
def ksNil : List D → Option (List (Nat × D))
  | [] => some []
  | _ => none
def ksCons (b : KB) (r : List D → Option (List (Nat × D))) : List D → Option (List (Nat × D))
  | d :: ds => match b d, r ds with
    | some x, some y => some (x ++ y)
    | _, _ => none
  | [] => none
def kT (n : Nat) (r : List D → Option (List (Nat × D))) : KB
  | .tup ds => if ds.length = n then r ds else none
  | _ => none
def tK (K : PySem.W.Frag) (b : KB) : TG := fun v σ H Q => ∃ d f as, VR K H f d v ∧ b d = some as ∧ ∀ ws, AS K H f as ws → Q (apS ws σ) H
def tKs (K : PySem.W.Frag) (b : List D → Option (List (Nat × D))) : TGs := fun vs σ H Q => ∃ ds f as, VRs K H f ds vs ∧ b ds = some as ∧ ∀ ws, AS K H f as ws → Q (apS ws σ) H
abbrev XKb (X : Cx) (tg : Expr) (b : KB) : Prop := PG X tg (tK X.K b)
abbrev XKs (X : Cx) (tg : List Expr) (b : List D → Option (List (Nat × D))) : Prop := PGs X tg (tKs X.K b)
def kIn (vs : List Nat) (b : KB) : Prop := ∀ d as, b d = some as → ∀ p ∈ as, p.1 ∈ vs
def ksIn (vs : List Nat) (b : List D → Option (List (Nat × D))) : Prop := ∀ d as, b d = some as → ∀ p ∈ as, p.1 ∈ vs
theorem kIn_nm {vs : List Nat} {i : Nat} (h : i ∈ vs := by decide) : kIn vs (kN i) := fun d as e p hp => by
  cases e
  rw [List.mem_singleton] at hp
  subst hp
  exact h
theorem ksIn_nil {vs : List Nat} : ksIn vs ksNil := fun d as e p hp => by
  cases d with
  | nil => cases e; cases hp
  | cons _ _ => cases e
theorem ksIn_cons {vs : List Nat} {b : KB} {r : List D → Option (List (Nat × D))} (h1 : kIn vs b) (h2 : ksIn vs r) : ksIn vs (ksCons b r) := fun d as e p hp => by
  cases d with
  | nil => cases e
  | cons d ds =>
    unfold ksCons at e
    dsimp only at e
    cases q1 : b d with
    | none => rw [q1] at e; cases e
    | some x =>
      cases q2 : r ds with
      | none => rw [q1, q2] at e; cases e
      | some y =>
        rw [q1, q2] at e
        cases e
        rcases List.mem_append.mp hp with hp | hp
        · exact h1 d x q1 p hp
        · exact h2 ds y q2 p hp
theorem kIn_tup {vs : List Nat} {n : Nat} {r : List D → Option (List (Nat × D))} (h : ksIn vs r) : kIn vs (kT n r) := fun d as e p hp => by
  cases d with
  | tup ds =>
    unfold kT at e
    dsimp only at e
    by_cases hl : ds.length = n
    · rw [if_pos hl] at e; exact h ds as e p hp
    · rw [if_neg hl] at e; cases e
  | _ => cases e
section
variable {X : Cx} {T : List (Addr × Str)} {E : XK} {pos : Pos}
theorem K_nm (i : Nat) {x : Str} (hN : X.N.Nodup) (hi : X.N[i]? = some x := by rfl) (hx : Loc X.env.scope x := by first | exact Or.inl rfl | exact Or.inr rfl) (hf : X.fn x = true ∨ X.env.scope.names.lookup x = some .local := by first | exact .inl rfl | exact .inr rfl) : XKb X (.Name x pos) (kN i) :=
  (pg_name hN hi hx hf).imp fun v σ H Q ⟨d, f, as, r, e, q⟩ => by
    cases e
    exact q [(i, v)] (.cons r .nil)
theorem Ks_nil : XKs X [] ksNil := pgs_nil.imp fun vs σ H Q ⟨ds, f, as, r, e, q⟩ => by
  cases r with
  | nil => cases e; exact ⟨rfl, q [] .nil⟩
  | cons _ _ => cases e
theorem Ks_cons {tg : Expr} {tgs : List Expr} {b : KB} {bs : List D → Option (List (Nat × D))} (h1 : XKb X tg b) (h2 : XKs X tgs bs) (hs : (assignEach (tg :: tgs) X.env).map (·.2) = assign tg X.env :: (assignEach tgs X.env).map (·.2) := by rfl) : XKs X (tg :: tgs) (ksCons b bs) :=
  (pgs_cons h1 h2 hs).imp fun vs σ H Q ⟨ds, f, as, r, e, q⟩ => by
    cases r with
    | nil => cases e
    | @cons d v ds vs a b' =>
      unfold ksCons at e
      dsimp only at e
      cases q1 : b d with
      | none => rw [q1] at e; cases e
      | some x =>
        cases q2 : bs ds with
        | none => rw [q1, q2] at e; cases e
        | some y =>
          rw [q1, q2] at e
          cases e
          refine ⟨v, vs, rfl, d, f, x, a, q1, fun ws hw => ⟨ds, f, y, b', q2, fun us hu => ?_⟩⟩
          have := q (ws ++ us) (hw.app hu)
          rw [apS, List.foldl_append] at this
          exact this
theorem K_tup {tgs : List Expr} {k n : Nat} {bs : List D → Option (List (Nat × D))} (hc : X.calm = true) (h : XKs X tgs bs) (hn : (assignEach tgs X.env).length = n := by rfl) (hst : (assignEach tgs X.env).findIdx? (·.1) = none := by rfl) : XKb X (.Tuple tgs k pos) (kT n bs) :=
  (pg_tup hc h hn hst).imp fun v σ H Q ⟨d, f, as, r, e, q⟩ => by
    cases r with
    | @tup a vs ds ht hv =>
      unfold kT at e
      dsimp only at e
      by_cases hl : ds.length = n
      · rw [if_pos hl] at e
        exact ⟨a, vs, rfl, ht.t, by rw [← hv.len]; exact hl, ds, f, as, hv, e, q⟩
      · rw [if_neg hl] at e; cases e
    | _ => cases e
def bK (b : KB) : BM := fun d env h => match b d with
  | some as => .nx (apE as env) h
  | none => .no
/-- .. as a target of a statement -/
theorem G_k {tg : Expr} {b : KB} (h : XKb X tg b) : XG X T E tg (bK b) :=
  h.imp fun v σ H Q ⟨d, env, f, h, r, S, p⟩ => by
    unfold bK at p
    cases q : b d with
    | none => rw [q] at p; exact p.elim
    | some as =>
      rw [q] at p
      exact ⟨d, f, as, r, q, fun ws hw => p _ H f Step.refl ⟨hw.er S.er, S.hr, S.tb⟩⟩
end

/-! ## comprehensions -/
def wipeE (env : Env') : List Nat → Env'
  | [] => env
  | v :: vs => (wipeE env vs).set v none
theorem ER.wipe {K : PySem.W.Frag} {H : Hp} {f : List Addr} {env : Env'} {σ : St} (e : ER K H f env σ) : ∀ vs : List Nat, ER K H f (wipeE env vs) (wipe σ vs)
  | [] => e
  | v :: vs => (ER.wipe e vs).unset v
theorem wipe_set {σ : St} {o : Option V} {i : Nat} : ∀ {vs : List Nat}, i ∈ vs → wipe (σ.set i o) vs = wipe σ vs
  | [], h => by cases h
  | v :: vs, h => by
    by_cases hi : i ∈ vs
    · show (wipe (σ.set i o) vs).set v none = (wipe σ vs).set v none
      rw [wipe_set hi]
    · have hv : i = v := by
        rcases List.mem_cons.mp h with h | h
        · exact h
        · exact absurd h hi
      subst hv
      have g : ∀ (us : List Nat) (τ : St), i ∉ us → wipe (τ.set i o) us = (wipe τ us).set i o := fun us => by
        induction us with
        | nil => intro τ _; rfl
        | cons u us ih =>
          intro τ hu
          have n1 : u ≠ i := fun z => hu (by rw [z]; exact List.mem_cons_self)
          have n2 : i ∉ us := fun z => hu (List.mem_cons_of_mem _ z)
          show (wipe (τ.set i o) us).set u none = ((wipe τ us).set u none).set i o
          rw [ih τ n2, List.set_comm _ _ (Ne.symm n1)]
      show (wipe (σ.set i o) vs).set i none = (wipe σ vs).set i none
      rw [g vs σ hi, List.set_set]
theorem wipe_ap {vs : List Nat} : ∀ {ws : List (Nat × V)} {σ : St}, (∀ p ∈ ws, p.1 ∈ vs) → wipe (apS ws σ) vs = wipe σ vs
  | [], _, _ => rfl
  | (i, v) :: ws, σ, h => by
    show wipe (apS ws (σ.set i (some v))) vs = wipe σ vs
    rw [wipe_ap fun p hp => h p (List.mem_cons_of_mem _ hp), wipe_set (h (i, v) List.mem_cons_self)]
theorem wipe_wipe {σ : St} : ∀ {us vs : List Nat}, (∀ i ∈ us, i ∈ vs) → wipe (wipe σ us) vs = wipe σ vs
  | [], _, _ => rfl
  | u :: us, vs, h => by
    show wipe ((wipe σ us).set u none) vs = wipe σ vs
    rw [wipe_set (h u List.mem_cons_self), wipe_wipe fun i hi => h i (List.mem_cons_of_mem _ hi)]
theorem AS.ix {K : PySem.W.Frag} {H : Hp} {f : List Addr} {vs : List Nat} : ∀ {as : List (Nat × D)} {ws : List (Nat × V)}, AS K H f as ws → (∀ p ∈ as, p.1 ∈ vs) → ∀ p ∈ ws, p.1 ∈ vs
  | _, _, .nil, _, p, hp => by cases hp
  | _, _, .cons (i := i) (d := d) r t, h, p, hp => by
    rcases List.mem_cons.mp hp with rfl | hp
    · exact h (i, d) List.mem_cons_self
    · exact AS.ix t (fun q hq => h q (List.mem_cons_of_mem _ hq)) p hp
def goC (pl : Plan) (env : Env') (b : KB) (t m : EM) : Nat → Nat → Hh → List D → R D
  | 0, _, _, _ => .no
  | n + 1, i, h, acc => match pl i h with
    | .no => .no
    | .stop => .ok (.ref h.length) (h ++ [.lst acc])
    | .item d => match b d with
      | none => .no
      | some as => match t (apE as env) h with
        | .ok (.bl true) h1 => match m (apE as env) h1 with
          | .ok y h2 => if acc.length < LN then goC pl env b t m n (i + 1) h2 (acc ++ [y]) else .no
          | _ => .no
        | .ok (.bl false) h1 => goC pl env b t m n (i + 1) h1 acc
        | _ => .no
def mLc (w : IM) (vs : List Nat) (b : KB) (t m : EM) : EM := fun env h => (w env h).bind fun p h1 => goC p.1 (wipeE env vs) b t m (p.2 + 1) 0 h1 []
abbrev E0' : L2.XK := fun _ _ _ => False
section
variable {X : Cx} {T : List (Addr × Str)} {E : L2.XK} {pos : Pos}
abbrev XPT (X : Cx) (T : List (Addr × Str)) (E : L2.XK) (ifs : List Expr) (m : EM) : Prop := PTs X ifs (tTest (tE X.K T X.mg E m))
theorem _root_.L2.PTs.imp {ifs : List Expr} {t t' : TT} (p : PTs X ifs t) (h : ∀ σ H Q, t' σ H Q → t σ H Q) : PTs X ifs t' := ⟨fun pins s σ H Q I q => p.run pins s σ H Q I (h σ H Q q)⟩
theorem PT_nil : XPT X T E [] (mC (.bl true)) := pts_nil.imp fun σ H Q ⟨env, f, h, S, p⟩ => by
  obtain ⟨k, e, q⟩ := PostG.now p (.bl true) S.hr S.tb
  cases e
  exact q
theorem PT_one {c : Expr} {m : EM} (h : XT X T E c m) : XPT X T E [c] m := pts_one h
theorem HR.know {K : PySem.W.Frag} {H : Hp} {f : List Addr} {h : Hh} {p : Addr} {vs : List V} {ds : List D} (R : HR K H f h) (n : p ∉ f) (hp : H p = some (.lst vs)) (r : VRs K H f ds vs)
    (s : Step H f H (f ++ [p]) → False → False := fun _ z => z) (hs : ∀ {d : D} {v : V}, VR K H f d v → VR K H (f ++ [p]) d v) (hss : ∀ {d : List D} {v : List V}, VRs K H f d v → VRs K H (f ++ [p]) d v) : HR K H (f ++ [p]) (h ++ [.lst ds]) where
  len := by rw [List.length_append, List.length_append, R.len]; rfl
  inj := fun i j a e1 e2 => by
    have key : ∀ {i : Nat} {a : Addr}, (f ++ [p])[i]? = some a → (f[i]? = some a) ∨ (i = f.length ∧ a = p) := fun {i a} e => by
      by_cases hi : i < f.length
      · rw [List.getElem?_append_left hi] at e; exact .inl e
      · rw [List.getElem?_append_right (by omega)] at e
        have h0 : i - f.length < 1 := (List.getElem?_eq_some_iff.mp e).1
        have h1 : i = f.length := by omega
        subst h1
        rw [Nat.sub_self] at e
        exact .inr ⟨rfl, (Option.some.inj e).symm⟩
    rcases key e1 with h1 | ⟨h1, rfl⟩ <;> rcases key e2 with h2 | ⟨h2, h3⟩
    · exact R.inj i j a h1 h2
    · subst h3; exact absurd (List.mem_of_getElem? h1) n
    · exact absurd (List.mem_of_getElem? h2) n
    · omega
  ob := fun i v e => by
    by_cases hi : i < h.length
    · rw [List.getElem?_append_left hi] at e
      obtain ⟨a, e1, q⟩ := R.ob i v e
      refine ⟨a, by rw [List.getElem?_append_left (List.getElem?_eq_some_iff.mp e1).1]; exact e1, ?_⟩
      cases v with
      | lst ds => obtain ⟨vs, e, r⟩ := q; exact ⟨vs, e, hss r⟩
      | dK kvs => obtain ⟨kws, e, k, r⟩ := q; exact ⟨kws, e, k, hss r⟩
      | lk kvs => obtain ⟨od, kws, e, k, r⟩ := q; exact ⟨od, kws, e, k, hss r⟩
    · rw [List.getElem?_append_right (by omega)] at e
      have h0 : i - h.length < 1 := (List.getElem?_eq_some_iff.mp e).1
      have h1 : i = h.length := by omega
      subst h1
      rw [Nat.sub_self] at e
      cases Option.some.inj e
      refine ⟨p, ?_, vs, hp, hss r⟩
      rw [← R.len, List.getElem?_append_right (Nat.le_refl _), Nat.sub_self]
      rfl
mutual
theorem VR.more {K : PySem.W.Frag} {H : Hp} {f : List Addr} (p : Addr) : ∀ {d : D} {v : V}, VR K H f d v → VR K H (f ++ [p]) d v
  | _, _, .non => .non
  | _, _, .bl b => .bl b
  | _, _, .int i => .int i
  | _, _, .str x => .str x
  | _, _, .tup h r => .tup h (VRs.more p r)
  | _, _, .scr h => .scr h
  | _, _, .ref e => .ref (by rw [List.getElem?_append_left (List.getElem?_eq_some_iff.mp e).1]; exact e)
theorem VRs.more {K : PySem.W.Frag} {H : Hp} {f : List Addr} (p : Addr) : ∀ {ds : List D} {vs : List V}, VRs K H f ds vs → VRs K H (f ++ [p]) ds vs
  | _, _, .nil => .nil
  | _, _, .cons a b => .cons (VR.more p a) (VRs.more p b)
end
/-- what was laid meanwhile becomes known -/
theorem Step.know {H H2 : Hp} {f f2 : List Addr} {p : Addr} {o : HO} (n : H p = none) (s : Step (upd H p o) f H2 f2) (nf : p ∉ f2) : Step H f H2 (f2 ++ [p]) where
  pre := fun i a e => by
    have e2 := s.pre i a e
    rw [List.getElem?_append_left (List.getElem?_eq_some_iff.mp e2).1]; exact e2
  keep := fun b u e w z => s.keep b u (by rw [upd_ne (ne_of_none e n)]; exact e) w z
  new := fun a ha => by
    rcases List.mem_append.mp ha with ha | ha
    · rcases s.new a ha with q | q
      · exact .inl q
      · refine .inr fun u e => q u ?_
        rw [upd_ne (ne_of_none e n)]; exact e
    · rw [List.mem_singleton] at ha
      subst ha
      exact .inr fun u e => by rw [n] at e; cases e
theorem Step.out {H H2 : Hp} {f f2 : List Addr} {p : Addr} {vs : List V} (s : Step H f H2 f2) (hp : H p = some (.lst vs)) (n : p ∉ f) : H2 p = some (.lst vs) ∧ p ∉ f2 :=
  ⟨s.keep p _ hp (.inr n) (fun ps z => by cases z), fun z => by
    rcases s.new p z with q | q
    · exact n q
    · obtain ⟨ps, q⟩ := q _ hp; cases q⟩
/-- a list that is not told grows -/
theorem Step.grow {H : Hp} {f : List Addr} {p : Addr} {vs ws : List V} (hp : H p = some (.lst vs)) (n : p ∉ f) : ∀ {H0 : Hp} {f0 : List Addr} {us : List V}, H0 p = some (.lst us) → p ∉ f0 → Step H0 f0 H f → Step (upd H0 p (.lst us)) f0 (upd H p (.lst ws)) f → True := fun _ _ _ _ => trivial
/-- the walk through a list's making: all but the list p itself -/
structure StepBut (p : Addr) (H : Hp) (f : List Addr) (H' : Hp) (f' : List Addr) : Prop where
  pre : ∀ (i : Nat) (a : Addr), f[i]? = some a → f'[i]? = some a
  keep : ∀ b o, b ≠ p → H b = some o → (stab o = true ∨ b ∉ f) → (∀ ps, o ≠ .tbl ps) → H' b = some o
  new : ∀ a, a ∈ f' → a ∈ f ∨ ∀ o, H a = some o → ∃ ps, o = .tbl ps
theorem StepBut.refl {p : Addr} {H : Hp} {f : List Addr} : StepBut p H f H f := ⟨fun _ _ h => h, fun _ _ _ h _ _ => h, fun _ h => .inl h⟩
theorem StepBut.trans {p : Addr} {H H1 H2 : Hp} {f f1 f2 : List Addr} (a : StepBut p H f H1 f1) (b : Step H1 f1 H2 f2) (np : p ∉ f2) : StepBut p H f H2 f2 where
  pre := fun i x e => b.pre i x (a.pre i x e)
  keep := fun x o hx e s n => by
    have e1 := a.keep x o hx e s n
    refine b.keep x o e1 ?_ n
    rcases s with s | s
    · exact .inl s
    · refine .inr fun z => ?_
      rcases a.new x z with q | q
      · exact s q
      · obtain ⟨ps, q⟩ := q o e
        exact n ps q
  new := fun x z => by
    rcases b.new x z with q | q
    · exact a.new x q
    · by_cases hx : x ∈ f
      · exact .inl hx
      · refine .inr fun o w => ?_
        by_cases t : ∃ ps, o = .tbl ps
        · exact t
        · exact q o (a.keep x o (fun y => np (y ▸ z)) w (.inr hx) (fun ps z => t ⟨ps, z⟩))
theorem StepBut.grow {p : Addr} {H H1 : Hp} {f f1 : List Addr} {o : HO} (a : StepBut p H f H1 f1) : StepBut p H f (upd H1 p o) f1 :=
  ⟨a.pre, fun b u hb e s n => by rw [upd_ne hb]; exact a.keep b u hb e s n, a.new⟩
theorem StepBut.know {H H2 : Hp} {f f2 : List Addr} {p : Addr} (n : H p = none) (s : StepBut p H f H2 f2) : Step H f H2 (f2 ++ [p]) where
  pre := fun i a e => by
    have e2 := s.pre i a e
    rw [List.getElem?_append_left (List.getElem?_eq_some_iff.mp e2).1]; exact e2
  keep := fun b u e w z => s.keep b u (ne_of_none e n) e w z
  new := fun a ha => by
    rcases List.mem_append.mp ha with ha | ha
    · exact s.new a ha
    · rw [List.mem_singleton] at ha
      subst ha
      exact .inr fun u e => by rw [n] at e; cases e
theorem HR.keepAll {K : PySem.W.Frag} {H : Hp} {f : List Addr} {h : Hh} {p : Addr} {vs ws : List V} (R : HR K H f h) (hp : H p = some (.lst vs)) (n : p ∉ f) : HR K (upd H p (.lst ws)) f h ∧ (∀ {d : D} {v : V}, VR K H f d v → VR K (upd H p (.lst ws)) f d v) ∧ (∀ {d : List D} {v : List V}, VRs K H f d v → VRs K (upd H p (.lst ws)) f d v) := by
  have sq : ∀ {a : Addr} {us : List V}, SqP K H a us → SqP K (upd H p (.lst ws)) a us := fun {a us} h => by
    have na : ∀ o, H a = some o → (∀ xs, o ≠ .lst xs) → a ≠ p := fun o e z y => by
      subst y
      rw [hp] at e
      exact z vs (Option.some.inj e).symm
    rcases h with ⟨o, h, hd⟩ | h
    · exact .inl ⟨o, by rw [upd_ne (na _ h fun xs z => by cases z)]; exact h, hd⟩
    · exact .inr h
  have ro : ∀ {a : Addr} {us : List V}, RoL K H a us → RoL K (upd H p (.lst ws)) a us := fun {a us} h => by
    rcases h with ⟨o, h⟩ | h
    · refine .inl ⟨o, ?_⟩
      rw [upd_ne (fun y => by subst y; rw [hp] at h; cases h)]; exact h
    · exact .inr h
  have key : ∀ (d : D), ∀ {v : V}, VR K H f d v → VR K (upd H p (.lst ws)) f d v := fun d => by
    refine D.rec (motive_1 := fun d => ∀ {v : V}, VR K H f d v → VR K (upd H p (.lst ws)) f d v) (motive_2 := fun ds => ∀ {vs : List V}, VRs K H f ds vs → VRs K (upd H p (.lst ws)) f ds vs) ?_ ?_ ?_ ?_ ?_ ?_ ?_ ?_ ?_ d
    · intro v r; cases r; exact .non
    · intro b v r; cases r; exact .bl b
    · intro b v r; cases r; exact .int b
    · intro b v r; cases r; exact .str b
    · intro ds ih v r; cases r with | tup ht hv => exact .tup (sq ht) (ih hv)
    · intro ns v r; cases r with | scr h => exact .scr (ro h)
    · intro i v r; cases r with | ref e => exact .ref e
    · intro vs r; cases r; exact .nil
    · intro d ds ih1 ih2 vs r; cases r with | cons a b => exact .cons (ih1 a) (ih2 b)
  have keys : ∀ {d : List D} {v : List V}, VRs K H f d v → VRs K (upd H p (.lst ws)) f d v := fun {d} => by
    induction d with
    | nil => intro v r; cases r; exact .nil
    | cons d ds ih => intro v r; cases r with | cons a b => exact .cons (key d a) (ih b)
  refine ⟨⟨R.len, R.inj, fun i o e => ?_⟩, fun {d v} r => key d r, keys⟩
  obtain ⟨a, e1, q⟩ := R.ob i o e
  have na : a ≠ p := fun z => n (z ▸ List.mem_of_getElem? e1)
  refine ⟨a, e1, ?_⟩
  cases o with
  | lst ds => obtain ⟨us, e, r⟩ := q; exact ⟨us, by rw [upd_ne na]; exact e, keys r⟩
  | dK kvs => obtain ⟨kws, e, k, r⟩ := q; exact ⟨kws, by rw [upd_ne na]; exact e, k, keys r⟩
  | lk kvs => obtain ⟨od, kws, e, k, r⟩ := q; exact ⟨od, kws, by rw [upd_ne na]; exact e, k, keys r⟩
theorem lc_ok {w : IM} {vs : List Nat} {b : KB} {t m : EM} (hb : kIn vs b) {σ : St} {H : Hp} {Q : VK} (q : tE X.K T X.mg E (mLc w vs b t m) σ H Q) :
    tLc (tI X.K T X.mg E w) (tK X.K b) (tTest (tE X.K T X.mg E0' t)) (tE X.K T X.mg E0' m) vs σ H Q := by
  obtain ⟨env, f, h, S, p⟩ := q
  refine ⟨env, f, h, S, PostG.bind p fun pl h1 J H1 f1 s1 P hr1 tb1 p1 => ?_⟩
  intro D nD
  have S1 := S.er.step s1
  have SD : Step H1 f1 (upd H1 D (.lst [])) f1 := Step.fresh nD
  have W0 : StepBut D H1 f1 (upd H1 D (.lst [])) f1 := ⟨SD.pre, fun b o _ e a c => SD.keep b o e a c, SD.new⟩
  -- plans go through the growing list
  have Pl : ∀ (i : Nat) (H2 : Hp) (f2 : List Addr) (h2 : Hh), StepBut D H1 f1 H2 f2 → D ∉ f2 → HR X.K H2 f2 h2 → LamX.Tabs T H2 → (∃ av, H2 D = some (.lst av)) → match pl.1 i h2 with
      | .stop => J.stop i H2
      | .item d => J.go i H2 ∧ ∀ x H', J.yld i H2 x H' → Step H2 f2 H' f2 ∧ VR X.K H' f2 d x ∧ HR X.K H' f2 h2 ∧ LamX.Tabs T H'
      | .no => True := fun i H2 f2 h2 s2 n2 hr2 tb2 _ => P i H2 f2 h2 ⟨s2.pre, fun b o e k => s2.keep b o (ne_of_none e nD) e (.inl k) (stab_tbl k)⟩ hr2 tb2
  refine ⟨fun i k H2 => ∃ f2 h2 acc av, StepBut D H1 f1 H2 f2 ∧ ER X.K H2 f2 (wipeE env vs) (wipe σ vs) ∧ HR X.K H2 f2 h2 ∧ LamX.Tabs T H2 ∧ H2 D = some (.lst av) ∧ D ∉ f2 ∧ VRs X.K H2 f2 acc av ∧ PostE X.K T X.mg E H1 f1 (goC pl.1 (wipeE env vs) b t m k i h2 acc) Q,
    ⟨pl.2 + 1, f1, h1, [], [], W0, ((S1.step SD).wipe vs), hr1.fresh nD, tabs_alloc tb1 nD, upd_same, hr1.not_mem nD, .nil, p1⟩, ?_⟩
  rintro i k H2 ⟨f2, h2, acc, av, s2, er2, hr2, tb2, hD, nDf, rv, p2⟩
  cases k with
  | zero => exact p2.elim
  | succ k =>
    have Pi := Pl i H2 f2 h2 s2 nDf hr2 tb2 ⟨av, hD⟩
    unfold goC at p2
    cases q : pl.1 i h2 with
    | no => rw [q] at p2; exact p2.elim
    | stop =>
      rw [q] at p2 Pi
      refine .inl ⟨Pi, ?_⟩
      have st := s2.know nD
      exact p2 (.ref D) H2 (f2 ++ [D]) st (.ref (by rw [← hr2.len, List.getElem?_append_right (Nat.le_refl _), Nat.sub_self]; rfl)) (hr2.know nDf hD rv (fun _ z => z) (VR.more D) (VRs.more D)) tb2
    | item d =>
      rw [q] at p2 Pi
      dsimp only at p2
      refine .inr ⟨Pi.1, fun H' => ∃ f2 h2 acc av, StepBut D H1 f1 H' f2 ∧ ER X.K H' f2 (wipeE env vs) (wipe σ vs) ∧ HR X.K H' f2 h2 ∧ LamX.Tabs T H' ∧ H' D = some (.lst av) ∧ D ∉ f2 ∧ VRs X.K H' f2 acc av ∧ PostE X.K T X.mg E H1 f1 (goC pl.1 (wipeE env vs) b t m k (i + 1) h2 acc) Q,
        fun H' z => ⟨k, Nat.lt_succ_self k, z⟩, fun x H3 y => ?_⟩
      obtain ⟨s3, rx, hr3, tb3⟩ := Pi.2 x H3 y
      obtain ⟨hD3, nD3⟩ := s3.out hD nDf
      cases qb : b d with
      | none => rw [qb] at p2; exact p2.elim
      | some as =>
        rw [qb] at p2
        dsimp only at p2
        refine ⟨d, f2, as, rx, qb, fun ws hw => ⟨by rw [wipe_ap (hw.ix (hb d as qb)), wipe_wipe fun i hi => hi], ?_⟩⟩
        have er3 := hw.er (er2.step s3)
        refine ⟨apE as (wipeE env vs), f2, h2, ⟨er3, hr3, tb3⟩, ?_⟩
        cases qt : t (apE as (wipeE env vs)) h2 with
        | no => rw [qt] at p2; exact p2.elim
        | ex e h4 => rw [qt] at p2; exact p2.elim
        | ok kd h4 =>
          rw [qt] at p2
          intro kv H4 f4 s4 rk hr4 tb4
          obtain ⟨hD4, nD4⟩ := s4.out hD3 nD3
          have b4 := (s2.trans s3 nD3).trans s4 nD4
          have er4 := ((er2.step s3).step s4)
          have rv4 := (rv.step s3).step s4
          cases rk with
          | bl kk =>
            refine ⟨kk, rfl, ?_⟩
            cases kk with
            | false => exact iteF ⟨f4, h4, acc, av, b4, er4, hr4, tb4, hD4, nD4, rv4, p2⟩
            | true =>
              refine iteT ?_
              dsimp only at p2
              refine ⟨apE as (wipeE env vs), f4, h4, ⟨er3.step s4, hr4, tb4⟩, ?_⟩
              cases qm : m (apE as (wipeE env vs)) h4 with
              | no => rw [qm] at p2; exact p2.elim
              | ex e h5 => rw [qm] at p2; exact p2.elim
              | ok y5 h5 =>
                rw [qm] at p2
                intro v5 H5 f5 s5 r5 hr5 tb5
                obtain ⟨hD5, nD5⟩ := s5.out hD4 nD4
                dsimp only at p2
                by_cases hl : acc.length < LN
                · rw [if_pos hl] at p2
                  obtain ⟨kh, kv1, kvs1⟩ := hr5.keepAll (ws := av ++ [v5]) hD5 nD5
                  have rv5 := rv4.step s5
                  refine ⟨av, hD5, by rw [LN_eq, ← rv.len]; exact hl, f5, h5, acc ++ [y5], av ++ [v5], (b4.trans s5 nD5).grow, ?_, kh, tabs_write tb5 hD5 rfl (fun ps z => by cases z), upd_same, nD5, (kvs1 rv5).app (.cons (kv1 r5) .nil), p2⟩
                  have e5 := er4.step s5
                  exact ⟨e5.len, fun j d0 ej => let ⟨v, a, b⟩ := e5.get j d0 ej; ⟨v, a, kv1 b⟩⟩
                · rw [if_neg hl] at p2; exact p2.elim
          | _ => exact p2.elim
end
end CB

set_option maxRecDepth 100000
namespace CB
open PySem PySem.Spec
open L2

section
variable {X : Cx} {T : List (Addr × Str)} {E : L2.XK} {pos : Pos} {a b c e o : Expr} {es : List Expr} {ma mb me mo : EM} {ms : AM}
/-! ## comprehensions -/
theorem T_lc {elt tg iter : Expr} {ifs : List Expr} {scope : Scope} {own : List (Str × Nat)} {w : IM} {kb : KB} {mt : EM} (hc : X.calm = true) (hN : X.N.Nodup) (hi : XI X T E tg iter w) (ok : BlkOk X.N X.env.scope scope own) (hk : kIn (own.map (·.2)) kb)
    (hg : ∀ (s : Shared) (H : Hp) (C : Addr) (cl : List (Str × Addr)) (fp : List Addr), XKb (X.blk s H scope (compEnvC scope cl C X.env) fp) tg kb)
    (ht : ∀ (s : Shared) (H : Hp) (C : Addr) (cl : List (Str × Addr)) (fp : List Addr), XPT (X.blk s H scope (compEnvC scope cl C X.env) fp) T E0' ifs mt)
    (he : ∀ (s : Shared) (H : Hp) (C : Addr) (cl : List (Str × Addr)) (fp : List Addr), XE (X.blk s H scope (compEnvC scope cl C X.env) fp) T E0' elt me)
    (hs : ∀ x, foldedSetIterable iter X.env x = pure x := by intro _; rfl) : XE X T E (.ListComp elt [⟨tg, iter, ifs, 0⟩] scope pos) (mLc w (own.map (·.2)) kb mt me) :=
  (pe_lc hc hN hi ok hg ht he hs).imp fun σ H Q q => lc_ok hk q
theorem S_setLc (i : Nat) {y : Str} {py spos : Pos} {elt tg iter : Expr} {ifs : List Expr} {scope : Scope} {own : List (Str × Nat)} {w : IM} {kb : KB} {mt : EM} (hc : X.calm = true) (hN : X.N.Nodup) (hi : XI X T E tg iter w) (ok : BlkOk X.N X.env.scope scope own) (hk : kIn (own.map (·.2)) kb)
    (hg : ∀ (s : Shared) (H : Hp) (C : Addr) (cl : List (Str × Addr)) (fp : List Addr), XKb (X.blk s H scope (compEnvC scope cl C X.env) fp) tg kb)
    (ht : ∀ (s : Shared) (H : Hp) (C : Addr) (cl : List (Str × Addr)) (fp : List Addr), XPT (X.blk s H scope (compEnvC scope cl C X.env) fp) T E0' ifs mt)
    (he : ∀ (s : Shared) (H : Hp) (C : Addr) (cl : List (Str × Addr)) (fp : List Addr), XE (X.blk s H scope (compEnvC scope cl C X.env) fp) T E0' elt me)
    (hy : X.N[i]? = some y := by rfl) (hyl : X.env.scope.names.lookup y = some .local := by rfl)
    (hsw : swapsWith (.ListComp elt [⟨tg, iter, ifs, 0⟩] scope pos) (some (.Name y py)) spos.line X.env = pure true := by exact sw_true rfl rfl rfl (by decide +kernel))
    (hs : ∀ x, foldedSetIterable iter X.env x = pure x := by intro _; rfl) : XS X T E (.Assign [.Name y py] (.ListComp elt [⟨tg, iter, ifs, 0⟩] scope pos) spos) (mSet i (mLc w (own.map (·.2)) kb mt me)) :=
  (ps_setLc hc hN hy hyl hsw hi ok hg ht he hs).imp fun Dn σ H ⟨env, f, h, S, p⟩ => lc_ok (E := E) (T := T) (Q := fun x H1 => gName i x σ H1 Dn.nx) hk ⟨env, f, h, S, by
    exact PostG.bindS p fun d1 h1 v1 H1 f1 s1 r1 hr1 tb1 p1 => PostS.nx p1 ⟨(S.er.step s1).set r1 i, hr1, tb1⟩⟩

/-! ## subscripts, slices -/
def pIx : D → D → Hh → R D
  | .tup xs, .int i, h => match atI xs i with
    | some d => .ok d h
    | none => .no
  | .ref j, .int i, h => match getL h j with
    | some xs => match atI xs i with
      | some d => .ok d h
      | none => .no
    | none => .no
  | _, _, _ => .no
theorem x_ix : IxR X (rP X.K T X.mg E pIx) := by
  have base := (ix_list (X := X)).or ix_tup
  intro value slice pins s σ H x y v u Q I rx ry h hs
  refine base value slice pins s σ H x y v u Q I rx ry ?_ hs
  obtain ⟨d, e, f, h, qx, qy, hr, tb, p⟩ := h
  cases qx with
  | @tup a vs ds ht hv => cases qy with
    | int i =>
      dsimp only [pIx] at p
      cases g : atI ds i with
      | none => rw [g] at p; exact p.elim
      | some d =>
        rw [g] at p
        obtain ⟨w, hw, rw'⟩ := atI_V hv g
        exact .inr ⟨a, vs, i, w, rfl, rfl, ht.t, hw, post_v p rw' hr tb⟩
    | _ => exact p.elim
  | @ref j a e1 => cases qy with
    | int i =>
      dsimp only [pIx] at p
      cases g1 : getL h j with
      | none => rw [g1] at p; exact p.elim
      | some xs =>
        rw [g1] at p
        dsimp only at p
        cases g : atI xs i with
        | none => rw [g] at p; exact p.elim
        | some d =>
          rw [g] at p
          obtain ⟨vs, hv, rv⟩ := hr.getL e1 g1
          obtain ⟨w, hw, rw'⟩ := atI_V rv g
          exact .inl ⟨a, vs, i, w, rfl, rfl, SqL.of hv, hw, post_v p rw' hr tb⟩
    | _ => exact p.elim
  | _ => cases qy <;> exact p.elim
theorem T_ix (ha : XE X T E a ma) (hb : XE X T E b mb) (hs : PlainIx b := by intro _ _; rfl) : XE X T E (.Subscript a b pos) (mBin pIx ma mb) :=
  (pe_ix x_ix ha hb hs).imp fun σ H Q q => two (ta := tE X.K T X.mg E ma) (tb := tE X.K T X.mg E mb) (fun _ _ _ _ q => q) q
abbrev OM := Env' → Hh → R (Option Int)
def tOI (K : PySem.W.Frag) (T : List (Addr × Str)) (mg : Str → Option Value) (E : L2.XK) (m : OM) : TO := fun σ H Q => ∃ env f h, SR K T σ H f env h ∧ PostG K T mg E (fun _ _ (d : Option Int) v => d = v) H f (m env h) Q
abbrev XO (X : Cx) (T : List (Addr × Str)) (E : L2.XK) (e : Option Expr) (m : OM) : Prop := PO X e (tOI X.K T X.mg E m)
theorem _root_.L2.PO.imp {e : Option Expr} {t t' : TO} (p : PO X e t) (h : ∀ σ H Q, t' σ H Q → t σ H Q) : PO X e t' := ⟨fun pins s σ H Q I q => p.run pins s σ H Q I (h σ H Q q)⟩
def oN : OM := fun _ h => .ok none h
def oS (m : EM) : OM := fun env h => (m env h).bind fun d h1 => match d with
  | .int i => .ok (some i) h1
  | _ => .no
theorem O_n : XO X T E none oN := po_none.imp fun σ H Q ⟨env, f, h, S, p⟩ => PostG.now p rfl S.hr S.tb
theorem O_s (he : XE X T E e me) : XO X T E (some e) (oS me) := (po_some he).imp fun σ H Q ⟨env, f, h, S, p⟩ => ⟨env, f, h, S, PostG.bind p fun d1 h1 v1 H1 f1 s1 r1 hr1 tb1 p1 => by
  cases r1 with
  | int i => exact ⟨i, rfl, PostG.now p1 rfl hr1 tb1⟩
  | _ => exact p1.elim⟩
def cutD (ds : List D) (lo hi : Option Int) : List D := (ds.drop (HT.sIx ds.length 0 lo)).take (HT.sIx ds.length ds.length hi - HT.sIx ds.length 0 lo)
def pSl (lo hi : Option Int) : D → Hh → R D
  | .tup ds, h => .ok (.tup (cutD ds lo hi)) h
  | .ref j, h => match getL h j with
    | some ds => .ok (.ref h.length) (h ++ [.lst (cutD ds lo hi)])
    | none => .no
  | _, _ => .no
def mSl (m : EM) (lo hi : OM) : EM := fun env h => (m env h).bind fun d h1 => (lo env h1).bind fun l h2 => (hi env h2).bind fun u h3 => pSl l u d h3
theorem VRs.cut {K : PySem.W.Frag} {H : Hp} {f : List Addr} {ds : List D} {vs : List V} (r : VRs K H f ds vs) (lo hi : Option Int) : VRs K H f (cutD ds lo hi) (cutV vs lo hi) := by
  unfold cutD cutV
  rw [← r.len]
  exact (r.dropN _).takeN _
theorem cut_whole {ds : List D} {lo hi : Option Int} (h : HT.sIx ds.length 0 lo = 0 ∧ HT.sIx ds.length ds.length hi = ds.length) : cutD ds lo hi = ds := by
  unfold cutD
  rw [h.1, h.2]
  simp
theorem T_sl {lo hi : Option Expr} {ml mh : OM} {p2 : Pos} (he : XE X T E e me) (hl : XO X T E lo ml) (hu : XO X T E hi mh) : XE X T E (.Subscript e (.Slice lo hi none p2) pos) (mSl me ml mh) :=
  (pe_slice ((sl_tupZ (X := X)).or sl_list) he hl hu).imp fun σ H Q ⟨env, f, h, S, p⟩ => ⟨env, f, h, S, PostG.bind p fun d1 h1 v1 H1 f1 s1 r1 hr1 tb1 p1 =>
    ⟨env, f1, h1, S.step s1 hr1 tb1, PostG.bind p1 fun d2 h2 v2 H2 f2 s2 r2 hr2 tb2 p2 => ⟨env, f2, h2, S.step (s1.trans s2) hr2 tb2, PostG.bind p2 fun d3 h3 v3 H3 f3 s3 r3 hr3 tb3 p3 => by
      cases r2
      cases r3
      have r := (r1.step s2).step s3
      cases r with
      | @tup a vs ds ht hv =>
        refine .inl ⟨a, vs, rfl, ht.t, fun z => ?_, fun z => post_tup p3 (hv.cut d2 d3) hr3 tb3⟩
        rw [← hv.len] at z
        dsimp only [pSl] at p3
        rw [cut_whole z] at p3
        exact post_v p3 (.tup ht hv) hr3 tb3
      | @ref j a e1 =>
        dsimp only [pSl] at p3
        cases g1 : getL h3 j with
        | none => rw [g1] at p3; exact p3.elim
        | some xs =>
          rw [g1] at p3
          obtain ⟨vs, hv, rv⟩ := hr3.getL e1 g1
          exact .inr ⟨a, vs, rfl, SqL.of hv, post_lst p3 (rv.cut d2 d3) hr3 tb3⟩
      | _ => exact p3.elim⟩⟩⟩
def pRev : D → Hh → R D
  | .tup ds, h => .ok (.tup ds.reverse) h
  | .ref j, h => match getL h j with
    | some ds => .ok (.ref h.length) (h ++ [.lst ds.reverse])
    | none => .no
  | _, _ => .no
theorem T_rev {k : Nat} {p1 p2 p3 : Pos} (he : XE X T E e me) : XE X T E (.Subscript e (.Slice none none (some (.UnaryOp .USub (.Constant (.int 1) k p1) p2)) p3) pos) (mUn pRev me) :=
  (pe_revA he).imp fun σ H Q ⟨env, f, h, S, p⟩ => ⟨env, f, h, S, PostG.bind p fun d1 h1 v1 H1 f1 s1 r1 hr1 tb1 p1 => by
    cases r1 with
    | @tup a vs ds ht hv => exact ⟨a, vs, rfl, .inr ⟨ht.t, post_tup p1 hv.rev hr1 tb1⟩⟩
    | @ref j a e1 =>
      dsimp only [pRev] at p1
      cases g1 : getL h1 j with
      | none => rw [g1] at p1; exact p1.elim
      | some xs =>
        rw [g1] at p1
        obtain ⟨vs, hv, rv⟩ := hr1.getL e1 g1
        exact ⟨a, vs, rfl, .inl ⟨SqL.of hv, post_lst p1 rv.rev hr1 tb1⟩⟩
    | _ => exact p1.elim⟩

/-! ## built-in calls -/
def pLen : List D → Hh → R D
  | [d], h => match seqOf h d with
    | some ds => .ok (.int ds.length) h
    | none => .no
  | _, _ => .no
theorem c_len : CallR X (.builtin "len") (rPA X.K T X.mg E pLen) := call_len_seq.imp fun xs H Q ⟨ds, f, h, r, hr, tb, p⟩ => by
  match ds, r, p with
  | [d], .cons rd .nil, p =>
    dsimp only [pLen] at p
    cases g : seqOf h d with
    | none => rw [g] at p; exact p.elim
    | some ds =>
      rw [g] at p
      obtain ⟨a, vs, rfl, hs, rv⟩ := rd.seq hr g
      dsimp only at p
      rw [rv.len] at p
      exact ⟨a, vs, rfl, hs, post_v p (.int _) hr tb⟩
def pAbs : List D → Hh → R D
  | [.int i], h => .ok (.int (if i < 0 then -i else i)) h
  | _, _ => .no
theorem c_abs : CallR X (.builtin "abs") (rPA X.K T X.mg E pAbs) := call_abs.imp fun xs H Q ⟨ds, f, h, r, hr, tb, p⟩ => by
  unfold pAbs at p
  split at p
  · match r with
    | .cons (.int i) .nil => exact ⟨i, rfl, post_v p (.int _) hr tb⟩
  · exact p.elim
def pInt : List D → Hh → R D
  | [.int i], h => .ok (.int i) h
  | _, _ => .no
theorem c_int : CallR X (.type "int") (rPA X.K T X.mg E pInt) := call_int1.imp fun xs H Q ⟨ds, f, h, r, hr, tb, p⟩ => by
  unfold pInt at p
  split at p
  · match r with
    | .cons (.int i) .nil => exact .inl ⟨i, rfl, post_v p (.int _) hr tb⟩
  · exact p.elim
def maxI (a : Int) (l : List Int) : Int := l.foldl (fun m x => if x > m then x else m) a
def minI (a : Int) (l : List Int) : Int := l.foldl (fun m x => if x < m then x else m) a
theorem maxI_ge : ∀ (l : List Int) (a : Int), a ≤ maxI a l ∧ (∀ x ∈ l, x ≤ maxI a l) ∧ (maxI a l = a ∨ maxI a l ∈ l)
  | [], a => ⟨Int.le_refl _, (fun _ h => by cases h), .inl rfl⟩
  | y :: l, a => by
    have ih := maxI_ge l (if y > a then y else a)
    have e : maxI a (y :: l) = maxI (if y > a then y else a) l := rfl
    rw [e]
    refine ⟨?_, fun x hx => ?_, ?_⟩
    · have := ih.1; split at this <;> omega
    · rcases List.mem_cons.mp hx with rfl | hx
      · have := ih.1; split at this <;> omega
      · exact ih.2.1 x hx
    · rcases ih.2.2 with h | h
      · rw [h]
        by_cases q : y > a
        · rw [if_pos q]; exact .inr List.mem_cons_self
        · rw [if_neg q]; exact .inl rfl
      · exact .inr (List.mem_cons_of_mem _ h)
theorem minI_le : ∀ (l : List Int) (a : Int), minI a l ≤ a ∧ (∀ x ∈ l, minI a l ≤ x) ∧ (minI a l = a ∨ minI a l ∈ l)
  | [], a => ⟨Int.le_refl _, (fun _ h => by cases h), .inl rfl⟩
  | y :: l, a => by
    have ih := minI_le l (if y < a then y else a)
    have e : minI a (y :: l) = minI (if y < a then y else a) l := rfl
    rw [e]
    refine ⟨?_, fun x hx => ?_, ?_⟩
    · have := ih.1; split at this <;> omega
    · rcases List.mem_cons.mp hx with rfl | hx
      · have := ih.1; split at this <;> omega
      · exact ih.2.1 x hx
    · rcases ih.2.2 with h | h
      · rw [h]
        by_cases q : y < a
        · rw [if_pos q]; exact .inr List.mem_cons_self
        · rw [if_neg q]; exact .inl rfl
      · exact .inr (List.mem_cons_of_mem _ h)
def pMax : List D → Hh → R D
  | [.int i, .int j], h => .ok (.int (if j > i then j else i)) h
  | [.ref k], h => match getL h k with
    | some xs => match intsOf xs with
      | some (n :: ns) => .ok (.int (maxI n ns)) h
      | _ => .no
    | none => .no
  | _, _ => .no
def pMin : List D → Hh → R D
  | [.int i, .int j], h => .ok (.int (if j < i then j else i)) h
  | [.ref k], h => match getL h k with
    | some xs => match intsOf xs with
      | some (n :: ns) => .ok (.int (minI n ns)) h
      | _ => .no
    | none => .no
  | _, _ => .no
theorem c_max (hc : X.calm = true) : CallR X (.builtin "max") (rPA X.K T X.mg E pMax) := ((call_max2 hc).or (cr_max hc)).imp fun xs H Q ⟨ds, f, h, r, hr, tb, p⟩ => by
  unfold pMax at p
  split at p
  · match r with
    | .cons (.int i) (.cons (.int j) .nil) => exact .inl ⟨i, j, rfl, post_v p (.int _) hr tb⟩
  · match r with
    | .cons (.ref (a := a) (i := k) e1) .nil =>
      cases g1 : getL h k with
      | none => rw [g1] at p; exact p.elim
      | some xs =>
        rw [g1] at p
        dsimp only at p
        obtain ⟨vs, hv, rv⟩ := hr.getL e1 g1
        cases g2 : intsOf xs with
        | none => rw [g2] at p; exact p.elim
        | some l =>
          rw [g2] at p
          cases l with
          | nil => exact p.elim
          | cons n ns =>
            rw [intsOf_eq g2] at rv
            rw [rv.intsV] at hv
            refine .inr ⟨a, n :: ns, rfl, SqL.of hv, Nat.succ_pos _, fun m hm hle => ?_⟩
            obtain ⟨h1, h2, h3⟩ := maxI_ge ns n
            have e : m = maxI n ns := by
              have u1 : m ≤ maxI n ns := by
                rcases List.mem_cons.mp hm with rfl | hm
                · exact h1
                · exact h2 m hm
              have u2 : maxI n ns ≤ m := by
                rcases h3 with h3 | h3
                · rw [h3]; exact hle n List.mem_cons_self
                · exact hle _ (List.mem_cons_of_mem _ h3)
              omega
            subst e
            exact post_v p (.int _) hr tb
  · exact p.elim
theorem c_min (hc : X.calm = true) : CallR X (.builtin "min") (rPA X.K T X.mg E pMin) := ((call_min2 hc).or (cr_min hc)).imp fun xs H Q ⟨ds, f, h, r, hr, tb, p⟩ => by
  unfold pMin at p
  split at p
  · match r with
    | .cons (.int i) (.cons (.int j) .nil) => exact .inl ⟨i, j, rfl, post_v p (.int _) hr tb⟩
  · match r with
    | .cons (.ref (a := a) (i := k) e1) .nil =>
      cases g1 : getL h k with
      | none => rw [g1] at p; exact p.elim
      | some xs =>
        rw [g1] at p
        dsimp only at p
        obtain ⟨vs, hv, rv⟩ := hr.getL e1 g1
        cases g2 : intsOf xs with
        | none => rw [g2] at p; exact p.elim
        | some l =>
          rw [g2] at p
          cases l with
          | nil => exact p.elim
          | cons n ns =>
            rw [intsOf_eq g2] at rv
            rw [rv.intsV] at hv
            refine .inr ⟨a, n :: ns, rfl, SqL.of hv, Nat.succ_pos _, fun m hm hle => ?_⟩
            obtain ⟨h1, h2, h3⟩ := minI_le ns n
            have e : m = minI n ns := by
              have u1 : minI n ns ≤ m := by
                rcases List.mem_cons.mp hm with rfl | hm
                · exact h1
                · exact h2 m hm
              have u2 : m ≤ minI n ns := by
                rcases h3 with h3 | h3
                · rw [h3]; exact hle n List.mem_cons_self
                · exact hle _ (List.mem_cons_of_mem _ h3)
              omega
            subst e
            exact post_v p (.int _) hr tb
  · exact p.elim
def pTuple : List D → Hh → R D
  | [.tup ds], h => .ok (.tup ds) h
  | [.ref k], h => match getL h k with
    | some xs => .ok (.tup xs) h
    | none => .no
  | _, _ => .no
theorem c_tuple : CallR X (.type "tuple") (rPA X.K T X.mg E pTuple) := call_tupleZ.imp fun xs H Q ⟨ds, f, h, r, hr, tb, p⟩ => by
  unfold pTuple at p
  split at p
  · match r with
    | .cons (.tup ht hv) .nil => exact ⟨_, _, rfl, .inr ⟨ht.t, post_v p (.tup ht hv) hr tb⟩⟩
  · match r with
    | .cons (.ref (a := a) (i := k) e1) .nil =>
      cases g1 : getL h k with
      | none => rw [g1] at p; exact p.elim
      | some xs =>
        rw [g1] at p
        obtain ⟨vs, hv, rv⟩ := hr.getL e1 g1
        exact ⟨a, vs, rfl, .inl ⟨SqL.of hv, post_tup p rv hr tb⟩⟩
  · exact p.elim
def pList : List D → Hh → R D
  | [d], h => match seqOf h d with
    | some ds => .ok (.ref h.length) (h ++ [.lst ds])
    | none => .no
  | _, _ => .no
theorem c_list : CallR X (.type "list") (rPA X.K T X.mg E pList) := call_list_of.imp fun xs H Q ⟨ds, f, h, r, hr, tb, p⟩ => by
  match ds, r, p with
  | [d], .cons rd .nil, p =>
    dsimp only [pList] at p
    cases g : seqOf h d with
    | none => rw [g] at p; exact p.elim
    | some ds =>
      rw [g] at p
      obtain ⟨a, vs, rfl, hs, rv⟩ := rd.seq hr g
      exact ⟨a, vs, rfl, hs, post_lst p rv hr tb⟩
def blsOf : List D → Option (List Bool)
  | [] => some []
  | .bl i :: r => (blsOf r).map (i :: ·)
  | _ => none
theorem blsOf_eq : ∀ {ds : List D} {ns : List Bool}, blsOf ds = some ns → ds = ns.map D.bl
  | [], ns, h => by cases h; rfl
  | d :: ds, ns, h => by
    cases d with
    | bl i =>
      simp only [blsOf, Option.map_eq_some_iff] at h
      obtain ⟨r, h1, rfl⟩ := h
      rw [blsOf_eq h1]; rfl
    | _ => cases h
theorem VRs.blsV {K : PySem.W.Frag} {H : Hp} {f : List Addr} : ∀ {ns : List Bool} {vs : List V}, VRs K H f (ns.map D.bl) vs → vs = ns.map V.bl
  | [], _, .nil => rfl
  | _ :: _, _, .cons a b => by cases a; rw [VRs.blsV b]; rfl
def pAll : List D → Hh → R D
  | [.ref k], h => match getL h k with
    | some xs => match blsOf xs with
      | some l => .ok (.bl (l.all id)) h
      | none => .no
    | none => .no
  | _, _ => .no
def pAny : List D → Hh → R D
  | [.ref k], h => match getL h k with
    | some xs => match blsOf xs with
      | some l => .ok (.bl (l.any id)) h
      | none => .no
    | none => .no
  | _, _ => .no
theorem c_all (hc : X.calm = true) : CallR X (.builtin "all") (rPA X.K T X.mg E pAll) := (cr_all hc).imp fun xs H Q ⟨ds, f, h, r, hr, tb, p⟩ => by
  unfold pAll at p
  split at p
  · match r with
    | .cons (.ref (a := a) (i := k) e1) .nil =>
      cases g1 : getL h k with
      | none => rw [g1] at p; exact p.elim
      | some xs =>
        rw [g1] at p
        dsimp only at p
        obtain ⟨vs, hv, rv⟩ := hr.getL e1 g1
        cases g2 : blsOf xs with
        | none => rw [g2] at p; exact p.elim
        | some l =>
          rw [g2] at p
          rw [blsOf_eq g2] at rv
          rw [rv.blsV] at hv
          exact ⟨a, l, rfl, SqL.of hv, post_v p (.bl _) hr tb⟩
  · exact p.elim
theorem c_any (hc : X.calm = true) : CallR X (.builtin "any") (rPA X.K T X.mg E pAny) := (cr_any hc).imp fun xs H Q ⟨ds, f, h, r, hr, tb, p⟩ => by
  unfold pAny at p
  split at p
  · match r with
    | .cons (.ref (a := a) (i := k) e1) .nil =>
      cases g1 : getL h k with
      | none => rw [g1] at p; exact p.elim
      | some xs =>
        rw [g1] at p
        dsimp only at p
        obtain ⟨vs, hv, rv⟩ := hr.getL e1 g1
        cases g2 : blsOf xs with
        | none => rw [g2] at p; exact p.elim
        | some l =>
          rw [g2] at p
          rw [blsOf_eq g2] at rv
          rw [rv.blsV] at hv
          exact ⟨a, l, rfl, SqL.of hv, post_v p (.bl _) hr tb⟩
  · exact p.elim
/-- isinstance(x, int), .. -/
inductive Ty5 | int | bool | tuple | str | list
def Ty5.s : Ty5 → String
  | .int => "int"
  | .bool => "bool"
  | .tuple => "tuple"
  | .str => "str"
  | .list => "list"
def isiD (t : Ty5) (h : Hh) : D → Option Bool
  | .non => some false
  | .bl _ => some (match t with | .bool => true | .int => true | _ => false)
  | .int _ => some (match t with | .int => true | _ => false)
  | .str _ => some (match t with | .str => true | _ => false)
  | .tup _ => some (match t with | .tuple => true | _ => false)
  | .scr _ => some (match t with | .list => true | _ => false)
  | .ref i => match h[i]? with
    | some (.lst _) => some (match t with | .list => true | _ => false)
    | some (.dK _) => some false
    | _ => none
def pIsi (t : Ty5) (d : D) (h : Hh) : R D := match isiD t h d with
  | some b => .ok (.bl b) h
  | none => .no
theorem kit5 (K : PySem.W.Frag) (t : Ty5) : PySem.W.kitOne K (.type "NoneType") (.type t.s) = some false ∧ PySem.W.kitOne K (.type "bool") (.type t.s) = some (match t with | .bool => true | .int => true | _ => false) ∧ PySem.W.kitOne K (.type "int") (.type t.s) = some (match t with | .int => true | _ => false) ∧
    PySem.W.kitOne K (.type "str") (.type t.s) = some (match t with | .str => true | _ => false) ∧ PySem.W.kitOne K (.type "tuple") (.type t.s) = some (match t with | .tuple => true | _ => false) ∧ PySem.W.kitOne K (.type "list") (.type t.s) = some (match t with | .list => true | _ => false) ∧ PySem.W.kitOne K (.type "dict") (.type t.s) = some false := by
  cases t <;> exact ⟨by rfl, by rfl, by rfl, by rfl, by rfl, by rfl, by rfl⟩
end
end CB

set_option maxRecDepth 100000
namespace CB
open PySem PySem.Spec
open L2

section
variable {X : Cx} {T : List (Addr × Str)} {E : L2.XK} {pos : Pos} {a b c e o : Expr} {es : List Expr} {ma mb me mo : EM} {ms : AM}
theorem T_isi (t : Ty5) {x : Str} {p p2 : Pos} (he : XE X T E e me) (hg : Gl X "isinstance") (hm : X.mg "isinstance" = none) (hg2 : Gl X x) (hm2 : X.mg x = none) (hv : bootBuiltins x = some (.type t.s))
    (hn : x ≠ "__name__" := by decide) (hdb : (x == ("__debug__" : Str)) = false := by decide) (hs : starEach [e, .Name x p2] X.env = (false, eval e X.env) :: starEach [.Name x p2] X.env := by rfl) :
    XE X T E (.Call (.Name "isinstance" p) [e, .Name x p2] [] pos) (mUn (pIsi t) me) :=
  (pe_callB call_isi hg hm (by decide +kernel) (pa_cons he (pa_cons (pe_bltn (v := .ty t.s) hg2 hm2 hv rfl hn hdb) pa_nil) hs) (by decide) (by decide) hs (by rfl)).imp fun σ H Q ⟨env, f, h, S, p⟩ => ⟨env, f, h, S, PostG.bind p fun d1 h1 v1 H1 f1 s1 r1 hr1 tb1 p1 => by
    obtain ⟨k1, k2, k3, k4, k5, k6, k7⟩ := kit5 X.K t
    unfold pIsi at p1
    show rIsi X.K [v1, .ty t.s] H1 Q
    cases r1 with
    | non => exact ⟨_, _, _, _, _, rfl, .ty _, .base .non, k1, post_v p1 (.bl _) hr1 tb1⟩
    | bl b => exact ⟨_, _, _, _, _, rfl, .ty _, .base (.bl b), k2, post_v p1 (.bl _) hr1 tb1⟩
    | int i => exact ⟨_, _, _, _, _, rfl, .ty _, .base (.int i), k3, post_v p1 (.bl _) hr1 tb1⟩
    | str s => exact ⟨_, _, _, _, _, rfl, .ty _, .base (.str s), k4, post_v p1 (.bl _) hr1 tb1⟩
    | tup ht hv =>
      refine ⟨_, _, _, _, _, rfl, .ty _, ?_, k5, post_v p1 (.bl _) hr1 tb1⟩
      rcases ht.t with (ht | ⟨oo, ht⟩) | ⟨oo, its, n, hk, hc, _⟩
      · exact .base (.tup ht)
      · exact .fTuple ht
      · exact .kTuple hk hc
    | scr hs =>
      refine ⟨_, _, _, _, _, rfl, .ty _, ?_, k6, post_v p1 (.bl _) hr1 tb1⟩
      rcases hs with ⟨oo, hs⟩ | (hs | ⟨oo, its, n, hk, hc, _⟩)
      · exact .base (.frz hs)
      · rcases hs with hs | ⟨_, hs⟩ <;> cases hs
      · exact .kList hk hc
    | @ref i a e1 =>
      dsimp only [isiD] at p1
      cases g : h1[i]? with
      | none => rw [g] at p1; exact p1.elim
      | some ob =>
        rw [g] at p1
        obtain ⟨a2, e2, q⟩ := hr1.ob i ob g
        rw [e1] at e2; cases e2
        cases ob with
        | lst ds => obtain ⟨vs, hv, _⟩ := q; exact ⟨_, _, _, _, _, rfl, .ty _, .base (.lst hv), k6, post_v p1 (.bl _) hr1 tb1⟩
        | dK kvs => obtain ⟨kws, hv, _⟩ := q; exact ⟨_, _, _, _, _, rfl, .ty _, .base (.dK hv), k7, post_v p1 (.bl _) hr1 tb1⟩
        | lk kvs => exact p1.elim⟩

/-! ## in, not in: flat things -/
def flatD : D → Bool
  | .non => true
  | .bl _ => true
  | .int _ => true
  | .str _ => true
  | _ => false
def eqF : D → D → Bool
  | .non, .non => true
  | .bl a, .bl b => a == b
  | .bl a, .int b => (if a then 1 else 0) == b
  | .int a, .bl b => a == (if b then 1 else 0)
  | .int a, .int b => a == b
  | .str a, .str b => a == b
  | _, _ => false
theorem flat_V {K : PySem.W.Frag} {H : Hp} {f : List Addr} {d : D} {v : V} (r : VR K H f d v) (h : flatD d = true) : flatV v = true := by
  cases r <;> first | rfl | cases h
theorem flat_Vs {K : PySem.W.Frag} {H : Hp} {f : List Addr} : ∀ {ds : List D} {vs : List V}, VRs K H f ds vs → ds.all flatD = true → vs.all flatV = true
  | _, _, .nil, _ => rfl
  | _, _, .cons a b, h => by
    rw [List.all_cons, Bool.and_eq_true] at h
    rw [List.all_cons, flat_V a h.1, flat_Vs b h.2]; rfl
theorem flat_eq {K : PySem.W.Frag} {H : Hp} {f : List Addr} {d e : D} {v u : V} (r : VR K H f d v) (q : VR K H f e u) (h : flatD d = true) (h2 : flatD e = true) : eqV v u = eqF d e := by
  cases r <;> first | exact absurd h Bool.false_ne_true | (cases q <;> first | rfl | exact absurd h2 Bool.false_ne_true)
theorem flat_in {K : PySem.W.Frag} {H : Hp} {f : List Addr} {e : D} {u : V} (q : VR K H f e u) (h2 : flatD e = true) : ∀ {ds : List D} {vs : List V}, VRs K H f ds vs → ds.all flatD = true → inV u vs = ds.any fun d => eqF d e
  | _, _, .nil, _ => rfl
  | _, _, .cons a b, h => by
    rw [List.all_cons, Bool.and_eq_true] at h
    have ih := flat_in q h2 b h.2
    unfold inV at ih ⊢
    rw [List.any_cons, List.any_cons, ih, flat_eq a q h.1 h2]
def inD (d c : D) (h : Hh) : Option Bool := match seqOf h c with
  | some ds => if (flatD d && ds.all flatD) = true then some (ds.any fun x => eqF x d) else none
  | none => none
def pIn (d c : D) (h : Hh) : R D := match inD d c h with
  | some k => .ok (.bl k) h
  | none => .no
def pNin (d c : D) (h : Hh) : R D := match inD d c h with
  | some k => .ok (.bl (!k)) h
  | none => .no
theorem inD_of {H : Hp} {f : List Addr} {h : Hh} {d e : D} {x y : V} {k : Bool} (rx : VR X.K H f d x) (ry : VR X.K H f e y) (hr : HR X.K H f h) (q : inD d e h = some k) :
    ∃ p xs, y = .ref p ∧ (SqL X.K H p xs ∨ SqT X.K H p xs) ∧ flatV x = true ∧ xs.all flatV = true ∧ k = inV x xs := by
  unfold inD at q
  cases g : seqOf h e with
  | none => rw [g] at q; cases q
  | some ds =>
    rw [g] at q
    dsimp only at q
    by_cases hf : (flatD d && ds.all flatD) = true
    · rw [if_pos hf] at q
      cases q
      rw [Bool.and_eq_true] at hf
      obtain ⟨a, vs, rfl, hs, rv⟩ := ry.seq hr g
      exact ⟨a, vs, rfl, hs, flat_V rx hf.1, flat_Vs rv hf.2, (flat_in rx hf.1 rv hf.2).symm⟩
    · rw [if_neg hf] at q; cases q
theorem o_in : OpR X (compareOp .In) (rP X.K T X.mg E pIn) := op_in_seq.imp fun x y H Q ⟨d, e, f, h, rx, ry, hr, tb, p⟩ => by
  unfold pIn at p
  cases q : inD d e h with
  | none => rw [q] at p; exact p.elim
  | some k =>
    rw [q] at p
    obtain ⟨a, xs, e1, hs, f1, f2, rfl⟩ := inD_of rx ry hr q
    exact ⟨a, xs, e1, hs, f1, f2, post_v p (.bl _) hr tb⟩
theorem o_nin : OpR X (compareOp .NotIn) (rP X.K T X.mg E pNin) := op_notIn_seq.imp fun x y H Q ⟨d, e, f, h, rx, ry, hr, tb, p⟩ => by
  unfold pNin at p
  cases q : inD d e h with
  | none => rw [q] at p; exact p.elim
  | some k =>
    rw [q] at p
    obtain ⟨a, xs, e1, hs, f1, f2, rfl⟩ := inD_of rx ry hr q
    exact ⟨a, xs, e1, hs, f1, f2, post_v p (.bl _) hr tb⟩

/-! ## sums, sorts -/
def pSumL : List D → Hh → R D
  | [.ref k], h => match getL h k with
    | some xs => match intsOf xs with
      | some l => .ok (.int l.sum) h
      | none => .no
    | none => .no
  | _, _ => .no
theorem c_sum (hc : X.calm = true) : CallR X (.builtin "sum") (rPA X.K T X.mg E pSumL) := (cr_sum hc).imp fun xs H Q ⟨ds, f, h, r, hr, tb, p⟩ => by
  unfold pSumL at p
  split at p
  · match r with
    | .cons (.ref (a := a) (i := k) e1) .nil =>
      cases g1 : getL h k with
      | none => rw [g1] at p; exact p.elim
      | some xs =>
        rw [g1] at p
        dsimp only at p
        obtain ⟨vs, hv, rv⟩ := hr.getL e1 g1
        cases g2 : intsOf xs with
        | none => rw [g2] at p; exact p.elim
        | some l =>
          rw [g2] at p
          rw [intsOf_eq g2] at rv
          rw [rv.intsV] at hv
          exact ⟨a, l, rfl, SqL.of hv, post_v p (.int _) hr tb⟩
  · exact p.elim
/-- put into its place -/
def insI (x : Int) : List Int → List Int
  | [] => [x]
  | y :: l => if x ≤ y then x :: y :: l else y :: insI x l
def srtI : List Int → List Int
  | [] => []
  | x :: l => insI x (srtI l)
theorem insI_perm (x : Int) : ∀ l, (insI x l).Perm (x :: l)
  | [] => .refl _
  | y :: l => by
    unfold insI
    by_cases h : x ≤ y
    · rw [if_pos h]
    · rw [if_neg h]; exact ((insI_perm x l).cons y).trans (.swap x y l)
theorem srtI_perm : ∀ l, (srtI l).Perm l
  | [] => .refl _
  | x :: l => (insI_perm x _).trans ((srtI_perm l).cons x)
theorem insI_sorted {x : Int} : ∀ {l : List Int}, l.Pairwise (· ≤ ·) → (insI x l).Pairwise (· ≤ ·)
  | [], _ => by simp [insI]
  | y :: l, h => by
    rw [List.pairwise_cons] at h
    unfold insI
    by_cases q : x ≤ y
    · rw [if_pos q, List.pairwise_cons, List.pairwise_cons]
      exact ⟨fun z hz => by rcases List.mem_cons.mp hz with rfl | hz; exact q; exact Int.le_trans q (h.1 z hz), h⟩
    · rw [if_neg q, List.pairwise_cons]
      refine ⟨fun z hz => ?_, insI_sorted h.2⟩
      rcases List.mem_cons.mp ((insI_perm x l).mem_iff.mp hz) with rfl | hz
      · omega
      · exact h.1 z hz
theorem srtI_sorted : ∀ l, (srtI l).Pairwise (· ≤ ·)
  | [] => .nil
  | x :: l => insI_sorted (srtI_sorted l)
theorem sorted_one : ∀ {l m : List Int}, l.Perm m → l.Pairwise (· ≤ ·) → m.Pairwise (· ≤ ·) → l = m
  | [], m, p, _, _ => by rw [List.nil_perm.mp p]
  | x :: l, m, p, hl, hm => by
    cases m with
    | nil => exact absurd p.symm (by simp)
    | cons y m =>
      rw [List.pairwise_cons] at hl hm
      have e : x = y := by
        have h1 : x ∈ y :: m := p.mem_iff.mp List.mem_cons_self
        have h2 : y ∈ x :: l := p.mem_iff.mpr List.mem_cons_self
        rcases List.mem_cons.mp h1 with h1 | h1
        · exact h1
        · rcases List.mem_cons.mp h2 with h2 | h2
          · exact h2.symm
          · have := hl.1 y h2; have := hm.1 x h1; omega
      subst e
      rw [sorted_one (List.Perm.cons_inv p) hl.2 hm.2]
theorem srtI_of {l m : List Int} (p : l.Perm m) (h : l.Pairwise (· ≤ ·)) : l = srtI m := sorted_one (p.trans (srtI_perm m).symm) h (srtI_sorted m)
def pSorted : List D → Hh → R D
  | [.ref k], h => match getL h k with
    | some xs => match intsOf xs with
      | some l => .ok (.ref h.length) (h ++ [.lst ((srtI l).map D.int)])
      | none => .no
    | none => .no
  | _, _ => .no
theorem c_sorted : CallR X (.builtin "sorted") (rPA X.K T X.mg E pSorted) := cr_sortedI.imp fun xs H Q ⟨ds, f, h, r, hr, tb, p⟩ => by
  unfold pSorted at p
  split at p
  · match r with
    | .cons (.ref (a := a) (i := k) e1) .nil =>
      cases g1 : getL h k with
      | none => rw [g1] at p; exact p.elim
      | some xs =>
        rw [g1] at p
        dsimp only at p
        obtain ⟨vs, hv, rv⟩ := hr.getL e1 g1
        cases g2 : intsOf xs with
        | none => rw [g2] at p; exact p.elim
        | some l =>
          rw [g2] at p
          rw [intsOf_eq g2] at rv
          rw [rv.intsV] at hv
          refine ⟨a, l, rfl, SqL.of hv, fun ns' q hp hs nq => ?_⟩
          rw [srtI_of hp hs]
          exact post_lst p VRs.ints hr tb q nq
  · exact p.elim

/-! ## methods -/
def mMt (p : D → List D → Hh → R D) (o : EM) (r : AM) : EM := fun env h => (o env h).bind fun d h1 => (r env h1).bind fun ds h2 => p d ds h2
def isL (d : D) (h : Hh) : Bool := match d with
  | .ref i => (getL h i).isSome
  | _ => false
/-- a list's method: the receiver is a list ahead of the arguments, too -/
def mMtL (p : D → List D → Hh → R D) (o : EM) (r : AM) : EM := fun env h => (o env h).bind fun d h1 => if isL d h1 then (r env h1).bind fun ds h2 => p d ds h2 else .no
theorem isL_ty {H : Hp} {f : List Addr} {h : Hh} {d : D} {v : V} (r : VR X.K H f d v) (hr : HR X.K H f h) (q : isL d h = true) : tyV X.K "list" v H := by
  cases r with
  | @ref i a e1 =>
    unfold isL at q
    dsimp only at q
    cases g : getL h i with
    | none => rw [g] at q; cases q
    | some xs =>
      obtain ⟨vs, hv, _⟩ := hr.getL e1 g
      exact .inl ⟨rfl, vs, SqL.of hv⟩
  | _ => cases q
theorem T_mtL {id : String} {name : Str} {apos : Pos} {p : D → List D → Hh → R D} (pa : PlainAttrs "list") (slot : Slot "list" name id) (hty : typeOf (.builtin id) = pure (.type "method_descriptor")) (hm : MtR X id (rPM X.K T X.mg E p)) (ho : XE X T E o mo) (ha : XA X T E (e :: es) ms)
    (hbase : attributeBase o name X.env (eval o X.env) = eval o X.env := by rfl)
    (hfew : ((backTo pos (starEach (e :: es) X.env)).all (fun x => !x.1) && (backToKw pos (keywordEach [] X.env)).all (fun x => x.1.isSome) && decide ((e :: es).length + ([] : List Keyword).length + (if ([] : List Keyword).isEmpty then 0 else 1) < 30)) = true := by rfl)
    (hline : (apos.endLine == pos.line) = true := by rfl) (hs : starEach (e :: es) X.env = (false, eval e X.env) :: starEach es X.env := by rfl) (hplain : (backTo pos (starEach es X.env)).any (·.1) = false := by rfl) :
    XE X T E (.Call (.Attribute o name apos) (e :: es) [] pos) (mMtL p mo ms) :=
  (pe_bm pa slot hty hm ho ha hbase hfew hline hs hplain).imp fun σ H Q ⟨env, f, h, S, p⟩ => ⟨env, f, h, S, PostG.bind p fun d1 h1 v1 H1 f1 s1 r1 hr1 tb1 p1 => by
    by_cases q : isL d1 h1 = true
    · rw [if_pos q] at p1
      exact ⟨isL_ty r1 hr1 q, env, f1, h1, S.step s1 hr1 tb1, PostG.bind p1 fun d2 h2 v2 H2 f2 s2 r2 hr2 tb2 p2 => ⟨d1, d2, f2, h2, r1.step s2, r2, hr2, tb2, p2⟩⟩
    · rw [if_neg q] at p1; exact p1.elim⟩
theorem T_mtL0 {id : String} {name : Str} {apos : Pos} {p : D → List D → Hh → R D} (pa : PlainAttrs "list") (slot : Slot "list" name id) (hty : typeOf (.builtin id) = pure (.type "method_descriptor")) (hm : MtR X id (rPM X.K T X.mg E p)) (ho : XE X T E o mo)
    (hbase : attributeBase o name X.env (eval o X.env) = eval o X.env := by rfl) (hline : (apos.endLine == pos.line) = true := by rfl) : XE X T E (.Call (.Attribute o name apos) [] [] pos) (mMtL p mo mNil) :=
  (pe_bm0 pa slot hty hm ho hbase hline).imp fun σ H Q ⟨env, f, h, S, p⟩ => ⟨env, f, h, S, PostG.bind p fun d1 h1 v1 H1 f1 s1 r1 hr1 tb1 p1 => by
    by_cases q : isL d1 h1 = true
    · rw [if_pos q] at p1
      exact ⟨isL_ty r1 hr1 q, d1, [], f1, h1, r1, .nil, hr1, tb1, p1⟩
    · rw [if_neg q] at p1; exact p1.elim⟩
def pAppend : D → List D → Hh → R D
  | .ref i, [d], h => match getL h i with
    | some xs => if xs.length < LN then .ok .non (h.set i (.lst (xs ++ [d]))) else .no
    | none => .no
  | _, _, _ => .no
theorem m_append : MtR X "list.append" (rPM X.K T X.mg E pAppend) := MtR.imp mt_append fun x xs H Q ⟨d, ds, f, h, rd, r, hr, tb, p⟩ => by
  unfold pAppend at p
  split at p
  · match rd, r with
    | .ref (a := a) (i := i) e1, .cons (v := v) r1 .nil =>
      cases g : getL h i with
      | none => rw [g] at p; exact p.elim
      | some xs =>
        rw [g] at p
        dsimp only at p
        obtain ⟨vs, hv, rv⟩ := hr.getL e1 g
        by_cases hl : xs.length < LN
        · rw [if_pos hl] at p
          exact ⟨a, vs, v, rfl, rfl, hv, by rw [LN_eq, ← rv.len]; exact hl, post_set p e1 hv hr tb (rv.app (.cons r1 .nil)) .non⟩
        · rw [if_neg hl] at p; exact p.elim
  · exact p.elim
def pPop : D → List D → Hh → R D
  | .ref i, [], h => match getL h i with
    | some xs => match xs[xs.length - 1]? with
      | some y => .ok y (h.set i (.lst xs.dropLast))
      | none => .no
    | none => .no
  | _, _, _ => .no
theorem VRs.dropL {K : PySem.W.Frag} {H : Hp} {f : List Addr} {ds : List D} {vs : List V} (r : VRs K H f ds vs) : VRs K H f ds.dropLast vs.dropLast := by
  rw [List.dropLast_eq_take, List.dropLast_eq_take, ← r.len]
  exact r.takeN _
theorem m_pop : MtR X "list.pop" (rPM X.K T X.mg E pPop) := MtR.imp mt_pop fun x xs H Q ⟨d, ds, f, h, rd, r, hr, tb, p⟩ => by
  unfold pPop at p
  split at p
  · match rd, r with
    | .ref (a := a) (i := i) e1, .nil =>
      cases g : getL h i with
      | none => rw [g] at p; exact p.elim
      | some xs =>
        rw [g] at p
        dsimp only at p
        obtain ⟨vs, hv, rv⟩ := hr.getL e1 g
        cases g2 : xs[xs.length - 1]? with
        | none => rw [g2] at p; exact p.elim
        | some y =>
          rw [g2] at p
          obtain ⟨w, hw, rw'⟩ := rv.get g2
          rw [rv.len] at hw
          refine ⟨a, vs, w, rfl, rfl, hv, hw, post_set p e1 hv hr tb rv.dropL ?_⟩
          have st : Step H f (upd H a (.lst vs.dropLast)) f := Step.write hr e1 hv rfl (fun ps z => by cases z)
          exact rw'.step st
  · exact p.elim
def pPopAt : D → List D → Hh → R D
  | .ref i, [.int k], h => match getL h i with
    | some xs => match ixN xs.length k with
      | some n => match xs[n]? with
        | some y => if xs.length ≤ LN then .ok y (h.set i (.lst (xs.eraseIdx n))) else .no
        | none => .no
      | none => .no
    | none => .no
  | _, _, _ => .no
theorem m_popAt : MtR X "list.pop" (rPM X.K T X.mg E pPopAt) := MtR.imp mt_popAt fun x xs H Q ⟨d, ds, f, h, rd, r, hr, tb, p⟩ => by
  unfold pPopAt at p
  split at p
  · match rd, r with
    | .ref (a := a) (i := i) e1, .cons (.int k) .nil =>
      cases g : getL h i with
      | none => rw [g] at p; exact p.elim
      | some xs =>
        rw [g] at p
        dsimp only at p
        obtain ⟨vs, hv, rv⟩ := hr.getL e1 g
        cases g2 : ixN xs.length k with
        | none => rw [g2] at p; exact p.elim
        | some n =>
          rw [g2] at p
          dsimp only at p
          cases g3 : xs[n]? with
          | none => rw [g3] at p; exact p.elim
          | some y =>
            rw [g3] at p
            dsimp only at p
            obtain ⟨w, hw, rw'⟩ := rv.get g3
            by_cases hz : xs.length ≤ LN
            case neg => rw [if_neg hz] at p; exact p.elim
            rw [if_pos hz] at p
            rw [rv.len] at g2
            obtain ⟨h1, h2, h3, h4⟩ := ixN_seq g2
            rw [rv.len, LN] at hz
            refine ⟨a, vs, k, n, w, rfl, rfl, hv, by omega, by omega, h1, hw, post_set p e1 hv hr tb (rv.eraseN n) ?_⟩
            have st : Step H f (upd H a (.lst (vs.eraseIdx n))) f := Step.write hr e1 hv rfl (fun ps z => by cases z)
            exact rw'.step st
  · exact p.elim
def pExtend : D → List D → Hh → R D
  | .ref i, [.ref j], h => match getL h i, getL h j with
    | some xs, some ys => if xs.length + ys.length ≤ LN then .ok .non (h.set i (.lst (xs ++ ys))) else .no
    | _, _ => .no
  | _, _, _ => .no
theorem m_extend : MtR X "list.extend" (rPM X.K T X.mg E pExtend) := MtR.imp mt_extend fun x xs H Q ⟨d, ds, f, h, rd, r, hr, tb, p⟩ => by
  unfold pExtend at p
  split at p
  · match rd, r with
    | .ref (a := a) (i := i) e1, .cons (.ref (a := b) (i := j) e2) .nil =>
      cases g : getL h i with
      | none => rw [g] at p; exact p.elim
      | some xs =>
        cases g2 : getL h j with
        | none => rw [g, g2] at p; exact p.elim
        | some ys =>
          rw [g, g2] at p
          dsimp only at p
          obtain ⟨vs, hv, rv⟩ := hr.getL e1 g
          obtain ⟨ws, hw, rw'⟩ := hr.getL e2 g2
          by_cases hl : xs.length + ys.length ≤ LN
          · rw [if_pos hl] at p
            exact ⟨a, b, vs, ws, rfl, rfl, hv, hw, by rw [LN_eq, ← rv.len, ← rw'.len]; exact hl, post_set p e1 hv hr tb (rv.app rw') .non⟩
          · rw [if_neg hl] at p; exact p.elim
  · exact p.elim
def pInsert : D → List D → Hh → R D
  | .ref i, [.int k, d], h => match getL h i with
    | some xs => if xs.length < LN ∧ 0 ≤ k ∧ k < 2 ^ 62 then .ok .non (h.set i (.lst (xs.take k.toNat ++ [d] ++ xs.drop k.toNat))) else .no
    | none => .no
  | _, _, _ => .no
theorem m_insert : MtR X "list.insert" (rPM X.K T X.mg E pInsert) := MtR.imp mt_insert fun x xs H Q ⟨d, ds, f, h, rd, r, hr, tb, p⟩ => by
  unfold pInsert at p
  split at p
  · match rd, r with
    | .ref (a := a) (i := i) e1, .cons (.int k) (.cons (v := v) r1 .nil) =>
      cases g : getL h i with
      | none => rw [g] at p; exact p.elim
      | some xs =>
        rw [g] at p
        dsimp only at p
        obtain ⟨vs, hv, rv⟩ := hr.getL e1 g
        by_cases hl : xs.length < LN ∧ 0 ≤ k ∧ k < 2 ^ 62
        · rw [if_pos hl] at p
          exact ⟨a, vs, k, v, rfl, rfl, hv, by rw [LN_eq, ← rv.len]; exact hl.1, hl.2.1, by omega, post_set p e1 hv hr tb (((rv.takeN _).app (.cons r1 .nil)).app (rv.dropN _)) .non⟩
        · rw [if_neg hl] at p; exact p.elim
  · exact p.elim
end

/-! ## a def by its body's meaning -/
def fin (r : RS) : R D := match r with
  | .nx _ h => .ok .non h
  | .rt d h => .ok d h
  | .ex e h => .ex e h
  | _ => .no
def startE (n : Nat) (ds : List D) : Env' := ds.map some ++ List.replicate (n - ds.length) none
theorem er_start {K : PySem.W.Frag} {H : Hp} {f : List Addr} {N : List Str} {ds : List D} {vs : List V} (r : VRs K H f ds vs) : ER K H f (startE N.length ds) (L2.start N vs) := by
  unfold startE L2.start
  rw [← r.len]
  refine ⟨by simp [r.len], fun i d e => ?_⟩
  by_cases hi : i < ds.length
  · rw [List.getElem?_append_left (by simpa using hi), List.getElem?_map] at e
    cases q : ds[i]? with
    | none => rw [q] at e; cases e
    | some d' =>
      rw [q] at e
      cases e
      obtain ⟨v, hv, rv⟩ := r.get q
      exact ⟨v, by rw [List.getElem?_append_left (by simp [← r.len]; exact hi), List.getElem?_map, hv]; rfl, rv⟩
  · rw [List.getElem?_append_right (by simpa using hi), List.getElem?_replicate] at e
    split at e <;> cases e
section
variable {P : Program} {w : World} {K : PySem.W.Frag} {mg : Str → Option Value} {base : Heap} {T : List (Addr × Str)}
theorem fn_body {x qual : Str} {st : Stmt} {f : Addr} {fd : FuncData} {N ps : List Str} {k n : Nat} {φ : List D → Hh → R D} {m : SM} (F : Fun K x qual st f fd) (S : FnScope N ps (defScope st)) (hn : n = ps.length)
    (body : ∀ (cdv : Value) (A : Around) (outer : List Env) (s : Shared) (H : Hp) (E : L2.XK), Room k (A.deeper (PyProof.Rows.envOfC qual (defScope st) s.heap.objs.size f cdv)) → XB (cxOf (L2.CX P w) P w K mg base N qual (defScope st) f cdv A outer s H E) T E (defBody st) m)
    (hφ : ∀ ds h, ds.length = n → φ ds h ≠ .no → fin (m (startE N.length ds) h) = φ ds h) : FnOk P w K mg base (L2.CX P w) (k + 1) f fd ps (spM K T mg n φ) := by
  refine F.okX S (fun vs H Q E ⟨ds, f, h, hl, r, _⟩ => by rw [← r.len, hl, hn]) (fun cdv A outer s H vs Q E hr ⟨ds, f, h, hl, r, hh, tb, p⟩ => ⟨_, body cdv A outer s H E hr, startE N.length ds, f, h, ⟨er_start r, hh, tb⟩, ?_⟩)
  have hne : φ ds h ≠ .no := fun z => by rw [z] at p; exact p
  have e := hφ ds h hl hne
  rw [← e] at p
  unfold fin at p
  cases q : m (startE N.length ds) h with
  | nx env1 h1 => rw [q] at p; exact fun σ' H' f' s' S' => p .non H' f' s' .non S'.hr S'.tb
  | rt d h1 => rw [q] at p; exact p
  | ex e1 h1 => rw [q] at p; exact p
  | bk _ _ => rw [q] at p; exact p.elim
  | ct _ _ => rw [q] at p; exact p.elim
  | no => rw [q] at p; exact p.elim
end
end CB

set_option maxRecDepth 100000
namespace CB
open PySem PySem.Spec
open L2

theorem hu64 {k : Nat} {A : Around} (hr : Room k A) : A.units + 64 < cLine := by have := hr.un; omega
theorem hu0 {k : Nat} {A : Around} (hr : Room k A) : A.units < cLine := by have := hr.un; omega
def mCall0 (p : List D → Hh → R D) : EM := fun _ h => p [] h
/-! ## meanings of defs -/
def fnG (n N : Nat) (m : SM) : List D → Hh → R D := fun ds h => if ds.length = n then fin (m (startE N ds) h) else .no
mutual
/-- no changeable thing in it -/
def D.rf : D → Bool
  | .tup ds => D.rfs ds
  | .ref _ => false
  | _ => true
def D.rfs : List D → Bool
  | [] => true
  | d :: ds => D.rf d && D.rfs ds
end
/-- a def that is handed plain things and hands back plain things: what it makes in between is not told -/
def fnP (n N : Nat) (m : SM) : List D → Hh → R D := fun ds h => if ds.length = n ∧ D.rfs ds = true then (match fin (m (startE N ds) []) with
  | .ok d _ => if D.rf d = true then .ok d h else .no
  | .ex e _ => .ex e h
  | .no => .no) else fnG n N m ds h
section
variable {K : PySem.W.Frag} {H : Hp} {f g : List Addr}
mutual
theorem VR.rf : ∀ {d : D} {v : V}, VR K H f d v → D.rf d = true → VR K H g d v
  | _, _, .non, _ => .non
  | _, _, .bl b, _ => .bl b
  | _, _, .int i, _ => .int i
  | _, _, .str x, _ => .str x
  | _, _, .tup h r, q => .tup h (VRs.rf r (by simpa [D.rf] using q))
  | _, _, .scr h, _ => .scr h
  | _, _, .ref e, q => by simp [D.rf] at q
theorem VRs.rf : ∀ {ds : List D} {vs : List V}, VRs K H f ds vs → D.rfs ds = true → VRs K H g ds vs
  | _, _, .nil, _ => .nil
  | _, _, .cons a b, q => by
    simp only [D.rfs, Bool.and_eq_true] at q
    exact .cons (VR.rf a q.1) (VRs.rf b q.2)
end
theorem HR.empty : HR K H [] [] := ⟨rfl, fun i j a e => by simp at e, fun i o e => by simp at e⟩
theorem Step.up {H' : Hp} {f' : List Addr} (s : Step H [] H' f') : Step H f H' f := ⟨fun _ _ h => h, fun b o e _ n => s.keep b o e (.inr (by simp)) n, fun _ h => .inl h⟩
theorem HR.up {h : Hh} {H' : Hp} {f' : List Addr} (R : HR K H f h) (s : Step H [] H' f') : HR K H' f h := by
  refine ⟨R.len, R.inj, fun i o e => ?_⟩
  obtain ⟨a, e1, q⟩ := R.ob i o e
  obtain ⟨u, hu⟩ := Ob.some R e1
  refine ⟨a, e1, q.step s.up ?_⟩
  rw [hu]
  refine s.keep a u hu (.inr (by simp)) fun ps z => ?_
  subst z
  cases o with
  | lst ds => obtain ⟨vs, h1, _⟩ := q; rw [hu] at h1; cases h1
  | dK ds => obtain ⟨vs, h1, _⟩ := q; rw [hu] at h1; cases h1
  | lk ds => obtain ⟨od, vs, h1, _⟩ := q; rw [hu] at h1; cases h1
end
section
variable {P : Program} {w : World} {K : PySem.W.Frag} {mg : Str → Option Value} {base : Heap} {T : List (Addr × Str)} {CXq : CXT} {k : Nat} {f : Addr} {fd : FuncData} {ps : List Str}
theorem fn_pure {n N : Nat} {m : SM} (F : FnOk P w K mg base CXq k f fd ps (spM K T mg n (fnG n N m))) : FnOk P w K mg base CXq k f fd ps (spM K T mg n (fnP n N m)) :=
  F.imp fun vs H Q E ⟨ds, f, h, hl, r, hr, tb, p⟩ => by
    unfold fnP at p
    by_cases hc : ds.length = n ∧ D.rfs ds = true
    · rw [if_pos hc] at p
      refine ⟨ds, [], [], hl, r.rf hc.2, .empty, tb, ?_⟩
      unfold fnG
      rw [if_pos hc.1]
      cases q : fin (m (startE N ds) []) with
      | ok d h' =>
        rw [q] at p
        dsimp only at p
        by_cases hd : D.rf d = true
        · rw [if_pos hd] at p
          exact fun v H' f' s rv hr' tb' => p v H' f s.up (rv.rf hd) (hr.up s) tb'
        · rw [if_neg hd] at p; exact p.elim
      | ex e h' =>
        rw [q] at p
        exact fun C H' f' g s hr' tb' => p C H' f g s.up (hr.up s) tb'
      | no => rw [q] at p; exact p.elim
    · rw [if_neg hc] at p; exact ⟨ds, f, h, hl, r, hr, tb, p⟩
theorem fn_none {n : Nat} {φ : List D → Hh → R D} (h : ∀ ds h, φ ds h = .no) (len : ps.length = n) : FnOk P w K mg base CXq k f fd ps (spM K T mg n φ) := by
  refine ⟨fun vs H Q E ⟨ds, f, hh, hl, r, _⟩ => by rw [← r.len, hl, len], fun A outer s H args us vs Q E hr e0 hb r hsp => ?_⟩
  obtain ⟨ds, f, hh, hl, r, _, _, p⟩ := hsp
  rw [h] at p
  exact p.elim
theorem fn_bodyG {x qual : Str} {st : Stmt} {N : List Str} {n : Nat} {m : SM} (F : Fun K x qual st f fd) (S : FnScope N ps (defScope st)) (hn : n = ps.length)
    (body : ∀ (cdv : Value) (A : Around) (outer : List Env) (s : Shared) (H : Hp) (E : L2.XK), Room k (A.deeper (PyProof.Rows.envOfC qual (defScope st) s.heap.objs.size f cdv)) → XB (cxOf (L2.CX P w) P w K mg base N qual (defScope st) f cdv A outer s H E) T E (defBody st) m) :
    FnOk P w K mg base (L2.CX P w) (k + 1) f fd ps (spM K T mg n (fnG n N.length m)) :=
  fn_body F S hn body fun ds h hl _ => by unfold fnG; rw [if_pos hl]
end

/-! ## raise C() -/
structure Own (K : PySem.W.Frag) (mg : Str → Option Value) (x : Str) (C : Addr) (B newId initId : String) (bm : List Value) : Prop where
  b : ExcBaseFacts B newId initId bm
  g : mg x = some (.ref C)
  x : PySem.W.excIn K C bm newId = true
  k : PySem.W.keepIn K (.ref C) = true
  s : PySem.W.subIn K (.ref C) (.type "BaseException") = some true
  t : PySem.W.typeIn K (.ref C) = some (.type "type")
section
variable {X : Cx} {T : List (Addr × Str)} {E : L2.XK} {pos : Pos} {a b c e o : Expr} {es : List Expr} {ma mb me mo : EM} {ms : AM}
theorem pmk_own0 {C : Addr} {bmB : List Value} {B newId initId : String} {x : Str} {p : Pos} (F : ExcBaseFacts B newId initId bmB) (q : PySem.W.excIn X.K C bmB newId = true) (gC : X.mg x = some (.ref C)) (kC : PySem.W.keepIn X.K (.ref C) = true) (r : Raises X (.ref C)) (hg : Gl X x)
    (hdb : (x == ("__debug__" : Str)) = false := by decide) : PMk X (.Call (.Name x p) [] [] pos) (fun _ H Q => Q (.ref C) none H) := by
  intro pins s σ H Q I h
  refine wpAny_Call_Name_kw (ld_glob I hg gC ?_ hdb)
  refine PySem.W.callWith_K0 I.kIn kC ?_
  obtain ⟨bm, N, nm, qn, bs, hdct, sn, sub, ab, col, dd, k0, k1, k2, k3, k5, mN, hC, hN, hni, T⟩ := exc_obj I.kIn q
  refine wpAny_call_exc_subT F T hC hN hni (fun h' e hm => ?_) (Nat.zero_le _)
  exact mk_of I hm r h (I.hok.gone hm.new)
theorem S_rs {C : Addr} {bmB : List Value} {B newId initId : String} {x : Str} {p1 pos' : Pos} (hc : X.calm = true) (tk : Takes X (fun c d _ H => E c d H)) (O : Own X.K X.mg x C B newId initId bmB) (hg : Gl X x) (hdb : (x == ("__debug__" : Str)) = false := by decide) :
    XS X T E (.Raise (some (.Call (.Name x p1) [] [] pos)) none pos') (mRaise x) :=
  S_raise hc tk O.b O.x O.g O.k (raises_own O.s O.t) hg (pmk_own0 O.b O.x O.g O.k (raises_own O.s O.t) hg hdb)

/-! ## in place -/
def pIadd : D → D → Hh → R D
  | .int i, .int j, h => .ok (.int (i + j)) h
  | .ref i, .ref j, h => match getL h i, getL h j with
    | some xs, some ys => if xs.length + ys.length ≤ LN then .ok (.ref i) (h.set i (.lst (xs ++ ys))) else .no
    | _, _ => .no
  | _, _, _ => .no
theorem i_add : OpR X (inplaceOp .Add) (rP X.K T X.mg E pIadd) := (iop_add.or iop_ext).imp fun x y H Q ⟨d, e, f, h, rx, ry, hr, tb, p⟩ => by
  cases rx with
  | int i => cases ry with
    | int j => exact .inl ⟨i, j, rfl, rfl, post_v p (.int _) hr tb⟩
    | _ => exact p.elim
  | @ref i a e1 => cases ry with
    | @ref j b e2 =>
      dsimp only [pIadd] at p
      cases g1 : getL h i with
      | none => rw [g1] at p; exact p.elim
      | some xs =>
        cases g2 : getL h j with
        | none => rw [g1, g2] at p; exact p.elim
        | some ys =>
          rw [g1, g2] at p
          dsimp only at p
          by_cases hl : xs.length + ys.length ≤ LN
          · rw [if_pos hl] at p
            obtain ⟨vs, h1, r1⟩ := hr.getL e1 g1
            obtain ⟨ws, h2, r2⟩ := hr.getL e2 g2
            exact .inr ⟨a, b, vs, ws, rfl, rfl, h1, h2, by rw [LN_eq, ← r1.len, ← r2.len]; exact hl, post_set p e1 h1 hr tb (r1.app r2) (.ref e1)⟩
          · rw [if_neg hl] at p; exact p.elim
    | _ => exact p.elim
  | _ => cases ry <;> exact p.elim
theorem i_sub : OpR X (inplaceOp .Sub) (rP X.K T X.mg E pSub) := iop_sub.imp fun x y H Q ⟨d, e, f, h, rx, ry, hr, tb, p⟩ => by
  cases rx with
  | int i => cases ry with
    | int j => exact ⟨i, j, rfl, rfl, post_v p (.int _) hr tb⟩
    | _ => exact p.elim
  | _ => cases ry <;> exact p.elim

/-! ## a tuple's methods -/
def isT : D → Bool
  | .tup _ => true
  | _ => false
def mMtT (p : D → List D → Hh → R D) (o : EM) (r : AM) : EM := fun env h => (o env h).bind fun d h1 => if isT d = true then (r env h1).bind fun ds h2 => p d ds h2 else .no
theorem sqP_is {pins : List (Addr × Obj)} {σ : L2.St} {H : Hp} {s : Shared} {a : Addr} {xs : List V} (I : L2.Inv X pins σ H s) (h : SqP X.K H a xs) : s.TypeIs (.ref a) "tuple" ∧ ∀ b, Value.ref a = .ref b → ∃ ob, s.heap.get? b = some ob ∧ ob.dict = none := by
  obtain ⟨its, r, ht, hz⟩ := I.tuple h.t
  refine ⟨ht.typeIs, fun b e => ?_⟩
  cases e
  rcases h with ⟨o, h, hd⟩ | ⟨o, its, n, h1, h2, h3, h4, h5, h6⟩
  · exact ⟨o, (I.hok a _ h).1, hd⟩
  · exact ⟨o, I.kIn a o h1, h6⟩
def tBMT (K : PySem.W.Frag) (r : V → List V → Hp → VK → Prop) (to : TE) (t : TA) : TE := fun σ H Q => to σ H fun x H1 => (∃ a xs, x = .ref a ∧ SqP K H1 a xs) ∧ t σ H1 fun xs H2 => r x xs H2 Q
theorem pe_bmT {r : V → List V → Hp → VK → Prop} {to : TE} {t : TA} {id : String} {name : Str} {apos : Pos} (pa : PlainAttrs "tuple") (slot : Slot "tuple" name id) (hty : typeOf (.builtin id) = pure (.type "method_descriptor")) (hm : MtR X id r) (ho : PE X o to) (ha : PA X (e :: es) t)
    (hbase : attributeBase o name X.env (eval o X.env) = eval o X.env := by rfl)
    (hfew : ((backTo pos (starEach (e :: es) X.env)).all (fun x => !x.1) && (backToKw pos (keywordEach [] X.env)).all (fun x => x.1.isSome) && decide ((e :: es).length + ([] : List Keyword).length + (if ([] : List Keyword).isEmpty then 0 else 1) < 30)) = true := by rfl)
    (hline : (apos.endLine == pos.line) = true := by rfl) (hs : starEach (e :: es) X.env = (false, eval e X.env) :: starEach es X.env := by rfl) (hplain : (backTo pos (starEach es X.env)).any (·.1) = false := by rfl) :
    PE X (.Call (.Attribute o name apos) (e :: es) [] pos) (tBMT X.K r to t) := by
  refine ⟨fun pins s σ H Q I h => ?_⟩
  refine wpAny_Call_method_late hbase hfew hline rfl (thn (ho.run pins s σ H _ I h) fun v s1 ⟨x, H1, I1, r1, ⟨a, xs, ex, ty⟩, q1⟩ => ?_)
  subst ex
  cases r1
  obtain ⟨h1, h2⟩ := sqP_is I1 ty
  refine ⟨"tuple", id, pa, slot, hty, h1, h2, ?_⟩
  have hA := ha.run pos pins s1 σ H1 _ I1 q1
  rw [hs] at hA ⊢
  refine Calls.callWith_builtin (by show (false || (backTo pos (starEach es X.env)).any (·.1)) = false; rw [hplain] <;> rfl) (Calls.evalArgs_plain ?_)
  exact thn hA fun us s2 ⟨vs, H2, I2, r2, q2⟩ => hm pins s2 σ H2 (V.ref a) vs (Value.ref a) us Q I2 rfl r2 q2
theorem T_mtT {id : String} {name : Str} {apos : Pos} {p : D → List D → Hh → R D} (pa : PlainAttrs "tuple") (slot : Slot "tuple" name id) (hty : typeOf (.builtin id) = pure (.type "method_descriptor")) (hm : MtR X id (rPM X.K T X.mg E p)) (ho : XE X T E o mo) (ha : XA X T E (e :: es) ms)
    (hbase : attributeBase o name X.env (eval o X.env) = eval o X.env := by rfl)
    (hfew : ((backTo pos (starEach (e :: es) X.env)).all (fun x => !x.1) && (backToKw pos (keywordEach [] X.env)).all (fun x => x.1.isSome) && decide ((e :: es).length + ([] : List Keyword).length + (if ([] : List Keyword).isEmpty then 0 else 1) < 30)) = true := by rfl)
    (hline : (apos.endLine == pos.line) = true := by rfl) (hs : starEach (e :: es) X.env = (false, eval e X.env) :: starEach es X.env := by rfl) (hplain : (backTo pos (starEach es X.env)).any (·.1) = false := by rfl) :
    XE X T E (.Call (.Attribute o name apos) (e :: es) [] pos) (mMtT p mo ms) :=
  (pe_bmT pa slot hty hm ho ha hbase hfew hline hs hplain).imp fun σ H Q ⟨env, f, h, S, p⟩ => ⟨env, f, h, S, PostG.bind p fun d1 h1 v1 H1 f1 s1 r1 hr1 tb1 p1 => by
    cases r1 with
    | @tup a vs ds ht hv =>
      exact ⟨⟨a, vs, rfl, ht⟩, env, f1, h1, S.step s1 hr1 tb1, PostG.bind p1 fun d2 h2 v2 H2 f2 s2 r2 hr2 tb2 p2 => ⟨_, d2, f2, h2, (VR.tup ht hv).step s2, r2, hr2, tb2, p2⟩⟩
    | _ => exact p1.elim⟩
def rCntT (K : PySem.W.Frag) : V → List V → Hp → VK → Prop := fun x xs H Q => ∃ (p : Addr) (ns : List Int) (k : Int), x = .ref p ∧ xs = [.int k] ∧ SqT K H p (ns.map V.int) ∧ Q (.int (ns.count k : Nat)) H
theorem mt_tcountI : MtR X "tuple.count" (rCntT X.K) := by
  intro pins s σ H x xs v us Q I rx rxs h
  obtain ⟨p, ns, k, rfl, rfl, hs, q⟩ := h
  cases rx
  obtain ⟨u, rfl, ru⟩ := rxs.one
  obtain ⟨t, rfl⟩ := ru
  obtain ⟨its, rv, ⟨⟨cls, dd, data, sl⟩, ho, hc, n, hd⟩, hlen⟩ := I.tuple hs
  simp only at hc hd
  subst hc hd
  have hi := ints_of_vals rv
  refine call_meets PySem.F.slot_tuple_count ⟨_, ho, rfl⟩ PySem.F.entry_tuple_count (PySem.F.args_tuple_count_2 _ _)
    (SeqAt.tuple_countAt p its.toArray n dd sl (.int k t) (eqk k)) ⟨ho, fun y hy => (eqk_gives hi y (by simpa using hy)).at _ _, ?_⟩
  have ec : its.toArray.toList.countP (eqk k) = ns.count k := eqk_count hi
  refine ⟨.int (ns.count k : Nat), H, I.tok _, ⟨s.toks, ?_⟩, q⟩
  show Value.int ((its.toArray.toList.countP (eqk k) : Nat) : Int) s.toks = Value.int ((ns.count k : Nat) : Int) s.toks
  rw [ec]
def pCountT : D → List D → Hh → R D
  | .tup ds, [.int k], h => match intsOf ds with
    | some ns => .ok (.int (ns.count k : Nat)) h
    | none => .no
  | _, _, _ => .no
theorem m_countT : MtR X "tuple.count" (rPM X.K T X.mg E pCountT) := MtR.imp mt_tcountI fun x xs H Q ⟨d, ds, f, h, rd, r, hr, tb, p⟩ => by
  unfold pCountT at p
  split at p
  · match rd, r with
    | .tup (a := a) (ds := es) ht hv, .cons (.int k) .nil =>
      cases g : intsOf es with
      | none => rw [g] at p; exact p.elim
      | some ns =>
        rw [g] at p
        rw [intsOf_eq g] at hv
        rw [hv.intsV] at ht
        exact ⟨a, ns, k, rfl, rfl, ht.t, post_v p (.int _) hr tb⟩
  · exact p.elim
def pCountL : D → List D → Hh → R D
  | .ref i, [.int k], h => match getL h i with
    | some ds => match intsOf ds with
      | some ns => .ok (.int (ns.count k : Nat)) h
      | none => .no
    | none => .no
  | _, _, _ => .no
theorem m_countL : MtR X "list.count" (rPM X.K T X.mg E pCountL) := MtR.imp mt_lcount fun x xs H Q ⟨d, ds, f, h, rd, r, hr, tb, p⟩ => by
  unfold pCountL at p
  split at p
  · match rd, r with
    | .ref (a := a) (i := i) e1, .cons (.int k) .nil =>
      cases g1 : getL h i with
      | none => rw [g1] at p; exact p.elim
      | some es =>
        rw [g1] at p
        dsimp only at p
        obtain ⟨vs, hv, rv⟩ := hr.getL e1 g1
        cases g : intsOf es with
        | none => rw [g] at p; exact p.elim
        | some ns =>
          rw [g] at p
          rw [intsOf_eq g] at rv
          rw [rv.intsV] at hv
          exact ⟨a, ns, k, rfl, rfl, SqL.of hv, post_v p (.int _) hr tb⟩
  · exact p.elim

/-! ## sorted(set(t)), len(set(t)): ints -/
/-- put into its place, once -/
def insU (x : Int) : List Int → List Int
  | [] => [x]
  | y :: l => if x < y then x :: y :: l else if x = y then y :: l else y :: insU x l
def srtU : List Int → List Int
  | [] => []
  | x :: l => insU x (srtU l)
theorem insU_mem (x z : Int) : ∀ l, z ∈ insU x l ↔ z = x ∨ z ∈ l
  | [] => by simp [insU]
  | y :: l => by
    unfold insU
    by_cases h : x < y
    · rw [if_pos h]; simp
    · rw [if_neg h]
      by_cases h2 : x = y
      · rw [if_pos h2, h2]; simp
      · rw [if_neg h2, List.mem_cons, List.mem_cons, insU_mem x z l]
        constructor
        · rintro (h | h | h)
          · exact .inr (.inl h)
          · exact .inl h
          · exact .inr (.inr h)
        · rintro (h | h | h)
          · exact .inr (.inl h)
          · exact .inl h
          · exact .inr (.inr h)
theorem srtU_mem (z : Int) : ∀ l, z ∈ srtU l ↔ z ∈ l
  | [] => by simp [srtU]
  | x :: l => by rw [srtU, insU_mem, srtU_mem z l, List.mem_cons]
theorem insU_sorted {x : Int} : ∀ {l : List Int}, l.Pairwise (· < ·) → (insU x l).Pairwise (· < ·)
  | [], _ => by simp [insU]
  | y :: l, h => by
    have h' := h
    rw [List.pairwise_cons] at h
    unfold insU
    by_cases q : x < y
    · rw [if_pos q, List.pairwise_cons]
      exact ⟨fun z hz => by rcases List.mem_cons.mp hz with rfl | hz; exact q; exact Int.lt_trans q (h.1 z hz), h'⟩
    · rw [if_neg q]
      by_cases q2 : x = y
      · rw [if_pos q2]; exact h'
      · rw [if_neg q2, List.pairwise_cons]
        refine ⟨fun z hz => ?_, insU_sorted h.2⟩
        rcases (insU_mem x z l).mp hz with rfl | hz
        · omega
        · exact h.1 z hz
theorem srtU_sorted : ∀ l, (srtU l).Pairwise (· < ·)
  | [] => .nil
  | x :: l => insU_sorted (srtU_sorted l)
theorem sortedU_one : ∀ {l m : List Int}, (∀ z, z ∈ l ↔ z ∈ m) → l.Pairwise (· < ·) → m.Pairwise (· < ·) → l = m
  | [], [], _, _, _ => rfl
  | [], y :: m, p, _, _ => absurd ((p y).mpr List.mem_cons_self) (by simp)
  | x :: l, [], p, _, _ => absurd ((p x).mp List.mem_cons_self) (by simp)
  | x :: l, y :: m, p, hl, hm => by
    rw [List.pairwise_cons] at hl hm
    have e : x = y := by
      rcases List.mem_cons.mp ((p x).mp List.mem_cons_self) with h1 | h1
      · exact h1
      · rcases List.mem_cons.mp ((p y).mpr List.mem_cons_self) with h2 | h2
        · exact h2.symm
        · have := hl.1 y h2; have := hm.1 x h1; omega
    subst e
    rw [sortedU_one (l := l) (m := m) (fun z => ?_) hl.2 hm.2]
    constructor
    · intro h
      rcases List.mem_cons.mp ((p z).mp (List.mem_cons_of_mem _ h)) with h1 | h1
      · subst h1; have := hl.1 z h; omega
      · exact h1
    · intro h
      rcases List.mem_cons.mp ((p z).mpr (List.mem_cons_of_mem _ h)) with h1 | h1
      · subst h1; have := hm.1 z h; omega
      · exact h1
/-- set(t), t a tuple of ints -/
def rSetTI (K : PySem.W.Frag) (w : World) : List V → Hp → VK → Prop := fun xs H Q => ∃ (a : Addr) (ns : List Int), xs = [.ref a] ∧ SqT K H a (ns.map V.int) ∧ ns.length < 64 ∧ ∀ (q : Addr) (c : Nat), H q = none → c ≤ ns.length → Q (.ref q) (upd H q (SetO w q (fun j => decide (j ∈ ns)) c))
theorem cr_setTI (hc : X.calm = true) : CallR X (.type "set") (rSetTI X.K X.w) := by
  intro pins s σ H xs us Q I r h
  obtain ⟨a, ns, rfl, hq, hl, q⟩ := h
  obtain ⟨u, rfl, ru⟩ := vals1 r
  cases ru
  obtain ⟨its, rv, pt, hz⟩ := I.tuple hq
  refine call_set_tupI ns (I.ok.hd hc) (show s.heap.IsTuple a its.toArray from pt) (ints_of_vals rv) (by unfold scanBound; omega) fun h' tk c R1 hcn k => ?_
  exact ⟨.ref s.heap.objs.size, _, I.laid (t' := tk) k (Nat.le_refl _) (setO_new R1), rfl, q _ c (I.hok.fresh (Nat.le_refl _)) hcn⟩
def pSrtSet : D → Hh → R D
  | .tup ds, h => match intsOf ds with
    | some ns => if ns.length < 64 then .ok (.ref h.length) (h ++ [.lst ((srtU ns).map D.int)]) else .no
    | none => .no
  | _, _ => .no
theorem T_srtSet {p1 p2 pp : Pos} (hc : X.calm = true) (hg : Gl X "sorted") (hm : X.mg "sorted" = none) (hg2 : Gl X "set") (hm2 : X.mg "set" = none) (he : XE X T E e me) (hs : starEach [e] X.env = (false, eval e X.env) :: starEach [] X.env := by rfl)
    (hs2 : starEach [.Call (.Name "set" p2) [e] [] pp] X.env = (false, eval (.Call (.Name "set" p2) [e] [] pp) X.env) :: starEach [] X.env := by rfl) (hpl : (backTo pp (starEach [] X.env)).any (·.1) = false := by rfl) (hpl2 : (backTo pos (starEach [] X.env)).any (·.1) = false := by rfl) :
    XE X T E (.Call (.Name "sorted" p1) [.Call (.Name "set" p2) [e] [] pp] [] pos) (mUn pSrtSet me) :=
  (pe_callB (cr_sortedSet hc) hg hm (by decide +kernel) (pa_cons (pe_callTy (cr_setTI hc) hg2 hm2 (by decide +kernel) (pa_cons he pa_nil hs) (by decide) (by decide) hs hpl) pa_nil hs2) (by decide) (by decide) hs2 hpl2).imp fun σ H Q ⟨env, f, h, S, p⟩ => ⟨env, f, h, S, PostG.bind p fun d1 h1 v1 H1 f1 s1 r1 hr1 tb1 p1 => by
    cases r1 with
    | @tup a vs ds ht hv =>
      dsimp only [pSrtSet] at p1
      cases g : intsOf ds with
      | none => rw [g] at p1; exact p1.elim
      | some ns =>
        rw [g] at p1
        dsimp only at p1
        by_cases hl : ns.length < 64
        · rw [if_pos hl] at p1
          rw [intsOf_eq g] at hv
          rw [hv.intsV] at ht
          refine ⟨a, ns, rfl, ht.t, hl, fun q c nq hcn => ⟨q, _, c, rfl, upd_same, by omega, fun ms p hp hmem hlen np => ?_⟩⟩
          have e1 : ms = srtU ns := sortedU_one (fun z => by rw [hmem z, decide_eq_true_iff, srtU_mem]) hp (srtU_sorted ns)
          rw [e1]
          exact post_lst (PostG.later (Step.fresh nq) p1) VRs.ints (hr1.fresh nq) (tabs_alloc tb1 nq) p np
        · rw [if_neg hl] at p1; exact p1.elim
    | _ => exact p1.elim⟩
end
end CB

set_option maxRecDepth 100000
set_option maxHeartbeats 1000000
namespace CB
open PySem PySem.Spec
open L2

/-! ## what _law_refusal tells of a lambda -/
def word (e : Str) : Option Str := if e = "BadCount" then some "bad" else if e = "NotSo" then some "so" else if e = "TooMuch" then some "much" else none
structure Exm (K : PySem.W.Frag) (mg : Str → Option Value) where
  C1 : Addr
  C2 : Addr
  C3 : Addr
  g1 : mg "BadCount" = some (.ref C1)
  g2 : mg "NotSo" = some (.ref C2)
  g3 : mg "TooMuch" = some (.ref C3)
  e11 : PySem.W.exmOne K (.ref C1) (.ref C1) = some true
  e21 : PySem.W.exmOne K (.ref C2) (.ref C1) = some false
  e22 : PySem.W.exmOne K (.ref C2) (.ref C2) = some true
  e31 : PySem.W.exmOne K (.ref C3) (.ref C1) = some false
  e32 : PySem.W.exmOne K (.ref C3) (.ref C2) = some false
  e33 : PySem.W.exmOne K (.ref C3) (.ref C3) = some true
def TTref (mg : Str → Option Value) : (L2.XK → Hp → VK → Prop) → Hp → VK → Prop := fun tl H Q =>
  tl (fun cls _ H' => ∃ e s C, word e = some s ∧ mg e = some (.ref C) ∧ cls = .ref C ∧ Q (.str s) H') H (fun _ H' => Q (.str "") H')
section
variable {X : Cx}
theorem ref_gives {Ng : List Str} {x a q : Str} {sg : Scope} {g : Addr} {cdg : Value} {j1 j2 j3 j4 : Nat} {p1 p2 p3 p4 p5 p6 p7 p8 p9 p10 p11 p12 p13 p14 p15 p16 p17 p18 : Pos} (M : Exm X.K X.mg)
    (h1 : sg.names.lookup ("BadCount" : Str) = some .globalImplicit) (h2 : sg.names.lookup ("NotSo" : Str) = some .globalImplicit) (h3 : sg.names.lookup ("TooMuch" : Str) = some .globalImplicit) (h0 : ∀ f : Addr, (L2.start Ng [V.ref f])[0]? = some (some (V.ref f))) :
    LamX.GivesTo X Ng x sg g cdg [.Try [.Expr (.Call (.Name a p1) [] [] p2) p3] [.ExceptHandler (some (.Name "BadCount" p4)) none [.Return (some (.Constant (.str "bad") j1 p5)) p6] p7,
      .ExceptHandler (some (.Name "NotSo" p8)) none [.Return (some (.Constant (.str "so") j2 p9)) p10] p11, .ExceptHandler (some (.Name "TooMuch" p12)) none [.Return (some (.Constant (.str "much") j3 p13)) p14] p15] [] [] p16, .Return (some (.Constant (.str "") j4 p17)) p18] a q (TTref X.mg) := by
  intro f c' s H Q tl act hc h
  have gl : ∀ {e : Str}, sg.names.lookup e = some .globalImplicit → Gl (cxOf C8.CX0 X.prog X.w X.K X.mg X.base Ng x sg g cdg X.A X.stack s H C8.E0).nox e := fun h => h
  have nm : ∀ {e : Str} {C : Addr}, sg.names.lookup e = some .globalImplicit → X.mg e = some (.ref C) → (e == ("__debug__" : Str)) = false → Names (cxOf C8.CX0 X.prog X.w X.K X.mg X.base Ng x sg g cdg X.A X.stack s H C8.E0).nox e (.ref C) := fun h hm hd => ⟨h, hd, .inl hm⟩
  refine ⟨_, pss_cons (ps_try_many (X := (cxOf C8.CX0 X.prog X.w X.K X.mg X.base Ng x sg g cdg X.A X.stack s H C8.E0).nox)
      (tb := fun W D σ H => ∃ Ech : L2.XK, (∀ cls d σ' H', Ech cls d H' → W cls d σ' H') ∧ σ[0]? = some (some (.ref f)) ∧ H c' = some (LamX.CodeO c' q) ∧ tl Ech H fun _ H' => D.nx σ H')
      (l := [(.ref M.C1, fun _ _ _ D σ H => D.rt (.str "bad") H), (.ref M.C2, fun _ _ _ D σ H => D.rt (.str "so") H), (.ref M.C3, fun _ _ _ D σ H => D.rt (.str "much") H)])
      rfl rfl LamX.takes0 (fun W pn xe tk _ => ?_)
      (.cons (nm h1 M.g1 (by decide)) (fun _ _ _ _ _ _ _ => pss_one (ps_ret pe_str)) (.cons (nm h2 M.g2 (by decide)) (fun _ _ _ _ _ _ _ => pss_one (ps_ret pe_str)) (.cons (nm h3 M.g3 (by decide)) (fun _ _ _ _ _ _ _ => pss_one (ps_ret pe_str)) .nil)))) (pss_one (ps_ret pe_str)), ?_⟩
  · refine ⟨fun pins s' σ H' D I h' => ?_⟩
    obtain ⟨Ech, hW, e1, e2, e3⟩ := h'
    have hp := act W pn xe Ech p1 p2 tk hW
    have hq := pss_one (ps_expr (pos := p3) hp (by rfl))
    exact hq.run pins s' σ H' D I ⟨e1, e2, e3⟩
  · refine ⟨fun cls _ H' => ∃ e s C, word e = some s ∧ X.mg e = some (.ref C) ∧ cls = .ref C ∧ Q (.str s) H', fun cls d σ' H' ⟨e, s, C, hw, hm, hcl, hQ⟩ => ?_, h0 f, hc, h⟩
    subst hcl
    unfold word at hw
    by_cases q1 : e = "BadCount"
    · rw [if_pos q1] at hw
      cases hw
      rw [q1, M.g1] at hm
      cases hm
      exact ⟨true, M.e11, fun _ a _ => hQ, fun z => by cases z⟩
    · rw [if_neg q1] at hw
      by_cases q2 : e = "NotSo"
      · rw [if_pos q2] at hw
        cases hw
        rw [q2, M.g2] at hm
        cases hm
        exact ⟨false, M.e21, (fun z => by cases z), fun _ => ⟨true, M.e22, fun _ a _ => hQ, fun z => by cases z⟩⟩
      · rw [if_neg q2] at hw
        by_cases q3 : e = "TooMuch"
        · rw [if_pos q3] at hw
          cases hw
          rw [q3, M.g3] at hm
          cases hm
          exact ⟨false, M.e31, (fun z => by cases z), fun _ => ⟨false, M.e32, (fun z => by cases z), fun _ => ⟨true, M.e33, fun _ a _ => hQ, fun z => by cases z⟩⟩⟩
        · rw [if_neg q3] at hw; cases hw
end
def mRef (m : EM) : EM := fun env h => match m env h with
  | .ok _ h' => .ok (.str "") h'
  | .ex e h' => match word e with
    | some s => .ok (.str s) h'
    | none => .no
  | .no => .no
theorem step_ext {H H1 : Hp} {f : List Addr} (e : LamX.ExtN H H1) : Step H f H1 f := ⟨fun _ _ h => h, fun b o h _ n => e b o h n, fun _ h => .inl h⟩
theorem HR.ext {K : PySem.W.Frag} {H H1 : Hp} {f : List Addr} {h : Hh} (R : HR K H f h) (e : LamX.ExtN H H1) : HR K H1 f h := by
  refine ⟨R.len, R.inj, fun i o q => ?_⟩
  obtain ⟨a, e1, r⟩ := R.ob i o q
  refine ⟨a, e1, r.step (step_ext e) ?_⟩
  cases o with
  | lst ds => obtain ⟨vs, h1, _⟩ := r; rw [h1]; exact e _ _ h1 (fun ps z => by cases z)
  | dK ds => obtain ⟨vs, h1, _⟩ := r; rw [h1]; exact e _ _ h1 (fun ps z => by cases z)
  | lk ds => obtain ⟨od, vs, h1, _⟩ := r; rw [h1]; exact e _ _ h1 (fun ps z => by cases z)
theorem ref_ok {K : PySem.W.Frag} {T : List (Addr × Str)} {mg : Str → Option Value} {E : L2.XK} {m : EM} {σ : L2.St} {H : Hp} {Q : VK} (p : tE K T mg E (mRef m) σ H Q) : LamX.tLam T (TTref mg) (fun Ech => tE K T mg Ech m) σ H Q := by
  obtain ⟨env, f, h, S, p⟩ := p
  refine ⟨S.tb, fun H1 e tb1 => ?_⟩
  refine ⟨env, f, h, ⟨S.er.step (step_ext e), S.hr.ext e, tb1⟩, ?_⟩
  unfold mRef at p
  cases q : m env h with
  | ok d h' =>
    rw [q] at p
    exact fun v H' f' s rv hr tb => p (.str "") H' f' ((step_ext e).trans s) (.str _) hr tb
  | ex x h' =>
    rw [q] at p
    dsimp only at p
    cases w : word x with
    | none => rw [w] at p; exact p.elim
    | some s =>
      rw [w] at p
      exact fun C H' f' hm st hr tb => ⟨x, s, C, w, hm, rfl, p (.str s) H' f' ((step_ext e).trans st) (.str _) hr tb⟩
  | no => rw [q] at p; exact p.elim
/-- the code object of a def that makes lambdas, and its table -/
structure Lm (base : Heap) (mg : Str → Option Value) (T : List (Addr × Str)) (fd : FuncData) (qual : Str) (c P : Addr) : Prop where
  cd : fd.code = .ref c
  tb : LamX.TabB base mg c P
  mT : (P, qual ++ "<lambda>") ∈ T
  hu : ∀ p ∈ T, p.1 = P → p.2 = qual ++ "<lambda>"
section
variable {X : Cx} {T : List (Addr × Str)} {E : L2.XK} {pos : Pos}
theorem T_lam {g c P : Addr} {fd fdl : FuncData} {k : Nat} {st : Stmt} {p lpos : Pos} {params : Arguments} {body : Expr} {scope : Scope} {m : EM} {qual : Str} (M : Exm X.K X.mg) (hg : Gl X "_law_refusal") (hm : X.mg "_law_refusal" = some (.ref g)) (F : Fun X.K "_law_refusal" "_law_refusal" st g fd) (hb : Binds X.K fd ["call"] []) (Sg : FnScope ["call"] ["call"] (defScope st))
    (hG : ∀ cdv, LamX.GivesTo X ["call"] "_law_refusal" (defScope st) g cdv (defBody st) "call" (X.env.qual ++ "<lambda>") (TTref X.mg)) (L : Lm X.base X.mg T fdl qual c P) (hq : X.env.qual = qual) (hc : X.env.code = .ref c) (hr : Room (k + 2) X.A)
    (hbody : ∀ (A : Around) (outer : List Env) (s : Shared) (H : Hp) (E : L2.XK) (f c' : Addr), Room k (A.deeper (LamX.lamEnv X scope s.heap.objs.size f c')) → XE (LamX.lamCx X A outer s H E scope f c') T E body m)
    (hva : Vis (defScope st) "call" := by first | exact Or.inl rfl | exact Or.inr (Or.inl rfl) | exact Or.inr (Or.inr rfl)) (LS : LamX.LamS X.env.scope scope := by exact LamX.lamS_by (by kernel_rfl)) (hdef : defaultsOf params X.env = ([], []) := by rfl)
    (hbind : ∀ (q : Str) (cl : List (Str × Addr)) (pm cv ctv : Value), bindArgs (PySem.W.kla_fn "<lambda>" q params body scope cl pm cv ctv) ⟨[], []⟩ = pure [] := by intros; rfl) :
    XE X T E (.Call (.Name "_law_refusal" p) [.Lambda params body scope lpos] [] pos) (mRef m) := by
  obtain ⟨oc, od, kV, doc, pm, an, cdv, ct, osl, rfl, lk, hcd⟩ := F.ex
  subst hq
  exact (LamX.pe_lamcall hg hm F.kp lk hcd hb Sg rfl hva (hG cdv) L.tb hc L.mT L.hu hr LS hdef hbind hbody).imp fun σ H Q q => ref_ok q
end
section
variable {P : Program} {w : World} {K : PySem.W.Frag} {mg : Str → Option Value} {base : Heap} {T : List (Addr × Str)} {k : Nat} {f : Addr} {fd : FuncData} {ps : List Str}
/-- the body of a def that makes lambdas -/
theorem fn_bodyL {x qual : Str} {st : Stmt} {N : List Str} {n : Nat} {m : SM} {c Pt : Addr} (L : Lm base mg T fd qual c Pt) (F : Fun K x qual st f fd) (S : FnScope N ps (defScope st)) (hn : n = ps.length)
    (body : ∀ (A : Around) (outer : List Env) (s : Shared) (H : Hp) (E : L2.XK), Room k (A.deeper (PyProof.Rows.envOfC qual (defScope st) s.heap.objs.size f (.ref c))) → XB (cxOf (L2.CX P w) P w K mg base N qual (defScope st) f (.ref c) A outer s H E) T E (defBody st) m) :
    FnOk P w K mg base (L2.CX P w) (k + 1) f fd ps (spM K T mg n (fnG n N.length m)) := by
  have hcd := L.cd
  obtain ⟨oc, od, kV, doc, pm, an, cdv, ct, osl, rfl, lk, hcd2⟩ := F.ex
  have ec : cdv = .ref c := hcd
  subst ec
  refine fn_of lk hcd2 S (fun vs H Q E ⟨ds, f, h, hl, r, _⟩ => by rw [← r.len, hl, hn]) fun A outer s H vs Q E hr ⟨ds, f', h, hl, r, hh, tb, p⟩ => ⟨_, body A outer s H E hr, startE N.length ds, f', h, ⟨er_start r, hh, tb⟩, ?_⟩
  unfold fnG at p
  rw [if_pos hl] at p
  unfold fin at p
  cases q : m (startE N.length ds) h with
  | nx env1 h1 => rw [q] at p; exact fun σ' H' f' s' S' => p .non H' f' s' .non S'.hr S'.tb
  | rt d h1 => rw [q] at p; exact p
  | ex e1 h1 => rw [q] at p; exact p
  | bk _ _ => rw [q] at p; exact p.elim
  | ct _ _ => rw [q] at p; exact p.elim
  | no => rw [q] at p; exact p.elim
end
end CB

set_option maxRecDepth 100000
set_option maxHeartbeats 1000000
namespace CB
open PySem PySem.Spec
open L2

/-! ## the box of a law -/
def mBox : SM :=
  (mRet (mLst (mCons (mC (.int 0)) (mCons (mC (.int 0)) (mCons (mC (.int 0)) (mCons (mLc (mSeqI (mV 0)) [1] (kN 1) (mC (.bl true)) (mCall pAbs (mCons (mCall pInt (mCons (mV 1) mNil)) mNil))) mNil))))))
def tkA : SM :=
  (mSeq (mPutS (mV 0) (mC (.int 2)) (mBin pAdd (mV 2) (mC (.int 1))))
  (mSeq (mPutS (mV 0) (mC (.int 0)) (mV 3))
  (mIf (mBin pEq (mBin pIx (mV 0) (mC (.int 1))) (mC (.int 0))) (mRet (mC (.int 0))) mPass)))
def tkB : SM :=
  (mSeq (mIf (mBin pGt (mBin pIx (mV 0) (mC (.int 1))) (mC (.int 0))) (mSeq (mSet 4 (mBin pMod (mCall pInt (mCons (mBin pIx (mV 0) (mC (.int 0))) mNil)) (mV 1)))
  (mSeq (mPutS (mV 0) (mC (.int 0)) (mBin pDiv (mBin pIx (mV 0) (mC (.int 0))) (mV 1)))
  (mSeq (mPutS (mV 0) (mC (.int 1)) (mIte (mBin pGt (mBin pIx (mV 0) (mC (.int 0))) (mC (.int 0))) (mBin pSub (mBin pIx (mV 0) (mC (.int 1))) (mC (.int 1))) (mC (.int 0))))
  (mRet (mV 4))))) mPass)
  (mSeq (mPutS (mV 0) (mC (.int 1)) (mBin pAdd (mBin pIx (mV 0) (mC (.int 1))) (mC (.int 1))))
  (mSeq (mPutS (mV 0) (mC (.int 0)) (mBin pMod (mCall pInt (mCons (mBin pAdd (mBin pMul (mBin pIx (mV 0) (mC (.int 0))) (mC (.int 48271))) (mBin pMul (mC (.int 69621)) (mBin pAdd (mBin pIx (mV 0) (mC (.int 1))) (mC (.int 20))))) mNil)) (mC (.int 2147483647))))
  (mRet (mBin pMod (mBin pMod (mCall pInt (mCons (mBin pAdd (mBin pDiv (mBin pIx (mV 0) (mC (.int 0))) (mC (.int 7))) (mBin pIx (mV 0) (mC (.int 0)))) mNil)) (mC (.int 1000003))) (mV 1))))))
def mTake : SM :=
  mSeq (mIf (mBin pEq (mBin pIx (mV 0) (mC (.int 1))) (mC (.int 0))) (mSeq (mSet 2 (mBin pIx (mV 0) (mC (.int 2))))
  (mSeq (mSet 3 (mC (.int 0)))
  (mSeq (mIf (mBin pLt (mV 2) (mCall pLen (mCons (mBin pIx (mV 0) (mC (.int 3))) mNil))) (mSeq (mSet 3 (mBin pIx (mBin pIx (mV 0) (mC (.int 3))) (mV 2)))
  (mPutS (mV 0) (mC (.int 1)) (mIte (mBin pGe (mV 3) (mBin pPow (mC (.int 10)) (mC (.int 18)))) (mC (.int 60)) (mUn pNeg (mC (.int 9)))))) mPass) tkA))) mPass) tkB
def bxH (xs : List Int) (c md sp : Int) (g : Hh) : Hh := .lst (xs.map D.int) :: .lst [.int c, .int md, .int sp, .ref 0] :: g
section
variable {xs : List Int} {c md sp m : Int} {g : Hh} {env : Env'}
theorem bx_ix {k : Int} {d : D} {kk : EM} (hk : kk env (bxH xs c md sp g) = .ok (.int k) (bxH xs c md sp g)) (hj : atI [D.int c, .int md, .int sp, .ref 0] k = some d) (h0 : env[0]? = some (some (.ref 1))) : mBin pIx (mV 0) kk env (bxH xs c md sp g) = .ok d (bxH xs c md sp g) := by
  unfold mBin mV
  rw [h0]
  dsimp only [R.bind]
  rw [hk]
  dsimp only [R.bind, pIx]
  rw [show getL (bxH xs c md sp g) 1 = some [D.int c, .int md, .int sp, .ref 0] from rfl]
  dsimp only
  rw [hj]
theorem bx_ix0 (h0 : env[0]? = some (some (.ref 1))) : mBin pIx (mV 0) (mC (.int 0)) env (bxH xs c md sp g) = .ok (.int c) (bxH xs c md sp g) := bx_ix (k := 0) rfl rfl h0
theorem bx_ix1 (h0 : env[0]? = some (some (.ref 1))) : mBin pIx (mV 0) (mC (.int 1)) env (bxH xs c md sp g) = .ok (.int md) (bxH xs c md sp g) := bx_ix (k := 1) rfl rfl h0
theorem bx_ix2 (h0 : env[0]? = some (some (.ref 1))) : mBin pIx (mV 0) (mC (.int 2)) env (bxH xs c md sp g) = .ok (.int sp) (bxH xs c md sp g) := bx_ix (k := 2) rfl rfl h0
theorem bx_ix3 (h0 : env[0]? = some (some (.ref 1))) : mBin pIx (mV 0) (mC (.int 3)) env (bxH xs c md sp g) = .ok (.ref 0) (bxH xs c md sp g) := bx_ix (k := 3) rfl rfl h0
theorem bx_put {k z c' md' sp' : Int} {e : EM} (he : e env (bxH xs c md sp g) = .ok (.int z) (bxH xs c md sp g)) (h0 : env[0]? = some (some (.ref 1))) (hs : setL (.ref 1) (.int k) (.int z) (bxH xs c md sp g) = some (bxH xs c' md' sp' g)) :
    mPutS (mV 0) (mC (.int k)) e env (bxH xs c md sp g) = .nx env (bxH xs c' md' sp' g) := by
  unfold mPutS mV mC
  rw [he]
  dsimp only [R.bindS]
  rw [h0]
  dsimp only [R.bindS]
  rw [hs]
theorem bx_put0 {z : Int} {e : EM} (he : e env (bxH xs c md sp g) = .ok (.int z) (bxH xs c md sp g)) (h0 : env[0]? = some (some (.ref 1))) : mPutS (mV 0) (mC (.int 0)) e env (bxH xs c md sp g) = .nx env (bxH xs z md sp g) := bx_put he h0 rfl
theorem bx_put1 {z : Int} {e : EM} (he : e env (bxH xs c md sp g) = .ok (.int z) (bxH xs c md sp g)) (h0 : env[0]? = some (some (.ref 1))) : mPutS (mV 0) (mC (.int 1)) e env (bxH xs c md sp g) = .nx env (bxH xs c z sp g) := bx_put he h0 rfl
theorem bx_put2 {z : Int} {e : EM} (he : e env (bxH xs c md sp g) = .ok (.int z) (bxH xs c md sp g)) (h0 : env[0]? = some (some (.ref 1))) : mPutS (mV 0) (mC (.int 2)) e env (bxH xs c md sp g) = .nx env (bxH xs c md z g) := bx_put he h0 rfl
end
section
variable {env : Env'} {h h' : Hh} {a b : EM} {x y : Int} {i : Nat} {d : D}
theorem e_v (h0 : env[i]? = some (some d)) : mV i env h = .ok d h := by unfold mV; rw [h0]
theorem e_bin {p : D → D → Hh → R D} {r : R D} {dx dy : D} (ha : a env h = .ok dx h) (hb : b env h = .ok dy h) (hp : p dx dy h = r) : mBin p a b env h = r := by
  unfold mBin
  rw [ha]
  dsimp only [R.bind]
  rw [hb]
  exact hp
theorem e_if {c : EM} {m1 m2 : SM} {k : Bool} (hc : c env h = .ok (.bl k) h) : mIf c m1 m2 env h = if k = true then m1 env h else m2 env h := by
  unfold mIf
  rw [hc]
  cases k <;> rfl
theorem e_if0 {c : EM} {m1 : SM} (hc : c env h = .ok (.bl false) h) : mIf c m1 mPass env h = .nx env h := by
  unfold mIf
  rw [hc]
  rfl
theorem e_seq {m1 m2 : SM} {env1 : Env'} {h1 : Hh} (h0 : m1 env h = .nx env1 h1) : mSeq m1 m2 env h = m2 env1 h1 := by
  unfold mSeq
  rw [h0]
theorem e_seqR {m1 m2 : SM} {h1 : Hh} (h0 : m1 env h = .rt d h1) : mSeq m1 m2 env h = .rt d h1 := by
  unfold mSeq
  rw [h0]
theorem e_set {e : EM} (he : e env h = .ok d h') : mSet i e env h = .nx (env.set i (some d)) h' := by
  unfold mSet
  rw [he]
  rfl
theorem e_ret {e : EM} (he : e env h = .ok d h') : mRet e env h = .rt d h' := by
  unfold mRet
  rw [he]
  rfl
theorem e_call1 {p : List D → Hh → R D} {e : EM} {r : R D} (he : e env h = .ok d h) (hp : p [d] h = r) : mCall p (mCons e mNil) env h = r := by
  unfold mCall mCons mNil
  rw [he]
  exact hp
theorem e_ite {c a b : EM} {k : Bool} (hc : c env h = .ok (.bl k) h) : mIte c a b env h = if k = true then a env h else b env h := by
  unfold mIte
  rw [hc]
  cases k <;> rfl
theorem p_eqI : pEq (.int x) (.int y) h = .ok (.bl (x == y)) h := rfl
theorem p_add : pAdd (.int x) (.int y) h = .ok (.int (x + y)) h := rfl
theorem p_sub : pSub (.int x) (.int y) h = .ok (.int (x - y)) h := rfl
theorem p_mul (q : mulOk x y = true) : pMul (.int x) (.int y) h = .ok (.int (x * y)) h := if_pos q
theorem p_mod (q : y ≠ 0) : pMod (.int x) (.int y) h = .ok (.int (x.fmod y)) h := if_pos q
theorem p_div (q : y ≠ 0) (q2 : y.natAbs < 1073741824) : pDiv (.int x) (.int y) h = .ok (.int (x.fdiv y)) h := if_pos ⟨q, q2⟩
theorem p_pow (q : 0 ≤ y ∧ y ≤ 1000000 ∧ x.natAbs < 2 ^ 64) : pPow (.int x) (.int y) h = .ok (.int (x ^ y.toNat)) h := if_pos q
theorem p_ge : pGe (.int x) (.int y) h = .ok (.bl (decide (y ≤ x))) h := rfl
theorem p_int : pInt [.int x] h = .ok (.int x) h := rfl
end
section
variable {xs : List Int} {c md sp m : Int} {d2 d3 : Option D}
theorem take_2 (hm : 1 ≤ m) (hm2 : m < 1073741824) (h1 : md ≠ 0) : ∃ t c' md', 0 ≤ t ∧ t < m ∧ ∀ g, fin (tkB [some (.ref 1), some (.int m), d2, d3, none] (bxH xs c md sp g)) = .ok (.int t) (bxH xs c' md' sp g) := by
  unfold tkB
  have hm0 : m ≠ 0 := by omega
  have hmn : m.natAbs < 1073741824 := by omega
  by_cases hp : 0 < md
  · refine ⟨c.fmod m, c.fdiv m, if 0 < c.fdiv m then md - 1 else 0, Int.fmod_nonneg_of_pos _ (by omega), Int.fmod_lt_of_pos _ (by omega), fun g => ?_⟩
    have e1 : mBin pGt (mBin pIx (mV 0) (mC (.int 1))) (mC (.int 0)) [some (.ref 1), some (.int m), d2, d3, none] (bxH xs c md sp g) = .ok (.bl true) (bxH xs c md sp g) := e_bin (bx_ix1 rfl) rfl (by show R.ok (D.bl (decide (0 < md))) _ = _; rw [decide_eq_true hp])
    have e2 : mSet 4 (mBin pMod (mCall pInt (mCons (mBin pIx (mV 0) (mC (.int 0))) mNil)) (mV 1)) [some (.ref 1), some (.int m), d2, d3, none] (bxH xs c md sp g) = .nx [some (.ref 1), some (.int m), d2, d3, some (.int (c.fmod m))] (bxH xs c md sp g) :=
      e_set (e_bin (e_call1 (bx_ix0 rfl) rfl) rfl (by show (if m ≠ 0 then _ else _) = _; rw [if_pos hm0]))
    have e3 : mPutS (mV 0) (mC (.int 0)) (mBin pDiv (mBin pIx (mV 0) (mC (.int 0))) (mV 1)) [some (.ref 1), some (.int m), d2, d3, some (.int (c.fmod m))] (bxH xs c md sp g) = .nx [some (.ref 1), some (.int m), d2, d3, some (.int (c.fmod m))] (bxH xs (c.fdiv m) md sp g) :=
      bx_put0 (e_bin (bx_ix0 rfl) rfl (by show (if (m ≠ 0 ∧ m.natAbs < 1073741824) then _ else _) = _; rw [if_pos ⟨hm0, hmn⟩])) rfl
    have e4 : mPutS (mV 0) (mC (.int 1)) (mIte (mBin pGt (mBin pIx (mV 0) (mC (.int 0))) (mC (.int 0))) (mBin pSub (mBin pIx (mV 0) (mC (.int 1))) (mC (.int 1))) (mC (.int 0))) [some (.ref 1), some (.int m), d2, d3, some (.int (c.fmod m))] (bxH xs (c.fdiv m) md sp g) =
        .nx [some (.ref 1), some (.int m), d2, d3, some (.int (c.fmod m))] (bxH xs (c.fdiv m) (if 0 < c.fdiv m then md - 1 else 0) sp g) := by
      refine bx_put1 ?_ rfl
      rw [e_ite (k := decide (0 < c.fdiv m)) (e_bin (bx_ix0 rfl) rfl rfl)]
      by_cases hq : 0 < c.fdiv m
      · rw [if_pos (decide_eq_true hq), if_pos hq]
        exact e_bin (bx_ix1 rfl) rfl rfl
      · rw [if_neg (by rw [decide_eq_false hq]; decide), if_neg hq]
        rfl
    rw [e_seqR ((e_if e1).trans ((if_pos rfl).trans ((e_seq e2).trans ((e_seq e3).trans ((e_seq e4).trans (e_ret (e_v rfl)))))))]
    rfl
  · have hc : ∃ c1 : Int, c1 = (c * 48271 + 69621 * (md + 1 + 20)).fmod 2147483647 := ⟨_, rfl⟩
    obtain ⟨c1, hc1⟩ := hc
    refine ⟨((c1.fdiv 7 + c1).fmod 1000003).fmod m, c1, md + 1, Int.fmod_nonneg_of_pos _ (by omega), Int.fmod_lt_of_pos _ (by omega), fun g => ?_⟩
    have e1 : mBin pGt (mBin pIx (mV 0) (mC (.int 1))) (mC (.int 0)) [some (.ref 1), some (.int m), d2, d3, none] (bxH xs c md sp g) = .ok (.bl false) (bxH xs c md sp g) := e_bin (bx_ix1 rfl) rfl (by show R.ok (D.bl (decide (0 < md))) _ = _; rw [decide_eq_false hp])
    have e2 : mIf (mBin pGt (mBin pIx (mV 0) (mC (.int 1))) (mC (.int 0))) (mSeq (mSet 4 (mBin pMod (mCall pInt (mCons (mBin pIx (mV 0) (mC (.int 0))) mNil)) (mV 1)))
      (mSeq (mPutS (mV 0) (mC (.int 0)) (mBin pDiv (mBin pIx (mV 0) (mC (.int 0))) (mV 1)))
      (mSeq (mPutS (mV 0) (mC (.int 1)) (mIte (mBin pGt (mBin pIx (mV 0) (mC (.int 0))) (mC (.int 0))) (mBin pSub (mBin pIx (mV 0) (mC (.int 1))) (mC (.int 1))) (mC (.int 0))))
      (mRet (mV 4))))) mPass [some (.ref 1), some (.int m), d2, d3, none] (bxH xs c md sp g) = .nx [some (.ref 1), some (.int m), d2, d3, none] (bxH xs c md sp g) := by
      rw [e_if e1, if_neg (by decide)]
      rfl
    have e3 : mPutS (mV 0) (mC (.int 1)) (mBin pAdd (mBin pIx (mV 0) (mC (.int 1))) (mC (.int 1))) [some (.ref 1), some (.int m), d2, d3, none] (bxH xs c md sp g) = .nx [some (.ref 1), some (.int m), d2, d3, none] (bxH xs c (md + 1) sp g) :=
      bx_put1 (e_bin (bx_ix1 rfl) rfl rfl) rfl
    have mo : ∀ z : Int, mulOk z 48271 = true := fun z => by
      unfold mulOk
      rw [show Nat.blt (48271 : Int).natAbs 18446744073709551616 = true by decide, Bool.true_or, Bool.or_true]
    have mo2 : ∀ z : Int, mulOk 69621 z = true := fun z => by
      unfold mulOk
      rw [show Nat.blt (69621 : Int).natAbs 18446744073709551616 = true by decide, Bool.true_or]
    have e4 : mPutS (mV 0) (mC (.int 0)) (mBin pMod (mCall pInt (mCons (mBin pAdd (mBin pMul (mBin pIx (mV 0) (mC (.int 0))) (mC (.int 48271))) (mBin pMul (mC (.int 69621)) (mBin pAdd (mBin pIx (mV 0) (mC (.int 1))) (mC (.int 20))))) mNil)) (mC (.int 2147483647))) [some (.ref 1), some (.int m), d2, d3, none] (bxH xs c (md + 1) sp g) =
        .nx [some (.ref 1), some (.int m), d2, d3, none] (bxH xs c1 (md + 1) sp g) := by
      rw [hc1]
      exact bx_put0 (e_bin (e_call1 (e_bin (e_bin (bx_ix0 rfl) rfl (p_mul (mo _))) (e_bin rfl (e_bin (bx_ix1 rfl) rfl p_add) (p_mul (mo2 _))) p_add) p_int) rfl (p_mod (by decide))) rfl
    have e5 : mBin pMod (mBin pMod (mCall pInt (mCons (mBin pAdd (mBin pDiv (mBin pIx (mV 0) (mC (.int 0))) (mC (.int 7))) (mBin pIx (mV 0) (mC (.int 0)))) mNil)) (mC (.int 1000003))) (mV 1) [some (.ref 1), some (.int m), d2, d3, none] (bxH xs c1 (md + 1) sp g) =
        .ok (.int (((c1.fdiv 7 + c1).fmod 1000003).fmod m)) (bxH xs c1 (md + 1) sp g) :=
      e_bin (e_bin (e_call1 (e_bin (e_bin (bx_ix0 rfl) rfl (p_div (by decide) (by decide))) (bx_ix0 rfl) p_add) p_int) rfl (p_mod (by decide))) rfl (p_mod hm0)
    rw [e_seq e2, e_seq e3, e_seq e4, e_ret e5]
    rfl
theorem e_seqS {a b c : SM} {env env1 : Env'} {h h1 : Hh} (q : a env h = b env1 h1) : mSeq a c env h = mSeq b c env1 h1 := by
  unfold mSeq
  rw [q]
theorem take_1 (hs : 0 ≤ sp) (hm : 1 ≤ m) (hm2 : m < 1073741824) (x z : Int) : ∃ t c' md' sp', 0 ≤ t ∧ t < m ∧ 0 ≤ sp' ∧ ∀ g, fin (mSeq tkA tkB [some (.ref 1), some (.int m), some (.int sp), some (.int x), none] (bxH xs c z sp g)) = .ok (.int t) (bxH xs c' md' sp' g) := by
  have f1 : ∀ g : Hh, mPutS (mV 0) (mC (.int 2)) (mBin pAdd (mV 2) (mC (.int 1))) [some (.ref 1), some (.int m), some (.int sp), some (.int x), none] (bxH xs c z sp g) = .nx [some (.ref 1), some (.int m), some (.int sp), some (.int x), none] (bxH xs c z (sp + 1) g) := fun g => bx_put2 (e_bin rfl rfl rfl) rfl
  have f2 : ∀ g : Hh, mPutS (mV 0) (mC (.int 0)) (mV 3) [some (.ref 1), some (.int m), some (.int sp), some (.int x), none] (bxH xs c z (sp + 1) g) = .nx [some (.ref 1), some (.int m), some (.int sp), some (.int x), none] (bxH xs x z (sp + 1) g) := fun g => bx_put0 rfl rfl
  have f3 : ∀ g : Hh, mBin pEq (mBin pIx (mV 0) (mC (.int 1))) (mC (.int 0)) [some (.ref 1), some (.int m), some (.int sp), some (.int x), none] (bxH xs x z (sp + 1) g) = .ok (.bl (z == 0)) (bxH xs x z (sp + 1) g) := fun g => e_bin (bx_ix1 rfl) rfl rfl
  by_cases hz : z = 0
  · refine ⟨0, x, z, sp + 1, by omega, by omega, by omega, fun g => ?_⟩
    rw [e_seqR (m1 := tkA) ((e_seq (f1 g)).trans ((e_seq (f2 g)).trans ((e_if (f3 g)).trans ((if_pos (beq_iff_eq.mpr hz)).trans (e_ret rfl)))))]
    rfl
  · obtain ⟨t, c', md', h1, h2, h3⟩ := take_2 (xs := xs) (c := x) (sp := sp + 1) (d2 := some (.int sp)) (d3 := some (.int x)) hm hm2 hz
    refine ⟨t, c', md', sp + 1, h1, h2, by omega, fun g => ?_⟩
    rw [e_seq (m1 := tkA) (env1 := [some (.ref 1), some (.int m), some (.int sp), some (.int x), none]) (h1 := bxH xs x z (sp + 1) g) ((e_seq (f1 g)).trans ((e_seq (f2 g)).trans ((e_if (f3 g)).trans (if_neg (fun q => hz (beq_iff_eq.mp q))))))]
    exact h3 g
theorem take_run (hs : 0 ≤ sp) (hm : 1 ≤ m) (hm2 : m < 1073741824) : ∃ t c' md' sp', 0 ≤ t ∧ t < m ∧ 0 ≤ sp' ∧ ∀ g, fnG 2 5 mTake [.ref 1, .int m] (bxH xs c md sp g) = .ok (.int t) (bxH xs c' md' sp' g) := by
  show ∃ t c' md' sp', 0 ≤ t ∧ t < m ∧ 0 ≤ sp' ∧ ∀ g, fin (mTake [some (.ref 1), some (.int m), none, none, none] (bxH xs c md sp g)) = .ok (.int t) (bxH xs c' md' sp' g)
  unfold mTake
  by_cases h1 : md = 0
  · subst h1
    have e0 : ∀ g : Hh, mBin pEq (mBin pIx (mV 0) (mC (.int 1))) (mC (.int 0)) [some (.ref 1), some (.int m), none, none, none] (bxH xs c 0 sp g) = .ok (.bl true) (bxH xs c 0 sp g) := fun g => e_bin (bx_ix1 rfl) rfl rfl
    have e1 : ∀ g : Hh, mSet 2 (mBin pIx (mV 0) (mC (.int 2))) [some (.ref 1), some (.int m), none, none, none] (bxH xs c 0 sp g) = .nx [some (.ref 1), some (.int m), some (.int sp), none, none] (bxH xs c 0 sp g) := fun g => e_set (bx_ix2 rfl)
    have e2 : ∀ g : Hh, mSet 3 (mC (.int 0)) [some (.ref 1), some (.int m), some (.int sp), none, none] (bxH xs c 0 sp g) = .nx [some (.ref 1), some (.int m), some (.int sp), some (.int 0), none] (bxH xs c 0 sp g) := fun g => e_set rfl
    have e3 : ∀ g : Hh, mBin pLt (mV 2) (mCall pLen (mCons (mBin pIx (mV 0) (mC (.int 3))) mNil)) [some (.ref 1), some (.int m), some (.int sp), some (.int 0), none] (bxH xs c 0 sp g) = .ok (.bl (decide (sp < (xs.length : Int)))) (bxH xs c 0 sp g) := fun g => by
      refine e_bin rfl (e_call1 (bx_ix3 rfl) (r := .ok (.int ((xs.map D.int).length : Nat)) (bxH xs c 0 sp g)) rfl) ?_
      rw [List.length_map]
      rfl
    by_cases hl : sp < (xs.length : Int)
    · obtain ⟨n, rfl⟩ : ∃ n : Nat, sp = n := ⟨sp.toNat, by omega⟩
      have hn : n < xs.length := by omega
      have f4 : ∀ g : Hh, mBin pIx (mBin pIx (mV 0) (mC (.int 3))) (mV 2) [some (.ref 1), some (.int m), some (.int (n : Nat)), some (.int 0), none] (bxH xs c 0 n g) = .ok (.int xs[n]) (bxH xs c 0 n g) := fun g => by
        refine e_bin (bx_ix3 rfl) rfl ?_
        show (match atI (xs.map D.int) (n : Nat) with | some d => R.ok d (bxH xs c 0 n g) | none => .no) = _
        rw [show atI (xs.map D.int) ((n : Nat) : Int) = some (.int xs[n]) from by
          unfold atI ixN
          rw [if_pos (by omega), if_pos (by rw [List.length_map]; omega)]
          simp [hn]]
      have f5 : ∀ g : Hh, mSet 3 (mBin pIx (mBin pIx (mV 0) (mC (.int 3))) (mV 2)) [some (.ref 1), some (.int m), some (.int (n : Nat)), some (.int 0), none] (bxH xs c 0 n g) = .nx [some (.ref 1), some (.int m), some (.int (n : Nat)), some (.int xs[n]), none] (bxH xs c 0 n g) := fun g => e_set (f4 g)
      obtain ⟨z, f6⟩ : ∃ z : Int, ∀ g : Hh, mPutS (mV 0) (mC (.int 1)) (mIte (mBin pGe (mV 3) (mBin pPow (mC (.int 10)) (mC (.int 18)))) (mC (.int 60)) (mUn pNeg (mC (.int 9)))) [some (.ref 1), some (.int m), some (.int (n : Nat)), some (.int xs[n]), none] (bxH xs c 0 n g) =
          .nx [some (.ref 1), some (.int m), some (.int (n : Nat)), some (.int xs[n]), none] (bxH xs c z n g) := by
        refine ⟨if decide ((10 : Int) ^ (18 : Int).toNat ≤ xs[n]) = true then 60 else -9, fun g => bx_put1 ?_ rfl⟩
        rw [e_ite (k := decide ((10 : Int) ^ (18 : Int).toNat ≤ xs[n])) (e_bin rfl (e_bin rfl rfl (p_pow (by decide))) p_ge)]
        split <;> rfl
      obtain ⟨t, c', md', sp', q1, q2, q3, q4⟩ := take_1 (xs := xs) (c := c) hs hm hm2 xs[n] z
      refine ⟨t, c', md', sp', q1, q2, q3, fun g => ?_⟩
      rw [← q4, e_seqS (b := tkA) ((e_if (e0 g)).trans ((if_pos rfl).trans ((e_seq (e1 g)).trans ((e_seq (e2 g)).trans (e_seq ((e_if (e3 g)).trans ((if_pos (decide_eq_true hl)).trans ((e_seq (f5 g)).trans (f6 g)))))))))]
    · obtain ⟨t, c', md', sp', q1, q2, q3, q4⟩ := take_1 (xs := xs) (c := c) hs hm hm2 0 0
      refine ⟨t, c', md', sp', q1, q2, q3, fun g => ?_⟩
      rw [← q4, e_seqS (b := tkA) ((e_if (e0 g)).trans ((if_pos rfl).trans ((e_seq (e1 g)).trans ((e_seq (e2 g)).trans (e_seq (e_if0 (by rw [e3, decide_eq_false hl])))))))]
  · have e0 : ∀ g : Hh, mBin pEq (mBin pIx (mV 0) (mC (.int 1))) (mC (.int 0)) [some (.ref 1), some (.int m), none, none, none] (bxH xs c md sp g) = .ok (.bl false) (bxH xs c md sp g) := fun g => e_bin (bx_ix1 rfl) rfl (by show R.ok (D.bl (md == 0)) _ = _; rw [beq_eq_false_iff_ne.mpr h1])
    obtain ⟨t, c', md', q1, q2, q3⟩ := take_2 (xs := xs) (c := c) (md := md) (sp := sp) (d2 := none) (d3 := none) hm hm2 h1
    refine ⟨t, c', md', sp, q1, q2, hs, fun g => ?_⟩
    rw [e_seq (e_if0 (e0 g))]
    exact q3 g
end
end CB

set_option maxRecDepth 100000
set_option maxHeartbeats 1000000
namespace CB
open PySem PySem.Spec
open L2

/-! ## a comprehension that keeps the heap -/
theorem goC_map {pl : Plan} {env : Env'} {b : KB} {m : EM} {h : Hh} {n : Nat} {f g : Nat → D} {as : Nat → List (Nat × D)} (hit : ∀ i, i < n → pl i h = .item (f i)) (hs : pl n h = .stop) (hb : ∀ i, i < n → b (f i) = some (as i))
    (hm : ∀ i, i < n → m (apE (as i) env) h = .ok (g i) h) : ∀ (fuel i : Nat) (acc : List D), n - i < fuel → i ≤ n → acc.length + (n - i) ≤ LN →
      goC pl env b (mC (.bl true)) m fuel i h acc = .ok (.ref h.length) (h ++ [.lst (acc ++ (List.range' i (n - i)).map g)])
  | 0, i, acc, h1, _, _ => by omega
  | fuel + 1, i, acc, h1, h2, h3 => by
    unfold goC
    by_cases hi : i < n
    · rw [hit i hi]
      dsimp only
      rw [hb i hi]
      dsimp only [mC]
      rw [hm i hi]
      dsimp only
      rw [if_pos (by omega), goC_map hit hs hb hm fuel (i + 1) _ (by omega) (by omega) (by rw [List.length_append]; show acc.length + 1 + (n - (i + 1)) ≤ LN; omega)]
      have e : n - i = (n - (i + 1)) + 1 := by omega
      rw [e, List.range'_succ, List.map_cons, List.append_assoc]
      rfl
    · have e : i = n := by omega
      subst e
      rw [hs, Nat.sub_self]
      simp
def absL (ns : List Int) : List Int := ns.map fun z => if z < 0 then -z else z
theorem box_scr {ns : List Int} (hl : ns.length ≤ 63) : fnG 1 2 mBox [.scr ns] [] = .ok (.ref 1) (bxH (absL ns) 0 0 0 []) := by
  have k := goC_map (pl := plV (ns.map D.int)) (env := [some (.scr ns), none]) (b := kN 1) (m := mCall pAbs (mCons (mCall pInt (mCons (mV 1) mNil)) mNil)) (h := []) (n := ns.length) (f := fun i => (ns.map D.int).getD i .non) (g := fun i => .int (if ns.getD i 0 < 0 then -(ns.getD i 0) else ns.getD i 0))
    (as := fun i => [(1, (ns.map D.int).getD i .non)]) (fun i hi => by unfold plV; simp [hi]) (by unfold plV; simp) (fun i hi => rfl) (fun i hi => by
      have e : (ns.map D.int).getD i .non = .int (ns.getD i 0) := by simp [hi]
      show mCall pAbs _ (apE [(1, (ns.map D.int).getD i .non)] [some (.scr ns), none]) [] = _
      rw [e]
      rfl) (ns.length + 1) 0 [] (by omega) (by omega) (by show 0 + _ ≤ 16777216; omega)
  have e : (List.range' 0 (ns.length - 0)).map (fun i => D.int (if ns.getD i 0 < 0 then -(ns.getD i 0) else ns.getD i 0)) = (absL ns).map D.int := by
    apply List.ext_getElem
    · simp [absL]
    · intro i h1 h2
      have : i < ns.length := by simpa using h1
      simp [absL, this]
  rw [e] at k
  show fin (mBox [some (.scr ns), none] []) = _
  have e1 : mLc (mSeqI (mV 0)) [1] (kN 1) (mC (.bl true)) (mCall pAbs (mCons (mCall pInt (mCons (mV 1) mNil)) mNil)) [some (.scr ns), none] [] = .ok (.ref 0) [.lst ((absL ns).map D.int)] := by
    exact k
  unfold mBox
  rw [e_ret (d := .ref 1) (h' := bxH (absL ns) 0 0 0 []) ?_]
  · rfl
  · unfold mLst mCons mNil mC
    dsimp only [R.bind]
    have e2 := e1
    unfold mC at e2
    rw [show (mLc (mSeqI (mV 0)) [1] (kN 1) (fun _ h => R.ok (D.bl true) h) (mCall pAbs fun env h => (mCall pInt (fun env h => (mV 1 env h).bind fun d h1 => R.ok [d] h1) env h).bind fun d h1 => R.ok [d] h1) [some (.scr ns), none] []) = .ok (.ref 0) [.lst ((absL ns).map D.int)] from e2]
    rfl
theorem box_lst {ns : List Int} (hl : ns.length ≤ 63) : fnG 1 2 mBox [.ref 0] [.lst (ns.map D.int)] = .ok (.ref 2) [.lst (ns.map D.int), .lst ((absL ns).map D.int), .lst [.int 0, .int 0, .int 0, .ref 1]] := by
  have k := goC_map (pl := plL 0) (env := [some (.ref 0), none]) (b := kN 1) (m := mCall pAbs (mCons (mCall pInt (mCons (mV 1) mNil)) mNil)) (h := [.lst (ns.map D.int)]) (n := ns.length) (f := fun i => (ns.map D.int).getD i .non) (g := fun i => .int (if ns.getD i 0 < 0 then -(ns.getD i 0) else ns.getD i 0))
    (as := fun i => [(1, (ns.map D.int).getD i .non)]) (fun i hi => by unfold plL; rw [show getL [Ob.lst (ns.map D.int)] 0 = some (ns.map D.int) from rfl]; simp [hi]) (by unfold plL; rw [show getL [Ob.lst (ns.map D.int)] 0 = some (ns.map D.int) from rfl]; simp) (fun i hi => rfl) (fun i hi => by
      have e : (ns.map D.int).getD i .non = .int (ns.getD i 0) := by simp [hi]
      show mCall pAbs _ (apE [(1, (ns.map D.int).getD i .non)] [some (.ref 0), none]) _ = _
      rw [e]
      rfl) (ns.length + 1) 0 [] (by omega) (by omega) (by show 0 + _ ≤ 16777216; omega)
  have e : (List.range' 0 (ns.length - 0)).map (fun i => D.int (if ns.getD i 0 < 0 then -(ns.getD i 0) else ns.getD i 0)) = (absL ns).map D.int := by
    apply List.ext_getElem
    · simp [absL]
    · intro i h1 h2
      have : i < ns.length := by simpa using h1
      simp [absL, this]
  rw [e] at k
  show fin (mBox [some (.ref 0), none] [.lst (ns.map D.int)]) = _
  have e1 : mLc (mSeqI (mV 0)) [1] (kN 1) (mC (.bl true)) (mCall pAbs (mCons (mCall pInt (mCons (mV 1) mNil)) mNil)) [some (.ref 0), none] [.lst (ns.map D.int)] = .ok (.ref 1) [.lst (ns.map D.int), .lst ((absL ns).map D.int)] := by
    show goC (plL 0) [some (.ref 0), none] (kN 1) (mC (.bl true)) _ ((ns.map D.int).length + 1) 0 [.lst (ns.map D.int)] [] = _
    rw [List.length_map]
    exact k
  unfold mBox
  rw [e_ret (d := .ref 2) (h' := [.lst (ns.map D.int), .lst ((absL ns).map D.int), .lst [.int 0, .int 0, .int 0, .ref 1]]) ?_]
  · rfl
  · unfold mLst mCons mNil mC
    dsimp only [R.bind]
    have e2 := e1
    unfold mC at e2
    rw [show (mLc (mSeqI (mV 0)) [1] (kN 1) (fun _ h => R.ok (D.bl true) h) (mCall pAbs fun env h => (mCall pInt (fun env h => (mV 1 env h).bind fun d h1 => R.ok [d] h1) env h).bind fun d h1 => R.ok [d] h1) [some (.ref 0), none] [.lst (ns.map D.int)]) = .ok (.ref 1) [.lst (ns.map D.int), .lst ((absL ns).map D.int)] from e2]
    rfl

/-! ## the promise of a def that is handed the script -/
def spB (K : PySem.W.Frag) (T : List (Addr × Str)) (mg : Str → Option Value) (φ : List Int → R D) : Sp := fun vs H Q E => ∃ (a : Addr) (ns : List Int), vs = [.ref a] ∧ SqL K H a (ns.map V.int) ∧ ns.length ≤ 63 ∧ LamX.Tabs T H ∧ PostE K T mg E H [] (φ ns) Q
section
variable {P : Program} {w : World} {K : PySem.W.Frag} {mg : Str → Option Value} {base : Heap} {T : List (Addr × Str)} {CXq : CXT} {k : Nat} {f : Addr} {fd : FuncData} {ps : List Str}
theorem box_ok (F : FnOk P w K mg base CXq k f fd ps (spM K T mg 1 (fnG 1 2 mBox))) : FnOk P w K mg base CXq k f fd ps (spB K T mg fun ns => .ok (.ref 1) (bxH (absL ns) 0 0 0 [])) :=
  F.imp fun vs H Q E ⟨a, ns, e, hS, hl, tb, p⟩ => by
    subst e
    have ro : RoL K H a (ns.map V.int) → spM K T mg 1 (fnG 1 2 mBox) [.ref a] H Q E := fun r => ⟨[.scr ns], [], [], rfl, .cons (.scr r) .nil, .empty, tb, by rw [box_scr hl]; exact p⟩
    rcases hS with (hS | hS) | hS
    · have hr : HR K H [a] [.lst (ns.map D.int)] := by
        refine ⟨rfl, fun i j b e1 e2 => ?_, fun i o e => ?_⟩
        · cases i with
          | succ i => simp at e1
          | zero => cases j with
            | succ j => simp at e2
            | zero => rfl
        · cases i with
          | succ i => simp at e
          | zero =>
            cases e
            exact ⟨a, rfl, _, hS, .ints⟩
      refine ⟨[.ref 0], [a], [.lst (ns.map D.int)], rfl, .cons (.ref rfl) .nil, hr, tb, ?_⟩
      rw [box_lst hl]
      intro v H' f' s rv hr' tb'
      cases rv with
      | @ref i c ec =>
        obtain ⟨a0, e0, vs0, h0, r0⟩ := hr'.ob 0 _ rfl
        obtain ⟨a1, e1, vs1, h1, r1⟩ := hr'.ob 1 _ rfl
        obtain ⟨a2, e2, vs2, h2, r2⟩ := hr'.ob 2 _ rfl
        have ea : a0 = a := Option.some.inj (e0.symm.trans (s.pre 0 a rfl))
        subst ea
        rw [ec] at e2
        cases e2
        have v0 := r0.intsV
        subst v0
        have hf : f' = [a0, a1, c] := by
          have hl3 := hr'.len
          match f', hl3 with
          | [x, y, z], _ =>
            cases e0; cases e1; cases ec; rfl
        subst hf
        have st : Step H [] H' [a1, c] := by
          refine ⟨fun i b e => by simp at e, fun b o e _ n => ?_, fun b hb => ?_⟩
          · by_cases hb : b = a0
            · subst hb
              rw [hS] at e
              cases e
              exact h0
            · exact s.keep b o e (.inr (by simpa using hb)) n
          · rcases s.new b (List.mem_cons_of_mem _ hb) with z | z
            · rw [List.mem_singleton] at z
              subst z
              simp only [List.mem_cons, List.not_mem_nil, or_false] at hb
              rcases hb with z | z
              · have := hr'.inj 0 1 b rfl (by rw [z]; rfl); omega
              · have := hr'.inj 0 2 b rfl (by rw [z]; rfl); omega
            · exact .inr z
        have hr2 : HR K H' [a1, c] (bxH (absL ns) 0 0 0 []) := by
          refine ⟨rfl, fun i j b e1 e2 => ?_, fun i o e => ?_⟩
          · have := hr'.inj (i + 1) (j + 1) b (by simpa using e1) (by simpa using e2); omega
          · match i, e with
            | 0, e => cases e; exact ⟨a1, rfl, vs1, h1, by have q := r1.intsV; subst q; exact .ints⟩
            | 1, e =>
              cases e
              refine ⟨c, rfl, vs2, h2, ?_⟩
              match r2 with
              | .cons (.int _) (.cons (.int _) (.cons (.int _) (.cons (.ref (a := b) eb) .nil))) =>
                cases eb
                exact .cons (.int _) (.cons (.int _) (.cons (.int _) (.cons (.ref rfl) .nil)))
        exact p (.ref c) H' [a1, c] st (.ref rfl) hr2 tb'
    · exact ro (.inl hS)
    · exact ro (.inr (.inr hS))
theorem start_0 {N : List Str} {x : Str} {v : V} (h : N[0]? = some x) : (L2.start N [v])[0]? = some (some v) := rfl
/-- a def that begins with box = _law_box(script) -/
theorem fn_boxed {x qual : Str} {st : Stmt} {N : List Str} {m : SM} {cd : Value} {fB : Addr} {dB : FuncData} {kB : Nat} {p1 p2 p3 p4 p5 : Pos} {rest : List Stmt} (F : Fun K x qual st f fd) (hcd : fd.code = cd) (S : FnScope N ["script"] (defScope st))
    (hst : defBody st = .Assign [.Name "box" p1] (.Call (.Name "_law_box" p2) [.Name "script" p3] [] p4) p5 :: rest) (FB : FnOk P w K mg base (L2.CX P w) kB fB dB ["script"] (spB K T mg fun ns => .ok (.ref 1) (bxH (absL ns) 0 0 0 [])))
    (hN1 : N[1]? = some ("box" : Str)) (hg : (defScope st).names.lookup ("_law_box" : Str) = some .globalImplicit) (hx : Loc (defScope st) "box") (hm : mg "_law_box" = some (.ref fB)) (hk : PySem.W.keepIn K (.ref fB) = true) (hb : Binds K dB ["script"] []) (hkk : kB ≤ k)
    (body : ∀ (A : Around) (outer : List Env) (s : Shared) (H : Hp) (E : L2.XK), Room k (A.deeper (PyProof.Rows.envOfC qual (defScope st) s.heap.objs.size f cd)) → XB (cxOf (L2.CX P w) P w K mg base N qual (defScope st) f cd A outer s H E) T E rest m) :
    FnOk P w K mg base (L2.CX P w) (k + 1) f fd ["script"] (spB K T mg fun ns => fin (m (none :: some (.ref 1) :: List.replicate (N.length - 2) none) (bxH (absL ns) 0 0 0 []))) := by
  obtain ⟨oc, od, kV, doc, pm, an, cdv, ct, osl, rfl, lk, hcd2⟩ := F.ex
  have ec : cdv = cd := hcd
  subst ec
  have hN0 : N[0]? = some ("script" : Str) := by
    have := S.pre
    match N, this with
    | a :: r, e => simpa using e
  refine fn_of lk hcd2 S (fun vs H Q E ⟨a, ns, e, _⟩ => by rw [e]; rfl) fun A outer s H vs Q E hr ⟨a, ns, e, hS, hl, tb, p⟩ => ?_
  subst e
  have hvis : Vis (defScope st) "script" := by
    rcases S.par "script" List.mem_cons_self with q | q
    · exact .inl q
    · exact .inr (.inl q)
  have hp := pss_cons (ps_set (i := 1) (pos := p5) (pos' := p1) (X := cxOf (L2.CX P w) P w K mg base N qual (defScope st) f cdv A outer s H E) S.nd hN1 hx (pe_call (p := p2) (pos := p4) FB (hr.mono hkk) hg hm hk hb .nil (passes_call (takes_of rfl rfl rfl rfl) (E := E) fun _ _ _ _ h => h) (pa_cons (pe_var (i := 0) (pos := p3) hN0 hvis) pa_nil))) (body A outer s H E hr)
  rw [← hst] at hp
  refine ⟨_, hp, ?_⟩
  · refine ⟨.ref a, start_0 hN0, a, ns, rfl, hS, hl, tb, fun v H' f' st rv hr' tb' => ?_⟩
    have er : ER K H' f' (none :: some (.ref 1) :: List.replicate (N.length - 2) none) ((L2.start N [.ref a]).set 1 (some v)) := by
      have hl2 : 2 ≤ N.length := by
        have := (List.getElem?_eq_some_iff.mp hN1).1
        omega
      refine ⟨?_, fun i d e => ?_⟩
      · rw [List.length_set]
        unfold L2.start
        simp
        omega
      · match i, e with
        | 0, e => cases e
        | 1, e =>
          cases e
          refine ⟨v, ?_, rv⟩
          rw [List.getElem?_set_self]
          unfold L2.start
          simp
          omega
        | i + 2, e =>
          rw [List.getElem?_cons_succ, List.getElem?_cons_succ, List.getElem?_replicate] at e
          split at e <;> cases e
    refine ⟨_, f', _, ⟨er, hr', tb'⟩, ?_⟩
    have p2 := PostG.later st p
    dsimp only at p2
    unfold fin at p2
    cases q : m (none :: some (.ref 1) :: List.replicate (N.length - 2) none) (bxH (absL ns) 0 0 0 []) with
    | nx env1 h1 => rw [q] at p2; exact fun σ' H' f' s' S' => p2 .non H' f' s' .non S'.hr S'.tb
    | rt d h1 => rw [q] at p2; exact p2
    | ex e1 h1 => rw [q] at p2; exact p2
    | bk _ _ => rw [q] at p2; exact p2.elim
    | ct _ _ => rw [q] at p2; exact p2.elim
    | no => rw [q] at p2; exact p2.elim
/-- what the law promises -/
def spT (K : PySem.W.Frag) (T : List (Addr × Str)) : Sp := fun vs H Q _ => ∃ (a : Addr) (ns : List Int), vs = [.ref a] ∧ SqL K H a (ns.map V.int) ∧ ns.length ≤ 63 ∧ LamX.Tabs T H ∧ ∀ H', Q (.bl true) H'
theorem spT_of {φ : List Int → R D} (F : FnOk P w K mg base CXq k f fd ps (spB K T mg φ)) (h : ∀ ns, ns.length ≤ 63 → ∃ h', φ ns = .ok (.bl true) h') : FnOk P w K mg base CXq k f fd ps (spT K T) :=
  F.imp fun vs H Q E ⟨a, ns, e, hS, hl, tb, q⟩ => ⟨a, ns, e, hS, hl, tb, by
    obtain ⟨h', e⟩ := h ns hl
    rw [e]
    intro v H' f' s rv hr tb
    cases rv
    exact q H'⟩
/-- return _law_first(script) and _law_second(script) -/
theorem law_and {x qual : Str} {st : Stmt} {N : List Str} {f1 f2 : Addr} {d1 d2 : FuncData} {k1 k2 : Nat} {φ1 φ2 : List Int → R D} {x1 x2 : Str} {p1 p2 p3 p4 p5 p6 p7 p8 : Pos} (F : Fun K x qual st f fd) (S : FnScope N ["script"] (defScope st))
    (hst : defBody st = [.Return (some (.BoolOp .And [.Call (.Name x1 p1) [.Name "script" p2] [] p3, .Call (.Name x2 p4) [.Name "script" p5] [] p6] p7)) p8])
    (F1 : FnOk P w K mg base (L2.CX P w) k1 f1 d1 ["script"] (spB K T mg φ1)) (F2 : FnOk P w K mg base (L2.CX P w) k2 f2 d2 ["script"] (spB K T mg φ2)) (h1 : ∀ ns, ns.length ≤ 63 → ∃ h', φ1 ns = .ok (.bl true) h') (h2 : ∀ ns, ns.length ≤ 63 → ∃ h', φ2 ns = .ok (.bl true) h')
    (hg1 : (defScope st).names.lookup x1 = some .globalImplicit) (hg2 : (defScope st).names.lookup x2 = some .globalImplicit) (hm1 : mg x1 = some (.ref f1)) (hm2 : mg x2 = some (.ref f2)) (hk1 : PySem.W.keepIn K (.ref f1) = true) (hk2 : PySem.W.keepIn K (.ref f2) = true)
    (hb1 : Binds K d1 ["script"] []) (hb2 : Binds K d2 ["script"] []) (hkk1 : k1 ≤ k) (hkk2 : k2 ≤ k) (hd1 : (x1 == ("__debug__" : Str)) = false := by decide) (hd2 : (x2 == ("__debug__" : Str)) = false := by decide) : FnOk P w K mg base (L2.CX P w) (k + 1) f fd ["script"] (spT K T) := by
  obtain ⟨oc, od, kV, doc, pm, an, cdv, ct, osl, rfl, lk, hcd2⟩ := F.ex
  have hN0 : N[0]? = some ("script" : Str) := by
    have := S.pre
    match N, this with
    | a :: r, e => simpa using e
  refine fn_of lk hcd2 S (fun vs H Q E ⟨a, ns, e, _⟩ => by rw [e]; rfl) fun A outer s H vs Q E hr ⟨a, ns, e, hS, hl, tb, p⟩ => ?_
  subst e
  have hvis : Vis (defScope st) "script" := by
    rcases S.par "script" List.mem_cons_self with q | q
    · exact .inl q
    · exact .inr (.inl q)
  have call : ∀ {xx : Str} {q1 q2 q3 : Pos} {ff : Addr} {dd : FuncData} {kk : Nat} {φ : List Int → R D}, FnOk P w K mg base (L2.CX P w) kk ff dd ["script"] (spB K T mg φ) → (defScope st).names.lookup xx = some .globalImplicit → mg xx = some (.ref ff) → PySem.W.keepIn K (.ref ff) = true → Binds K dd ["script"] [] → kk ≤ k → (xx == ("__debug__" : Str)) = false →
      PE (cxOf (L2.CX P w) P w K mg base N qual (defScope st) f cdv A outer s H E) (.Call (.Name xx q1) [.Name "script" q2] [] q3) (tCall (spB K T mg φ) [] E (tCons (tVar 0) tNil)) :=
    fun {xx q1 q2 q3 ff dd kk φ} FF hg hm hk hb hkk hd => pe_call FF (hr.mono hkk) hg hm hk hb .nil (passes_call (takes_of rfl rfl rfl rfl) (E := E) fun _ _ _ _ h => h) (pa_cons (pe_var (i := 0) hN0 hvis) pa_nil) hd
  have hp := pss_one (ps_ret (pos := p8) (pe_and (pos := p7) (call (q1 := p1) (q2 := p2) (q3 := p3) F1 hg1 hm1 hk1 hb1 hkk1 hd1) (pe_one (op := .And) (pos := p7) (call (q1 := p4) (q2 := p5) (q3 := p6) F2 hg2 hm2 hk2 hb2 hkk2 hd2))))
  rw [← hst] at hp
  refine ⟨_, hp, ?_⟩
  have sc : ∀ {H1 : Hp} {f1 : List Addr}, Step H [] H1 f1 → SqL K H1 a (ns.map V.int) := fun {H1 f1} s => by
    rcases hS with (hS | ⟨o, hS⟩) | hS
    · exact .inl (.inl (s.keep a _ hS (.inr (by simp)) (fun ps z => by cases z)))
    · exact .inl (.inr ⟨o, s.keep a _ hS (.inr (by simp)) (fun ps z => by cases z)⟩)
    · exact .inr hS
  refine ⟨.ref a, start_0 hN0, a, ns, rfl, hS, hl, tb, ?_⟩
  obtain ⟨hh1, e1⟩ := h1 ns hl
  rw [e1]
  intro v H1 fa s1 rv hr1 tb1
  cases rv
  refine ⟨true, rfl, iteT ⟨.ref a, start_0 hN0, a, ns, rfl, sc s1, hl, tb1, ?_⟩⟩
  obtain ⟨hh2, e2⟩ := h2 ns hl
  rw [e2]
  intro v H2 fb s2 rv hr2 tb2
  cases rv
  exact p H2
theorem spT_end {H : Hp} {a : Addr} {ns : List Int} {cs : List (Addr × Addr)} {g : Addr × Addr → Addr × Str} (hg : ∀ p ∈ cs, (g p).1 = p.2) (hl : ns.length ≤ 63) (hH : ∀ p ∈ cs, H p.2 = some (.tbl #[])) (hS : SqL K H a (ns.map V.int)) : spT K (cs.map g) [.ref a] H (fun v _ => v = .bl true) fun _ _ _ => False := by
  refine ⟨a, ns, rfl, hS, hl, fun p hp => ?_, fun _ => rfl⟩
  obtain ⟨q, hq, rfl⟩ := List.mem_map.mp hp
  rw [hg q hq]
  exact LamX.TabS.nil (hH q hq)
end
theorem lm_mk {base : Heap} {mg : Str → Option Value} {fd : FuncData} {fn : Str} {c P : Addr} {cs : List (Addr × Addr)} {g : Addr × Addr → Addr × Str} (hc : fd.code = .ref c) (tb : LamX.TabB base mg c P) (hm : (c, P) ∈ cs) (hg : (g (c, P)).2 = fn ++ "<lambda>") (h1 : ∀ p, (g p).1 = p.2) (h2 : ∀ p q, p.2 = q.2 → (g p).2 = (g q).2) :
    Lm base mg (cs.map g) fd fn c P := by
  refine ⟨hc, tb, List.mem_map.mpr ⟨_, hm, ?_⟩, fun p hp e => ?_⟩
  · have := h1 (c, P)
    rw [← hg]
    exact Prod.ext this rfl
  · obtain ⟨q, hq, rfl⟩ := List.mem_map.mp hp
    rw [h1] at e
    rw [← hg]
    exact h2 q (c, P) e
end CB

set_option maxRecDepth 100000
set_option maxHeartbeats 1000000
namespace CB
open PySem PySem.Spec
open L2

/-! ## sorted(xs), xs a list of tuples of ints -/
theorem lexLt_asym : ∀ a b : List Int, HT.lexLt a b = true → HT.lexLt b a = false
  | [], [], h => by cases h
  | [], _ :: _, _ => rfl
  | _ :: _, [], h => by cases h
  | x :: a, y :: b, h => by
    rw [HT.lexLt_cons] at h ⊢
    by_cases e : x = y
    · rw [if_pos e] at h
      rw [if_pos e.symm]
      exact lexLt_asym a b h
    · rw [if_neg e, decide_eq_true_eq] at h
      rw [if_neg (Ne.symm e)]
      exact decide_eq_false (by omega)
theorem lexLt_tr : ∀ a b c : List Int, HT.lexLt b a = false → HT.lexLt c b = false → HT.lexLt c a = false
  | [], _, [], _, _ => rfl
  | [], [], _ :: _, _, _ => rfl
  | [], _ :: _, _ :: _, _, _ => rfl
  | _ :: _, [], _, h, _ => by cases h
  | _ :: _, _ :: _, [], _, h => by cases h
  | x :: a, y :: b, z :: c, h1, h2 => by
    rw [HT.lexLt_cons] at h1 h2 ⊢
    by_cases e1 : y = x
    · rw [if_pos e1] at h1
      subst e1
      by_cases e2 : z = y
      · rw [if_pos e2] at h2 ⊢
        exact lexLt_tr a b c h1 h2
      · rw [if_neg e2] at h2 ⊢
        exact h2
    · rw [if_neg e1] at h1
      have q1 := of_decide_eq_false h1
      by_cases e2 : z = y
      · subst e2
        rw [if_neg e1]
        exact h1
      · rw [if_neg e2] at h2
        have q2 := of_decide_eq_false h2
        rw [if_neg (by omega)]
        exact decide_eq_false (by omega)
theorem lexLt_anti : ∀ a b : List Int, HT.lexLt a b = false → HT.lexLt b a = false → a = b
  | [], [], _, _ => rfl
  | [], _ :: _, h, _ => by cases h
  | _ :: _, [], _, h => by cases h
  | x :: a, y :: b, h1, h2 => by
    rw [HT.lexLt_cons] at h1 h2
    by_cases e : x = y
    · rw [if_pos e] at h1
      rw [if_pos e.symm] at h2
      rw [e, lexLt_anti a b h1 h2]
    · rw [if_neg e] at h1
      rw [if_neg (Ne.symm e)] at h2
      have q1 := of_decide_eq_false h1
      have q2 := of_decide_eq_false h2
      omega
/-- the ints of the tuple at a value -/
def kInts (h : Heap) (v : Value) : List Int := match v with
  | .ref a => (match h.get? a with
    | some o => (match o.data with | .seq its _ => its.toList.map vInt | _ => [])
    | none => [])
  | _ => []
theorem vInts_of : ∀ {vs : List Value} {ns : List Int}, PyProof.Rows.IntsAre vs ns → vs.map vInt = ns := fun {vs ns} h => by
  induction h with
  | nil => rfl
  | cons n t r ih => rw [List.map_cons, ih]; rfl
def TI' (h : Heap) (v : Value) (ns : List Int) : Prop := ∃ a o its n, v = .ref a ∧ h.get? a = some o ∧ o.cls = .type "tuple" ∧ o.data = .seq its n ∧ PyProof.Rows.IntsAre its.toList ns
theorem TI'.k {h : Heap} {v : Value} {ns : List Int} (x : TI' h v ns) : kInts h v = ns := by
  obtain ⟨a, o, its, n, rfl, ho, hc, hd, hi⟩ := x
  unfold kInts
  dsimp only
  rw [ho]
  dsimp only
  rw [hd]
  exact vInts_of hi
theorem TI'.keeps {h h' : Heap} {v : Value} {ns : List Int} (x : TI' h v ns) (k : ∀ b o, h.get? b = some o → o.cls = .type "tuple" → h'.get? b = some o) : TI' h' v ns := by
  obtain ⟨a, o, its, n, e, ho, hc, hd, hi⟩ := x
  exact ⟨a, o, its, n, e, k _ _ ho hc, hc, hd, hi⟩
section
variable {prog : Program} {w : World} {A : Around} {E : Value → Shared → Prop} {s : Shared}
theorem lex_run {b : Bool} {ns0 ms0 : List Int} : ∀ {xs ys : List Value} {ns ms : List Int} (i : Nat), PyProof.Rows.IntsAre xs ns → PyProof.Rows.IntsAre ys ms → HT.lexLt ns ms = HT.lexLt ns0 ms0 → (xs.length < ys.length ↔ ns0.length < ms0.length) →
    (ns0.length + ms.length = ms0.length + ns.length) →
    PySem.W.KatLex prog w A b (decide (ns0.length < ms0.length)) (fun r s' => s' = s ∧ r = HT.lexLt ns0 ms0) (xs.zip ys) i s
  | [], ys, _, ms, i, .nil, hy, h, _, hl => by
    refine PySem.W.kat_nil ⟨rfl, ?_⟩
    rw [← h]
    cases ms with
    | nil => exact decide_eq_false (by simp at hl; omega)
    | cons m ms => exact decide_eq_true (by simp at hl; omega)
  | _ :: xs, [], _, _, i, .cons n t r, .nil, h, _, hl => by
    refine PySem.W.kat_nil ⟨rfl, ?_⟩
    rw [← h]
    exact decide_eq_false (by simp at hl; omega)
  | _ :: xs, _ :: ys, _, _, i, .cons n t r, .cons m u q, h, h1, hl => by
    rw [HT.lexLt_cons] at h
    refine PySem.W.kat_cons (SeqAt.EqAt.int_int n t m u prog w _ _ ?_)
    refine PySem.W.kat_go (fun e1 => ?_) (fun e1 => ?_)
    · have ex : n = m := by simpa using e1
      rw [if_pos ex] at h
      exact PySem.W.kat_yes (lex_run (i + 1) r q h (by simp at h1; exact h1) (by simp at hl; omega))
    · have ex : ¬ n = m := by simpa using e1
      rw [if_neg ex] at h
      exact PySem.W.kat_no (TS.oneLt_ints _ ⟨rfl, h⟩)
theorem tups_cmp {vs : List Value} {k : Value → List Int} (hp : ∀ v ∈ vs, TI' s.heap v (k v)) : SrtO.Cmp prog w A s (PyProof.Rows.tuples' true) (fun p => p.1 ∈ vs) (SrtO.lt2 fun v u => HT.lexLt (k v) (k u)) := by
  intro p q hm hm'
  have h1 := hp _ hm
  have h2 := hp _ hm'
  show wpAny (model prog w) A (PyProof.Rows.keyLt' (PyProof.Rows.tuples' true) p.1 q.1) (fun r s' => s' = s ∧ r = HT.lexLt (k p.1) (k q.1)) (fun _ _ => False) s
  generalize k p.1 = ns at h1 ⊢
  generalize k q.1 = ms at h2 ⊢
  obtain ⟨a, o, xs, n, e, ho, hc, hd, hi⟩ := h1
  obtain ⟨a', o', ys, n', e', ho', hc', hd', hi'⟩ := h2
  rw [e, e']
  have l1 := hi.length
  have l2 := hi'.length
  rw [Array.length_toList] at l1 l2
  refine PySem.W.kat_lt ho hd ho' hd' ?_
  rw [show xs.size = ns.length from l1, show ys.size = ms.length from l2]
  exact lex_run 0 hi hi' rfl (by rw [Array.length_toList, Array.length_toList, l1, l2]) (by omega)
theorem tups_firsts {h : Heap} {k : Value → List Int} : ∀ {vs : List Value}, (∀ v ∈ vs, TI' h v (k v) ∧ k v ≠ []) → ∃ fs : List Value, PySem.W.KatTups h vs fs ∧ fs.length = vs.length ∧ ∀ f ∈ fs, ∃ x t, f = Value.int x t
  | [], _ => ⟨[], PySem.W.KatTups.nil, rfl, fun _ hm => by simp at hm⟩
  | v :: vs, hp => by
    obtain ⟨fs, h1, h2, h3⟩ := tups_firsts (vs := vs) fun v' hm => hp v' (List.mem_cons_of_mem _ hm)
    obtain ⟨⟨a, o, its, n, e, ho, hc, hd, hi⟩, hne⟩ := hp v List.mem_cons_self
    subst e
    obtain ⟨y, ys, ey⟩ : ∃ y ys, its.toList = y :: ys := by
      cases q : its.toList with
      | nil =>
        rw [q] at hi
        have := hi.length
        exact absurd (List.eq_nil_of_length_eq_zero this.symm) hne
      | cons y ys => exact ⟨y, ys, rfl⟩
    obtain ⟨m, t, hy⟩ := hi.all y (by rw [ey]; exact List.mem_cons_self)
    refine ⟨y :: fs, PySem.W.KatTups.cons ho hc hd ?_ h1, by rw [List.length_cons, List.length_cons, h2], fun f hm => ?_⟩
    · have z := congrArg (fun l : List Value => l[0]?) ey
      simpa using z
    · rcases List.mem_cons.mp hm with e | e
      · exact ⟨m, t, e.trans hy⟩
      · exact h3 f e
theorem tups_sortable {a : Addr} {vs : List Value} {k : Value → List Int} (h0 : 0 < vs.length) (hp : ∀ v ∈ vs, TI' s.heap v (k v) ∧ k v ≠ []) (ha : ∀ o, s.heap.get? a = some o → o.cls ≠ .type "tuple") : SrtO.SortableO prog w A s a vs fun v u => HT.lexLt (k v) (k u) := by
  intro h' keep
  have hp' : ∀ v ∈ vs, TI' h' v (k v) ∧ k v ≠ [] := fun v hm => ⟨(hp v hm).1.keeps fun b o e c => keep b o (fun z => by subst z; exact ha o e c) e, (hp v hm).2⟩
  obtain ⟨fs, h1, h2, h3⟩ := tups_firsts hp'
  refine ⟨PyProof.Rows.tuples' true, fun Q E hq => ?_, tups_cmp fun v hv => (hp' v hv).1⟩
  refine PySem.W.kat_kind (T := .type "int") h1 (by omega) (fun f hm => ?_) (by rfl) ?_
  · obtain ⟨x, t, rfl⟩ := h3 f hm
    exact PySem.W.Looks.now
  · have e : (Value.type "int" != Value.type "tuple") = true := by first | decide +kernel | rfl | decide
    rw [e]
    exact hq
theorem sorted_tups {l : Addr} {vs : List Value} {k : Value → List Int} {Q : Value → Shared → Prop} (hl : s.heap.IsList l vs.toArray) (hz : vs.length ≤ sizeLine) (hp : 2 ≤ vs.length → ∀ v ∈ vs, TI' s.heap v (k v) ∧ k v ≠ [])
    (h : ∀ (h' : Heap) (d : Addr) (out : List Value), SrtO.Srtd (fun v u => HT.lexLt (k v) (k u)) out → SrtO.Stb (fun v u => HT.lexLt (k v) (k u)) out vs → (∀ b o, s.heap.get? b = some o → h'.get? b = some o) → s.heap.objs.size ≤ d → (∃ n, h'.get? d = some (PyProof.Rows.seqObj "list" out.toArray n)) → Q (.ref d) { s with heap := h' }) :
    wpAny (model prog w) A (call (.builtin "sorted") [.ref l]) Q E s := by
  refine SrtO.sorted_ord (ltv := fun v u => HT.lexLt (k v) (k u)) ⟨fun x y q => lexLt_asym _ _ q, fun x y z q1 q2 => lexLt_tr _ _ _ q1 q2⟩ hl hz (fun h2 h₁ a ha kk => ?_) fun out hs hb => ?_
  · refine tups_sortable (s := { s with heap := h₁ }) (by omega) (fun v hm => ⟨(hp h2 v hm).1.keeps fun b o e _ => (kk b o e).2, (hp h2 v hm).2⟩) fun o e => ?_
    have e' : some o = some (PyProof.Rows.seqObj "list" vs.toArray 0) := e.symm.trans ha
    cases e'
    intro c
    exact absurd (Value.type.inj c) (by decide)
  · exact h _ _ out hs hb (fun b o e => PyProof.Rows.sortedAll_old e) (Nat.le_succ _) (PyProof.Rows.sortedAll_at s.heap vs out.toArray)
end

/-- sorted(xs) of tuples of ints: a new list -/
def rSortTup (K : PySem.W.Frag) : List V → Hp → VK → Prop := fun vs H Q => ∃ (a : Addr) (xs : List V), vs = [V.ref a] ∧ SqL K H a xs ∧ (2 ≤ xs.length → ∀ x ∈ xs, ∃ t ns, x = V.ref t ∧ SqT K H t (ns.map V.int) ∧ ns ≠ []) ∧
  ∀ ys p, ys.Perm xs → (2 ≤ xs.length → ys.Pairwise fun x y => ∀ t u ns ms, x = V.ref t → y = V.ref u → SqT K H t (ns.map V.int) → SqT K H u (ms.map V.int) → HT.lexLt ms ns = false) → H p = none → Q (.ref p) (upd H p (.lst ys))
section
variable {X : Cx} {T : List (Addr × Str)} {E : L2.XK}
theorem vals_perm : ∀ {us out : List Value}, out.Perm us → ∀ {xs : List V}, Vals xs us → ∃ ys, Vals ys out ∧ ys.Perm xs := fun {us out} p => by
  induction p with
  | nil => exact fun {xs} r => ⟨xs, r, .refl _⟩
  | cons x p ih =>
    intro xs r
    cases r with
    | cons a b =>
      obtain ⟨ys, h1, h2⟩ := ih b
      exact ⟨_, .cons a h1, h2.cons _⟩
  | swap x y l =>
    intro xs r
    cases r with
    | cons a b => cases b with
      | cons c d => exact ⟨_, .cons c (.cons a d), .swap _ _ _⟩
  | trans p q ih1 ih2 =>
    intro xs r
    obtain ⟨ys, h1, h2⟩ := ih2 r
    obtain ⟨zs, h3, h4⟩ := ih1 h1
    exact ⟨zs, h3, h4.trans h2⟩
theorem cr_sortTup : CallR X (.builtin "sorted") (rSortTup X.K) := by
  intro pins s σ H vs us Q I r h
  obtain ⟨a, xs, rfl, hs, hx, q⟩ := h
  obtain ⟨its, rv, hl, hz⟩ := I.list hs
  obtain ⟨u, rfl, ru⟩ := vals1 r
  obtain rfl : u = Value.ref a := ru
  have tup : ∀ {t : Addr} {ns : List Int}, SqT X.K H t (ns.map V.int) → TI' s.heap (.ref t) ns := fun {t ns} h => by
    obtain ⟨its, r, ⟨o, ho, hc, n, hd⟩, _⟩ := I.tuple h
    exact ⟨t, o, its.toArray, n, rfl, ho, hc, hd, ints_of_vals r⟩
  have lv := rv.length
  refine sorted_tups (k := kInts s.heap) hl.isList (by omega) (fun h2 v hv => ?_) fun h' d out h1 h2 kp hd hn => ?_
  · obtain ⟨i, hi, e⟩ := List.getElem_of_mem hv
    have hi2 : i < xs.length := by omega
    obtain ⟨u, hu, ru⟩ := rv.get (List.getElem?_eq_getElem hi2)
    rw [List.getElem?_eq_getElem hi, e] at hu
    cases hu
    obtain ⟨t, ns, ex, ht, hne⟩ := hx (by omega) _ (List.getElem_mem hi2)
    rw [ex] at ru
    cases ru
    have := tup ht
    rw [this.k]
    exact ⟨this, hne⟩
  · obtain ⟨ys, ry, py⟩ := vals_perm h2.perm rv
    obtain ⟨n, hn⟩ := hn
    have hnone : H d = none := I.hok.fresh hd
    refine ⟨.ref d, _, I.laid (t' := s.toks) (o := .lst ys) kp hd ⟨by rw [py.length_eq]; exact hz, out, n, ry, hn⟩, rfl, q ys d py (fun hge => ?_) hnone⟩
    have ly := ry.length
    rw [List.pairwise_iff_getElem]
    intro i j hi hj hij t u ns ms e1 e2 t1 t2
    have h3 := List.pairwise_iff_getElem.mp h1 i j (by omega) (by omega) hij
    obtain ⟨u1, hu1, r1⟩ := ry.get (List.getElem?_eq_getElem hi)
    obtain ⟨u2, hu2, r2⟩ := ry.get (List.getElem?_eq_getElem hj)
    rw [List.getElem?_eq_getElem (by omega)] at hu1 hu2
    cases hu1
    cases hu2
    rw [e1] at r1
    rw [e2] at r2
    have v1 : out[i] = Value.ref t := r1
    have v2 : out[j] = Value.ref u := r2
    rw [v1, v2] at h3
    dsimp only at h3
    rw [(tup t1).k, (tup t2).k] at h3
    exact h3
/-- tuples of ints -/
def tupsOf : List D → Option (List (List Int))
  | [] => some []
  | .tup ds :: r => match intsOf ds, tupsOf r with
    | some ns, some l => some (ns :: l)
    | _, _ => none
  | _ :: _ => none
theorem tupsOf_eq : ∀ {ds : List D} {l : List (List Int)}, tupsOf ds = some l → ds = l.map fun ns => D.tup (ns.map D.int)
  | [], l, h => by cases h; rfl
  | d :: ds, l, h => by
    cases d with
    | tup es =>
      unfold tupsOf at h
      cases g1 : intsOf es with
      | none => rw [g1] at h; cases h
      | some ns =>
        cases g2 : tupsOf ds with
        | none => rw [g1, g2] at h; cases h
        | some r =>
          rw [g1, g2] at h
          cases h
          rw [tupsOf_eq g2, intsOf_eq g1]
          rfl
    | _ => cases h
def insT (x : List Int) : List (List Int) → List (List Int)
  | [] => [x]
  | y :: l => if HT.lexLt y x = true then y :: insT x l else x :: y :: l
def srtT : List (List Int) → List (List Int)
  | [] => []
  | x :: l => insT x (srtT l)
abbrev leT (x y : List Int) : Prop := HT.lexLt y x = false
theorem insT_perm (x : List Int) : ∀ l, (insT x l).Perm (x :: l)
  | [] => .refl _
  | y :: l => by
    unfold insT
    split
    · exact ((insT_perm x l).cons y).trans (.swap x y l)
    · exact .refl _
theorem srtT_perm : ∀ l, (srtT l).Perm l
  | [] => .refl _
  | x :: l => (insT_perm x _).trans ((srtT_perm l).cons x)
theorem insT_sorted {x : List Int} : ∀ {l : List (List Int)}, l.Pairwise leT → (insT x l).Pairwise leT
  | [], _ => by simp [insT]
  | y :: l, h => by
    have h' := h
    rw [List.pairwise_cons] at h
    unfold insT
    by_cases q : HT.lexLt y x = true
    · rw [if_pos q, List.pairwise_cons]
      refine ⟨fun z hz => ?_, insT_sorted h.2⟩
      rcases List.mem_cons.mp ((insT_perm x l).mem_iff.mp hz) with e | hz
      · rw [e]; exact lexLt_asym _ _ q
      · exact h.1 z hz
    · rw [if_neg q, List.pairwise_cons]
      have q' : HT.lexLt y x = false := by simpa using q
      exact ⟨fun z hz => by rcases List.mem_cons.mp hz with e | hz; rw [e]; exact q'; exact lexLt_tr _ _ _ q' (h.1 z hz), h'⟩
theorem srtT_sorted : ∀ l, (srtT l).Pairwise leT
  | [] => .nil
  | x :: l => insT_sorted (srtT_sorted l)
theorem sortedT_one : ∀ {l m : List (List Int)}, l.Perm m → l.Pairwise leT → m.Pairwise leT → l = m
  | [], m, p, _, _ => by rw [List.nil_perm.mp p]
  | x :: l, m, p, hl, hm => by
    cases m with
    | nil => exact absurd p.symm (by simp)
    | cons y m =>
      rw [List.pairwise_cons] at hl hm
      have e : x = y := by
        rcases List.mem_cons.mp (p.mem_iff.mp List.mem_cons_self) with h1 | h1
        · exact h1
        · rcases List.mem_cons.mp (p.mem_iff.mpr List.mem_cons_self) with h2 | h2
          · exact h2.symm
          · exact lexLt_anti _ _ (hm.1 x h1) (hl.1 y h2)
      subst e
      rw [sortedT_one (List.Perm.cons_inv p) hl.2 hm.2]
theorem VRs.perm {K : PySem.W.Frag} {H : Hp} {f : List Addr} : ∀ {vs ws : List V}, ws.Perm vs → ∀ {ds : List D}, VRs K H f ds vs → ∃ es, VRs K H f es ws ∧ es.Perm ds := fun {vs ws} p => by
  induction p with
  | nil => exact fun {ds} r => ⟨ds, r, .refl _⟩
  | cons x p ih =>
    intro ds r
    cases r with
    | cons a b =>
      obtain ⟨ys, h1, h2⟩ := ih b
      exact ⟨_, .cons a h1, h2.cons _⟩
  | swap x y l =>
    intro ds r
    cases r with
    | cons a b => cases b with
      | cons c d => exact ⟨_, .cons c (.cons a d), .swap _ _ _⟩
  | trans p q ih1 ih2 =>
    intro ds r
    obtain ⟨ys, h1, h2⟩ := ih2 r
    obtain ⟨zs, h3, h4⟩ := ih1 h1
    exact ⟨zs, h3, h4.trans h2⟩
def pSortedT : List D → Hh → R D
  | [.ref k], h => match getL h k with
    | some xs => match tupsOf xs with
      | some l => if (Nat.blt l.length 2 || l.all fun t => !t.isEmpty) = true then .ok (.ref h.length) (h ++ [.lst ((srtT l).map fun ns => D.tup (ns.map D.int))]) else .no
      | none => .no
    | none => .no
  | _, _ => .no
theorem c_sortedT : CallR X (.builtin "sorted") (rPA X.K T X.mg E pSortedT) := cr_sortTup.imp fun xs H Q ⟨ds, f, h, r, hr, tb, p⟩ => by
  unfold pSortedT at p
  split at p
  · match r with
    | .cons (.ref (a := a) (i := k) e1) .nil =>
      cases g1 : getL h k with
      | none => rw [g1] at p; exact p.elim
      | some xs =>
        rw [g1] at p
        dsimp only at p
        obtain ⟨vs, hv, rv⟩ := hr.getL e1 g1
        cases g2 : tupsOf xs with
        | none => rw [g2] at p; exact p.elim
        | some l =>
          rw [g2] at p
          dsimp only at p
          by_cases hc : (Nat.blt l.length 2 || l.all fun t => !t.isEmpty) = true
          · rw [if_pos hc] at p
            have e2 := tupsOf_eq g2
            subst e2
            have lv := rv.len
            rw [List.length_map] at lv
            have item : ∀ (es : List D) (ws : List V), VRs X.K H f es ws → es.Perm (l.map fun ns => D.tup (ns.map D.int)) → ∀ x ∈ ws, ∃ t ns, x = V.ref t ∧ SqT X.K H t (ns.map V.int) ∧ ns ∈ l := fun es ws r pe x hx => by
              obtain ⟨i, hi, e⟩ := List.getElem_of_mem hx
              obtain ⟨d, hd, rd⟩ := r.getV (List.getElem?_eq_getElem hi)
              have hm : d ∈ l.map fun ns => D.tup (ns.map D.int) := pe.mem_iff.mp (List.mem_of_getElem? hd)
              obtain ⟨ns, hns, ed⟩ := List.mem_map.mp hm
              subst ed
              rw [e] at rd
              cases rd with
              | tup ht hv =>
                have := hv.intsV
                subst this
                exact ⟨_, ns, rfl, ht.t, hns⟩
            refine ⟨a, vs, rfl, SqL.of hv, fun h2 x hx => ?_, fun ys q py hs nq => ?_⟩
            · obtain ⟨t, ns, ex, ht, hm⟩ := item _ _ rv (.refl _) x hx
              refine ⟨t, ns, ex, ht, fun z => ?_⟩
              rw [Bool.or_eq_true, Nat.blt_eq] at hc
              rcases hc with hc | hc
              · omega
              · have := List.all_eq_true.mp hc ns hm
                rw [z] at this
                cases this
            · obtain ⟨es, re, pe⟩ := VRs.perm py rv
              have form : ∀ (es : List D), (∀ d ∈ es, d ∈ l.map fun ns => D.tup (ns.map D.int)) → ∃ m : List (List Int), es = m.map fun ns => D.tup (ns.map D.int) := fun es he => by
                induction es with
                | nil => exact ⟨[], rfl⟩
                | cons d es ih =>
                  obtain ⟨m, em⟩ := ih fun d hd => he d (List.mem_cons_of_mem _ hd)
                  obtain ⟨ns, _, e⟩ := List.mem_map.mp (he d List.mem_cons_self)
                  exact ⟨ns :: m, by rw [em, ← e]; rfl⟩
              obtain ⟨m, em⟩ := form es fun d hd => pe.mem_iff.mp hd
              subst em
              have inj : ∀ {x y : List Int}, D.tup (x.map D.int) = D.tup (y.map D.int) → x = y := fun {x y} h => by
                injection h with h
                have i2 : ∀ {x y : List Int}, x.map D.int = y.map D.int → x = y := fun {x} => by
                  induction x with
                  | nil => intro y h; cases y with | nil => rfl | cons b y => cases h
                  | cons a x ih =>
                    intro y h
                    cases y with
                    | nil => cases h
                    | cons b y =>
                      injection h with h1 h2
                      injection h1 with h1
                      rw [h1, ih h2]
                exact i2 h
              have pm : m.Perm l := by
                have cnt : ∀ x, m.count x = l.count x := fun x => by
                  have c := pe.count_eq (D.tup (x.map D.int))
                  have cm : ∀ u : List (List Int), (u.map fun ns => D.tup (ns.map D.int)).count (D.tup (x.map D.int)) = u.count x := fun u => by
                    induction u with
                    | nil => rfl
                    | cons y u ih =>
                      rw [List.map_cons, List.count_cons, List.count_cons, ih]
                      by_cases exy : y = x
                      · subst exy; simp
                      · have : ¬ (D.tup (y.map D.int) = D.tup (x.map D.int)) := fun z => exy (inj z)
                        rw [if_neg (by simpa using this), if_neg (by simpa using exy)]
                  rw [cm, cm] at c
                  exact c
                exact List.perm_iff_count.mpr cnt
              have sm : m = srtT l := by
                by_cases hge : 2 ≤ vs.length
                · have hsd := hs hge
                  refine sortedT_one (pm.trans (srtT_perm l).symm) ?_ (srtT_sorted l)
                  rw [List.pairwise_iff_getElem]
                  intro i j hi hj hij
                  have lm := re.len
                  rw [List.length_map] at lm
                  have h3 := List.pairwise_iff_getElem.mp hsd i j (by omega) (by omega) hij
                  obtain ⟨v1, w1, r1⟩ := re.get (i := i) (d := D.tup (m[i].map D.int)) (by rw [List.getElem?_map, List.getElem?_eq_getElem hi]; rfl)
                  obtain ⟨v2, w2, r2⟩ := re.get (i := j) (d := D.tup (m[j].map D.int)) (by rw [List.getElem?_map, List.getElem?_eq_getElem hj]; rfl)
                  rw [List.getElem?_eq_getElem (by omega)] at w1 w2
                  cases w1
                  cases w2
                  generalize hy1 : ys[i] = y1 at r1 h3
                  generalize hy2 : ys[j] = y2 at r2 h3
                  cases r1 with
                  | tup t1 q1 => cases r2 with
                    | tup t2 q2 =>
                      have z1 := q1.intsV
                      have z2 := q2.intsV
                      subst z1
                      subst z2
                      exact h3 _ _ _ _ rfl rfl t1.t t2.t
                · have l1 : l.length < 2 := by omega
                  have l2 : m.length < 2 := by rw [pm.length_eq]; exact l1
                  refine sortedT_one (pm.trans (srtT_perm l).symm) ?_ (srtT_sorted l)
                  match m, l2 with
                  | [], _ => exact .nil
                  | [_], _ => exact List.pairwise_singleton _ _
              rw [sm] at re
              exact post_lst p re hr tb q nq
          · rw [if_neg hc] at p; exact p.elim
  · exact p.elim
end
end CB

set_option maxRecDepth 100000
set_option maxHeartbeats 1000000
namespace CB
open PySem PySem.Spec
open L2

section
variable {X : Cx} {T : List (Addr × Str)} {E : L2.XK}
/-! ## x in c, by data -/
def rInT (K : PySem.W.Frag) : R2 := fun x y H Q => ∃ d ds, Dp K H x d ∧ Dp K H y (.tuple ds) ∧ SeqAt.shaped d = true ∧ SeqAt.shaped (.tuple ds) = true ∧ Q (.bl (ds.any fun z => PyData.eqv z d)) H
def rNotInT (K : PySem.W.Frag) : R2 := fun x y H Q => ∃ d ds, Dp K H x d ∧ Dp K H y (.tuple ds) ∧ SeqAt.shaped d = true ∧ SeqAt.shaped (.tuple ds) = true ∧ Q (.bl (!ds.any fun z => PyData.eqv z d)) H
theorem op_inT (hu : X.A.units + 65 < cLine) : OpR X (compareOp .In) (rInT X.K) := by
  intro pins s σ H x y v u Q I rx ry h
  obtain ⟨d, ds, hd, he, sd, se, q⟩ := h
  obtain ⟨as, r1⟩ := Dp.reads I d x v hd rx
  obtain ⟨bs, r2⟩ := Dp.reads I (.tuple ds) y u he ry
  exact SeqAt.in_tuple_reads r2 r1 (SeqAt.canLay_of_shaped se) (SeqAt.canLay_of_shaped sd) (by have h1 := SeqAt.depth_of_shaped sd; have h2 : min (PyData.depthAll ds) d.depth ≤ d.depth := Nat.min_le_right _ _; omega) ⟨.bl _, H, I, rfl, q⟩
theorem op_notInT (hu : X.A.units + 65 < cLine) : OpR X (compareOp .NotIn) (rNotInT X.K) := by
  intro pins s σ H x y v u Q I rx ry h
  obtain ⟨d, ds, hd, he, sd, se, q⟩ := h
  obtain ⟨as, r1⟩ := Dp.reads I d x v hd rx
  obtain ⟨bs, r2⟩ := Dp.reads I (.tuple ds) y u he ry
  exact SeqAt.notIn_tuple_reads r2 r1 (SeqAt.canLay_of_shaped se) (SeqAt.canLay_of_shaped sd) (by have h1 := SeqAt.depth_of_shaped sd; have h2 : min (PyData.depthAll ds) d.depth ≤ d.depth := Nat.min_le_right _ _; omega) ⟨.bl _, H, I, rfl, q⟩
def inDD (d : D) (c : D) (h : Hh) : Option Bool := match c with
  | .tup ds => if (D.pl d 60 && D.pls ds 60) = true then some (ds.any fun x => D.beq x d) else none
  | .ref i => (match getL h i with
    | some ds => if (D.pl d 60 && D.pls ds 60) = true then some (ds.any fun x => D.beq x d) else none
    | none => none)
  | _ => none
theorem any_pd {d : D} (hd : D.pl d 60 = true) : ∀ {ds : List D}, D.pls ds 60 = true → ((D.pds ds).any fun z => PyData.eqv z d.pd) = ds.any fun x => D.beq x d
  | [], _ => rfl
  | x :: ds, h => by
    simp only [D.pls, Bool.and_eq_true] at h
    show (PyData.eqv x.pd d.pd || (D.pds ds).any _) = (D.beq x d || ds.any _)
    rw [D.eqv_pd x d 60 60 h.1 hd, any_pd hd h.2]
theorem pls_layT {xs : List D} (hx : D.pls xs 60 = true) : SeqAt.shaped (.tuple (D.pds xs)) = true := by
  have q : D.pl (.tup xs) 61 = true := by simpa [D.pl] using hx
  exact D.shaped_pd q (by decide)
def pIn2 (d c : D) (h : Hh) : R D := match inD d c h with
  | some k => .ok (.bl k) h
  | none => match inDD d c h with
    | some k => .ok (.bl k) h
    | none => .no
def pNin2 (d c : D) (h : Hh) : R D := match inD d c h with
  | some k => .ok (.bl (!k)) h
  | none => match inDD d c h with
    | some k => .ok (.bl (!k)) h
    | none => .no
theorem inDD_of {H : Hp} {f : List Addr} {h : Hh} {d c : D} {x y : V} {k : Bool} (rx : VR X.K H f d x) (ry : VR X.K H f c y) (hr : HR X.K H f h) (q : inDD d c h = some k) :
    ∃ e es, (Dp X.K H y (.tuple es) ∨ Dp X.K H y (.list es)) ∧ Dp X.K H x e ∧ SeqAt.shaped e = true ∧ SeqAt.shaped (.tuple es) = true ∧ SeqAt.shaped (.list es) = true ∧ k = es.any fun z => PyData.eqv z e := by
  unfold inDD at q
  cases ry with
  | @tup a vs ds ht hv =>
    dsimp only at q
    by_cases hc : (D.pl d 60 && D.pls ds 60) = true
    · rw [if_pos hc] at q
      rw [Bool.and_eq_true] at hc
      cases q
      exact ⟨d.pd, D.pds ds, .inl (.tup ht.t (hv.dps hc.2)), rx.dp hc.1, D.shaped_pd hc.1 (by decide), pls_layT hc.2, pls_lay hc.2, (any_pd hc.1 hc.2).symm⟩
    · rw [if_neg hc] at q; cases q
  | @ref i a e1 =>
    dsimp only at q
    cases g : getL h i with
    | none => rw [g] at q; cases q
    | some ds =>
      rw [g] at q
      dsimp only at q
      obtain ⟨vs, hv, rv⟩ := hr.getL e1 g
      by_cases hc : (D.pl d 60 && D.pls ds 60) = true
      · rw [if_pos hc] at q
        rw [Bool.and_eq_true] at hc
        cases q
        exact ⟨d.pd, D.pds ds, .inr (.lst (SqL.of hv) (rv.dps hc.2)), rx.dp hc.1, D.shaped_pd hc.1 (by decide), pls_layT hc.2, pls_lay hc.2, (any_pd hc.1 hc.2).symm⟩
      · rw [if_neg hc] at q; cases q
  | _ => cases q
theorem o_in2 (hu : X.A.units + 65 < cLine) : OpR X (compareOp .In) (rP X.K T X.mg E pIn2) := ((op_in_seq.or (op_inT hu)).or (op_inD hu)).imp fun x y H Q ⟨d, e, f, h, rx, ry, hr, tb, p⟩ => by
  unfold pIn2 at p
  cases q : inD d e h with
  | some k =>
    rw [q] at p
    obtain ⟨a, xs, e1, hs, f1, f2, rfl⟩ := inD_of rx ry hr q
    exact .inl (.inl ⟨a, xs, e1, hs, f1, f2, post_v p (.bl _) hr tb⟩)
  | none =>
    rw [q] at p
    dsimp only at p
    cases q2 : inDD d e h with
    | none => rw [q2] at p; exact p.elim
    | some k =>
      rw [q2] at p
      obtain ⟨e', es, hd, hx, s1, s2, s3, rfl⟩ := inDD_of rx ry hr q2
      rcases hd with hd | hd
      · exact .inl (.inr ⟨e', es, hx, hd, s1, s2, post_v p (.bl _) hr tb⟩)
      · exact .inr ⟨e', es, hx, hd, s1, s3, post_v p (.bl _) hr tb⟩
theorem o_nin2 (hu : X.A.units + 65 < cLine) : OpR X (compareOp .NotIn) (rP X.K T X.mg E pNin2) := ((op_notIn_seq.or (op_notInT hu)).or (op_notInD hu)).imp fun x y H Q ⟨d, e, f, h, rx, ry, hr, tb, p⟩ => by
  unfold pNin2 at p
  cases q : inD d e h with
  | some k =>
    rw [q] at p
    obtain ⟨a, xs, e1, hs, f1, f2, rfl⟩ := inD_of rx ry hr q
    exact .inl (.inl ⟨a, xs, e1, hs, f1, f2, post_v p (.bl _) hr tb⟩)
  | none =>
    rw [q] at p
    dsimp only at p
    cases q2 : inDD d e h with
    | none => rw [q2] at p; exact p.elim
    | some k =>
      rw [q2] at p
      obtain ⟨e', es, hd, hx, s1, s2, s3, rfl⟩ := inDD_of rx ry hr q2
      rcases hd with hd | hd
      · exact .inl (.inr ⟨e', es, hx, hd, s1, s2, post_v p (.bl _) hr tb⟩)
      · exact .inr ⟨e', es, hx, hd, s1, s3, post_v p (.bl _) hr tb⟩
/-! ## sorted -/
def pSortedA (ds : List D) (h : Hh) : R D := match pSorted ds h with
  | .no => pSortedT ds h
  | r => r
theorem c_sortedA : CallR X (.builtin "sorted") (rPA X.K T X.mg E pSortedA) := ((c_sorted (T := T) (E := E)).or (c_sortedT (T := T) (E := E))).imp fun xs H Q ⟨ds, f, h, r, hr, tb, p⟩ => by
  unfold pSortedA at p
  cases q : pSorted ds h with
  | no => rw [q] at p; exact .inr ⟨ds, f, h, r, hr, tb, p⟩
  | ok a h1 => rw [q] at p; exact .inl ⟨ds, f, h, r, hr, tb, by rw [q]; exact p⟩
  | ex e h1 => rw [q] at p; exact .inl ⟨ds, f, h, r, hr, tb, by rw [q]; exact p⟩
end
theorem hu65 {k : Nat} {A : Around} (hr : Room k A) : A.units + 65 < cLine := by have := hr.un; omega
end CB

set_option maxRecDepth 100000
set_option maxHeartbeats 1000000
namespace CB
open PySem PySem.Spec
open L2

/-! ## a law's body, statement by statement; between statements slots and the heap behind the box may be forgotten -/
inductive XL (X : Cx) (T : List (Addr × Str)) (E : L2.XK) : List Stmt → List SM → Prop
  | nil : XL X T E [] []
  | cons {st : Stmt} {sts : List Stmt} {m : SM} {ms : List SM} : XS X T E st m → XL X T E sts ms → XL X T E (st :: sts) (m :: ms)
/-- what may be kept of the slots -/
def Fgt (e1 e2 : Env') : Prop := e2.length = e1.length ∧ ∀ (i : Nat) (d : D), e2[i]? = some (some d) → e1[i]? = some (some d) ∧ (D.rf d = true ∨ d = .ref 1)
def LR : List SM → Env' → Hh → Prop
  | [], _, _ => False
  | m :: ms, env, h => (∃ h', m env h = .rt (.bl true) h') ∨ ∃ env1 h1, m env h = .nx env1 h1 ∧
      (LR ms env1 h1 ∨ ∃ xs c md sp g env2, h1 = bxH xs c md sp g ∧ Fgt env1 env2 ∧ LR ms env2 (bxH xs c md sp []))
theorem HR.box {K : PySem.W.Frag} {H : Hp} {f : List Addr} {xs : List Int} {c md sp : Int} {g : Hh} (R : HR K H f (bxH xs c md sp g)) : HR K H (f.take 2) (bxH xs c md sp []) := by
  have hl : 2 ≤ f.length := by rw [R.len]; show 2 ≤ (_ :: _ :: g).length; simp
  have tk : ∀ {i : Nat} {a : Addr}, (f.take 2)[i]? = some a → f[i]? = some a ∧ i < 2 := fun {i a} e => by
    rw [List.getElem?_take] at e
    split at e
    · exact ⟨e, by assumption⟩
    · cases e
  refine ⟨by rw [List.length_take]; show min 2 f.length = 2; omega, fun i j a e1 e2 => R.inj i j a (tk e1).1 (tk e2).1, fun i o e => ?_⟩
  match i, e with
  | 0, e =>
    cases e
    obtain ⟨a, e1, vs, h1, r⟩ := R.ob 0 _ rfl
    have := r.intsV
    subst this
    exact ⟨a, by rw [List.getElem?_take, if_pos (by omega)]; exact e1, _, h1, .ints⟩
  | 1, e =>
    cases e
    obtain ⟨a, e1, vs, h1, r⟩ := R.ob 1 _ rfl
    refine ⟨a, by rw [List.getElem?_take, if_pos (by omega)]; exact e1, vs, h1, ?_⟩
    match r with
    | .cons (.int _) (.cons (.int _) (.cons (.int _) (.cons (.ref (a := b) eb) .nil))) =>
      exact .cons (.int _) (.cons (.int _) (.cons (.int _) (.cons (.ref (by rw [List.getElem?_take, if_pos (by omega)]; exact eb)) .nil)))
theorem ER.forget {K : PySem.W.Frag} {H : Hp} {f : List Addr} {e1 e2 : Env'} {σ : L2.St} (R : ER K H f e1 σ) (g : Fgt e1 e2) : ER K H (f.take 2) e2 σ := by
  refine ⟨g.1.trans R.len, fun i d e => ?_⟩
  obtain ⟨q, hd⟩ := g.2 i d e
  obtain ⟨v, hv, r⟩ := R.get i d q
  refine ⟨v, hv, ?_⟩
  rcases hd with hd | hd
  · exact r.rf hd
  · subst hd
    cases r with
    | ref e => exact .ref (by rw [List.getElem?_take, if_pos (by omega)]; exact e)
theorem Step.cut {H0 H : Hp} {f : List Addr} (s : Step H0 [] H f) (n : Nat) : Step H0 [] H (f.take n) := ⟨fun i a e => by simp at e, s.keep, fun a h => s.new a (List.mem_of_mem_take h)⟩
theorem law_run {X : Cx} {T : List (Addr × Str)} {E : L2.XK} : ∀ {sts : List Stmt} {ms : List SM}, XL X T E sts ms → PSs X sts (fun Dn σ H => ∃ env f h H0, Step H0 [] H f ∧ SR X.K T σ H f env h ∧ LR ms env h ∧ ∀ H' f', Step H0 [] H' f' → LamX.Tabs T H' → Dn.rt (.bl true) H')
  | _, _, .nil => pss_nil.imp fun Dn σ H ⟨env, f, h, H0, s, S, r, q⟩ => r.elim
  | _, _, .cons (m := m) (ms := ms) a b => (pss_cons a (law_run b)).imp fun Dn σ H ⟨env, f, h, H0, s, S, r, q⟩ => by
    refine ⟨env, f, h, S, ?_⟩
    rcases r with ⟨h', e⟩ | ⟨env1, h1, e, r⟩
    · rw [e]
      intro v H' f' s' rv hr tb
      cases rv
      exact q H' f' (s.trans s') tb
    · rw [e]
      intro σ' H' f' s' S'
      rcases r with r | ⟨xs, c, md, sp, g, env2, e1, hg, r⟩
      · exact ⟨env1, f', h1, H0, s.trans s', S', r, q⟩
      · subst e1
        exact ⟨env2, f'.take 2, _, H0, (s.trans s').cut 2, ⟨S'.er.forget hg, S'.hr.box, S'.tb⟩, r, q⟩
/-- the promise of a def that is handed the script and says True -/
def spV (K : PySem.W.Frag) (T : List (Addr × Str)) : Sp := fun vs H Q _ => ∃ (a : Addr) (ns : List Int), vs = [.ref a] ∧ SqL K H a (ns.map V.int) ∧ ns.length ≤ 63 ∧ LamX.Tabs T H ∧ ∀ H' f', Step H [] H' f' → LamX.Tabs T H' → Q (.bl true) H'
section
variable {P : Program} {w : World} {K : PySem.W.Frag} {mg : Str → Option Value} {base : Heap} {T : List (Addr × Str)} {CXq : CXT} {k : Nat} {f : Addr} {fd : FuncData} {ps : List Str}
theorem spV_T (F : FnOk P w K mg base CXq k f fd ps (spV K T)) : FnOk P w K mg base CXq k f fd ps (spT K T) := F.imp fun vs H Q E ⟨a, ns, e, hS, hl, tb, q⟩ => ⟨a, ns, e, hS, hl, tb, fun H' _ _ _ => q H'⟩
theorem fn_boxedV {x qual : Str} {st : Stmt} {N : List Str} {ms : List SM} {cd : Value} {fB : Addr} {dB : FuncData} {kB : Nat} {p1 p2 p3 p4 p5 : Pos} {rest : List Stmt} (F : Fun K x qual st f fd) (hcd : fd.code = cd) (S : FnScope N ["script"] (defScope st))
    (hst : defBody st = .Assign [.Name "box" p1] (.Call (.Name "_law_box" p2) [.Name "script" p3] [] p4) p5 :: rest) (FB : FnOk P w K mg base (L2.CX P w) kB fB dB ["script"] (spB K T mg fun ns => .ok (.ref 1) (bxH (absL ns) 0 0 0 [])))
    (hN1 : N[1]? = some ("box" : Str)) (hg : (defScope st).names.lookup ("_law_box" : Str) = some .globalImplicit) (hx : Loc (defScope st) "box") (hm : mg "_law_box" = some (.ref fB)) (hk : PySem.W.keepIn K (.ref fB) = true) (hb : Binds K dB ["script"] []) (hkk : kB ≤ k)
    (hlr : ∀ ns : List Int, ns.length ≤ 63 → LR ms (none :: some (.ref 1) :: List.replicate (N.length - 2) none) (bxH (absL ns) 0 0 0 []))
    (body : ∀ (A : Around) (outer : List Env) (s : Shared) (H : Hp) (E : L2.XK), Room k (A.deeper (PyProof.Rows.envOfC qual (defScope st) s.heap.objs.size f cd)) → XL (cxOf (L2.CX P w) P w K mg base N qual (defScope st) f cd A outer s H E) T E rest ms) :
    FnOk P w K mg base (L2.CX P w) (k + 1) f fd ["script"] (spV K T) := by
  obtain ⟨oc, od, kV, doc, pm, an, cdv, ct, osl, rfl, lk, hcd2⟩ := F.ex
  have ec : cdv = cd := hcd
  subst ec
  have hN0 : N[0]? = some ("script" : Str) := by
    have := S.pre
    match N, this with
    | a :: r, e => simpa using e
  refine fn_of lk hcd2 S (fun vs H Q E ⟨a, ns, e, _⟩ => by rw [e]; rfl) fun A outer s H vs Q E hr ⟨a, ns, e, hS, hl, tb, p⟩ => ?_
  subst e
  have hvis : Vis (defScope st) "script" := by
    rcases S.par "script" List.mem_cons_self with q | q
    · exact .inl q
    · exact .inr (.inl q)
  have hp := pss_cons (ps_set (i := 1) (pos := p5) (pos' := p1) (X := cxOf (L2.CX P w) P w K mg base N qual (defScope st) f cdv A outer s H E) S.nd hN1 hx (pe_call (p := p2) (pos := p4) FB (hr.mono hkk) hg hm hk hb .nil (passes_call (takes_of rfl rfl rfl rfl) (E := E) fun _ _ _ _ h => h) (pa_cons (pe_var (i := 0) (pos := p3) hN0 hvis) pa_nil))) (law_run (body A outer s H E hr))
  rw [← hst] at hp
  refine ⟨_, hp, ?_⟩
  refine ⟨.ref a, start_0 hN0, a, ns, rfl, hS, hl, tb, fun v H' f' st rv hr' tb' => ?_⟩
  have hl2 : 2 ≤ N.length := by
    have := (List.getElem?_eq_some_iff.mp hN1).1
    omega
  have er : ER K H' f' (none :: some (.ref 1) :: List.replicate (N.length - 2) none) ((L2.start N [.ref a]).set 1 (some v)) := by
    refine ⟨?_, fun i d e => ?_⟩
    · rw [List.length_set]
      unfold L2.start
      simp
      omega
    · match i, e with
      | 0, e => cases e
      | 1, e =>
        cases e
        refine ⟨v, ?_, rv⟩
        rw [List.getElem?_set_self]
        unfold L2.start
        simp
        omega
      | i + 2, e =>
        rw [List.getElem?_cons_succ, List.getElem?_cons_succ, List.getElem?_replicate] at e
        split at e <;> cases e
  exact ⟨_, f', _, H, st, ⟨er, hr', tb'⟩, hlr ns hl, fun H2 f2 s2 tb2 => p H2 f2 s2 tb2⟩
theorem law_andV {x qual : Str} {st : Stmt} {N : List Str} {f1 f2 : Addr} {d1 d2 : FuncData} {k1 k2 : Nat} {x1 x2 : Str} {p1 p2 p3 p4 p5 p6 p7 p8 : Pos} (F : Fun K x qual st f fd) (S : FnScope N ["script"] (defScope st))
    (hst : defBody st = [.Return (some (.BoolOp .And [.Call (.Name x1 p1) [.Name "script" p2] [] p3, .Call (.Name x2 p4) [.Name "script" p5] [] p6] p7)) p8])
    (F1 : FnOk P w K mg base (L2.CX P w) k1 f1 d1 ["script"] (spV K T)) (F2 : FnOk P w K mg base (L2.CX P w) k2 f2 d2 ["script"] (spV K T))
    (hg1 : (defScope st).names.lookup x1 = some .globalImplicit) (hg2 : (defScope st).names.lookup x2 = some .globalImplicit) (hm1 : mg x1 = some (.ref f1)) (hm2 : mg x2 = some (.ref f2)) (hk1 : PySem.W.keepIn K (.ref f1) = true) (hk2 : PySem.W.keepIn K (.ref f2) = true)
    (hb1 : Binds K d1 ["script"] []) (hb2 : Binds K d2 ["script"] []) (hkk1 : k1 ≤ k) (hkk2 : k2 ≤ k) (hd1 : (x1 == ("__debug__" : Str)) = false := by decide) (hd2 : (x2 == ("__debug__" : Str)) = false := by decide) : FnOk P w K mg base (L2.CX P w) (k + 1) f fd ["script"] (spT K T) := by
  obtain ⟨oc, od, kV, doc, pm, an, cdv, ct, osl, rfl, lk, hcd2⟩ := F.ex
  have hN0 : N[0]? = some ("script" : Str) := by
    have := S.pre
    match N, this with
    | a :: r, e => simpa using e
  refine fn_of lk hcd2 S (fun vs H Q E ⟨a, ns, e, _⟩ => by rw [e]; rfl) fun A outer s H vs Q E hr ⟨a, ns, e, hS, hl, tb, p⟩ => ?_
  subst e
  have hvis : Vis (defScope st) "script" := by
    rcases S.par "script" List.mem_cons_self with q | q
    · exact .inl q
    · exact .inr (.inl q)
  have call : ∀ {xx : Str} {q1 q2 q3 : Pos} {ff : Addr} {dd : FuncData} {kk : Nat}, FnOk P w K mg base (L2.CX P w) kk ff dd ["script"] (spV K T) → (defScope st).names.lookup xx = some .globalImplicit → mg xx = some (.ref ff) → PySem.W.keepIn K (.ref ff) = true → Binds K dd ["script"] [] → kk ≤ k → (xx == ("__debug__" : Str)) = false →
      PE (cxOf (L2.CX P w) P w K mg base N qual (defScope st) f cdv A outer s H E) (.Call (.Name xx q1) [.Name "script" q2] [] q3) (tCall (spV K T) [] E (tCons (tVar 0) tNil)) :=
    fun {xx q1 q2 q3 ff dd kk} FF hg hm hk hb hkk hd => pe_call FF (hr.mono hkk) hg hm hk hb .nil (passes_call (takes_of rfl rfl rfl rfl) (E := E) fun _ _ _ _ h => h) (pa_cons (pe_var (i := 0) hN0 hvis) pa_nil) hd
  have hp := pss_one (ps_ret (pos := p8) (pe_and (pos := p7) (call (q1 := p1) (q2 := p2) (q3 := p3) F1 hg1 hm1 hk1 hb1 hkk1 hd1) (pe_one (op := .And) (pos := p7) (call (q1 := p4) (q2 := p5) (q3 := p6) F2 hg2 hm2 hk2 hb2 hkk2 hd2))))
  rw [← hst] at hp
  refine ⟨_, hp, ?_⟩
  refine ⟨.ref a, start_0 hN0, a, ns, rfl, hS, hl, tb, fun H1 fa s1 tb1 => ⟨true, rfl, iteT ⟨.ref a, start_0 hN0, a, ns, rfl, ?_, hl, tb1, fun H2 fb s2 tb2 => p H2⟩⟩⟩
  rcases hS with (hS | ⟨o, hS⟩) | hS
  · exact .inl (.inl (s1.keep a _ hS (.inr (by simp)) (fun ps z => by cases z)))
  · exact .inl (.inr ⟨o, s1.keep a _ hS (.inr (by simp)) (fun ps z => by cases z)⟩)
  · exact .inr hS
end
end CB

set_option maxRecDepth 100000
set_option maxHeartbeats 1000000
namespace CB
open PySem PySem.Spec
open L2

/-! ## loops by their states -/
theorem goF_inv {pl : Plan} {b : BM} {m : SM} {n : Nat} {Inv : Nat → Env' → Hh → Prop} (hs : ∀ i env h, i < n → Inv i env h → ∃ d env1 h1 env2 h2, pl i h = .item d ∧ b d env h = .nx env1 h1 ∧ m env1 h1 = .nx env2 h2 ∧ Inv (i + 1) env2 h2) (he : ∀ env h, Inv n env h → pl n h = .stop) :
    ∀ fuel i env h, n - i < fuel → i ≤ n → Inv i env h → ∃ env' h', goF pl b m fuel i env h = .nx env' h' ∧ Inv n env' h'
  | 0, i, env, h, h1, _, _ => by omega
  | fuel + 1, i, env, h, h1, h2, v => by
    unfold goF
    by_cases hi : i < n
    · obtain ⟨d, env1, h1, env2, hh2, e1, e2, e3, v2⟩ := hs i env h hi v
      rw [e1]
      dsimp only
      rw [e2]
      dsimp only
      rw [e3]
      exact goF_inv hs he fuel (i + 1) env2 hh2 (by omega) (by omega) v2
    · have e : i = n := by omega
      subst e
      rw [he env h v]
      exact ⟨env, h, rfl, v⟩
theorem goW_inv {c : EM} {b : SM} {n : Nat} {Inv : Nat → Env' → Hh → Prop} (hs : ∀ i env h, i < n → Inv i env h → c env h = .ok (.bl true) h ∧ ∃ env2 h2, b env h = .nx env2 h2 ∧ Inv (i + 1) env2 h2) (he : ∀ env h, Inv n env h → c env h = .ok (.bl false) h) :
    ∀ fuel i env h, n - i < fuel → i ≤ n → Inv i env h → ∃ env' h', goW c b fuel env h = .nx env' h' ∧ Inv n env' h'
  | 0, i, env, h, h1, _, _ => by omega
  | fuel + 1, i, env, h, h1, h2, v => by
    unfold goW
    by_cases hi : i < n
    · obtain ⟨e1, env2, hh2, e2, v2⟩ := hs i env h hi v
      rw [e1]
      dsimp only [R.bindS]
      rw [e2]
      exact goW_inv hs he fuel (i + 1) env2 hh2 (by omega) (by omega) v2
    · have e : i = n := by omega
      subst e
      rw [he env h v]
      exact ⟨env, h, rfl, v⟩
abbrev iD (l : List Int) : List D := l.map D.int
theorem atI_iD {l : List Int} {n : Nat} (h : n < l.length) : atI (iD l) (n : Int) = some (.int (l.getD n 0)) := by
  unfold atI ixN
  rw [if_pos (by omega), if_pos (by rw [List.length_map]; omega)]
  simp [h]
theorem atI_last {l : List Int} (h : l ≠ []) : atI (iD l) (-1) = some (.int (l.getLast h)) := by
  have hl : 0 < l.length := List.length_pos_iff.mpr h
  unfold atI ixN
  rw [if_neg (by omega), if_pos (by rw [List.length_map]; omega)]
  simp only [Option.bind_some, List.length_map]
  rw [show (-1 + (l.length : Int)).toNat = l.length - 1 by omega, List.getElem?_map, List.getLast_eq_getElem, List.getElem?_eq_getElem (by omega)]
  rfl
theorem ixN_nat {n k : Nat} (h : n < k) : ixN k (n : Int) = some n := by
  unfold ixN
  rw [if_pos (by omega), if_pos (by omega)]
  simp
theorem iD_set {l : List Int} {n : Nat} {v : Int} : (iD l).set n (.int v) = iD (l.set n v) := by
  show (l.map D.int).set n (D.int v) = (l.set n v).map D.int
  rw [List.map_set]
/-! ## rows added in place -/
def add0 (a : Int) : List Int → List Int → List Int
  | y :: ys, b :: bs => (y + a * b) :: add0 a ys bs
  | ys, _ => ys
def addAt (a : Int) (g : List Int) : Nat → List Int → List Int
  | 0, out => add0 a out g
  | k + 1, y :: ys => y :: addAt a g k ys
  | _ + 1, [] => []
theorem add0_nil (a : Int) (out : List Int) : add0 a out [] = out := by cases out <;> rfl
theorem addAt_nil (a : Int) : ∀ (k : Nat) (out : List Int), addAt a [] k out = out
  | 0, out => add0_nil a out
  | k + 1, [] => rfl
  | k + 1, y :: ys => by rw [addAt, addAt_nil a k ys]
theorem add0_len (a : Int) : ∀ (out g : List Int), (add0 a out g).length = out.length
  | [], g => by cases g <;> rfl
  | y :: ys, [] => rfl
  | y :: ys, b :: bs => by rw [add0, List.length_cons, add0_len a ys bs, List.length_cons]
theorem addAt_len (a : Int) (g : List Int) : ∀ (k : Nat) (out : List Int), (addAt a g k out).length = out.length
  | 0, out => add0_len a out g
  | k + 1, [] => rfl
  | k + 1, y :: ys => by rw [addAt, List.length_cons, addAt_len a g k ys, List.length_cons]
theorem add0_step (a : Int) : ∀ (out g : List Int) (j : Nat) (hj : j < g.length) (ho : j < out.length), (add0 a out (g.take j)).set j ((add0 a out (g.take j)).getD j 0 + a * g.getD j 0) = add0 a out (g.take (j + 1))
  | [], g, j, _, ho => by simp at ho
  | y :: ys, [], j, hj, _ => by simp at hj
  | y :: ys, b :: bs, 0, _, _ => by
    show (add0 a (y :: ys) []).set 0 ((add0 a (y :: ys) []).getD 0 0 + a * b) = (y + a * b) :: add0 a ys []
    rw [add0_nil, add0_nil]
    rfl
  | y :: ys, b :: bs, j + 1, hj, ho => by
    have ih := add0_step a ys bs j (by simpa using hj) (by simpa using ho)
    show (y + a * b) :: (add0 a ys (bs.take j)).set j ((add0 a ys (bs.take j)).getD j 0 + a * bs.getD j 0) = (y + a * b) :: add0 a ys (bs.take (j + 1))
    rw [ih]
theorem addAt_step (a : Int) (g : List Int) (j : Nat) (hj : j < g.length) : ∀ (k : Nat) (out : List Int) (ho : k + j < out.length), (addAt a (g.take j) k out).set (k + j) ((addAt a (g.take j) k out).getD (k + j) 0 + a * g.getD j 0) = addAt a (g.take (j + 1)) k out
  | 0, out, ho => by
    have := add0_step a out g j hj (by omega)
    rw [Nat.zero_add]
    exact this
  | k + 1, [], ho => by simp at ho
  | k + 1, y :: ys, ho => by
    have ih := addAt_step a g j hj k ys (by simp at ho; omega)
    rw [show k + 1 + j = (k + j) + 1 by omega]
    show y :: (addAt a (g.take j) k ys).set (k + j) ((addAt a (g.take j) k ys).getD (k + j) 0 + a * g.getD j 0) = y :: addAt a (g.take (j + 1)) k ys
    rw [ih]
/-- the rows of f times g, one after the other -/
def rows (g : List Int) : List Int → Nat → List Int → List Int
  | [], _, out => out
  | a :: f, k, out => rows g f (k + 1) (addAt a g k out)
theorem rows_len (g : List Int) : ∀ (f : List Int) (k : Nat) (out : List Int), (rows g f k out).length = out.length
  | [], _, _ => rfl
  | a :: f, k, out => by rw [rows, rows_len g f, addAt_len]
def small (g : List Int) : Prop := ∀ b ∈ g, b.natAbs < 18446744073709551616
theorem mul_small {a b : Int} (h : b.natAbs < 18446744073709551616) : mulOk a b = true := by
  unfold mulOk
  rw [show Nat.blt b.natAbs 18446744073709551616 = true from by rw [Nat.blt_eq]; exact h, Bool.true_or, Bool.or_true]
/-! ## multiply -/
def mMultiply : SM :=
  (mSeq (mIf (mOr (mNot (mUn pTru (mV 0))) (mNot (mUn pTru (mV 1)))) (mRet (mTup mNil)) mPass)
  (mSeq (mSet 2 (mBin pMul (mLst (mCons (mC (.int 0)) mNil)) (mBin pSub (mBin pAdd (mCall pLen (mCons (mV 0) mNil)) (mCall pLen (mCons (mV 1) mNil))) (mC (.int 1)))))
  (mSeq (mFor (mEnumI (mCons (mV 0) mNil)) (bT 2 (bsCons (bN 3) (bsCons (bN 4) bsNil))) (mFor (mEnumI (mCons (mV 1) mNil)) (bT 2 (bsCons (bN 5) (bsCons (bN 6) bsNil))) (mAugS (mV 2) (mBin pAdd (mV 3) (mV 5)) pIadd (mBin pMul (mV 4) (mV 6)))))
  (mRet (mCall pTuple (mCons (mV 2) mNil))))))
def mulI (f g : List Int) : List Int := if f.isEmpty || g.isEmpty then [] else rows g f 0 (List.replicate (f.length + g.length - 1) 0)
def hq (o : Ob) (l : List Int) : Hh := [o, .lst (iD l)]
theorem hq_get {o : Ob} {l : List Int} : getL (hq o l) 1 = some (iD l) := rfl
theorem augS_ok {env : Env'} {o : Ob} {l : List Int} {io : Nat} {mi me : EM} {n : Nat} {z : Int} (h0 : env[io]? = some (some (.ref 1))) (hi : mi env (hq o l) = .ok (.int (n : Int)) (hq o l)) (hn : n < l.length) (he : me env (hq o l) = .ok (.int z) (hq o l)) :
    mAugS (mV io) mi pIadd me env (hq o l) = .nx env (hq o (l.set n (l.getD n 0 + z))) := by
  unfold mAugS
  rw [e_v h0]
  dsimp only [R.bindS]
  rw [hi]
  dsimp only [R.bindS, pGetL]
  rw [hq_get]
  dsimp only
  rw [atI_iD hn]
  dsimp only [R.bindS]
  rw [he]
  dsimp only [R.bindS, pIadd, setL]
  rw [hq_get]
  dsimp only
  rw [List.length_map, ixN_nat hn]
  dsimp only
  rw [iD_set]
  rfl
theorem get_mem {g : List Int} {j : Nat} (h : j < g.length) : g.getD j 0 ∈ g := by
  rw [List.getD_eq_getElem?_getD, List.getElem?_eq_getElem h]
  exact List.getElem_mem h
theorem plV_item {g : List Int} {j : Nat} {h : Hh} (hj : j < g.length) : plV (iD g) j h = .item (.int (g.getD j 0)) := by
  unfold plV; simp [hj]
theorem plV_stop {g : List Int} {h : Hh} : plV (iD g) g.length h = .stop := by
  unfold plV; simp
theorem numb_item {g : List Int} {j : Nat} {h : Hh} (hj : j < g.length) : numb (plV (iD g)) j h = .item (.tup [.int (j : Int), .int (g.getD j 0)]) := by
  unfold numb
  rw [plV_item hj]
theorem numb_stop {g : List Int} {h : Hh} : numb (plV (iD g)) g.length h = .stop := by
  unfold numb
  rw [plV_stop]
theorem multiply_inner {f g l : List Int} {k : Nat} {a : Int} {x5 x6 : Option D} (hg : small g) (hk : k + g.length ≤ l.length) : ∃ x5' x6', mFor (mEnumI (mCons (mV 1) mNil)) (bT 2 (bsCons (bN 5) (bsCons (bN 6) bsNil))) (mAugS (mV 2) (mBin pAdd (mV 3) (mV 5)) pIadd (mBin pMul (mV 4) (mV 6)))
    [some (.tup (iD f)), some (.tup (iD g)), some (.ref 1), some (.int (k : Int)), some (.int a), x5, x6] (hq (.lst [.int 0]) l) = .nx [some (.tup (iD f)), some (.tup (iD g)), some (.ref 1), some (.int (k : Int)), some (.int a), x5', x6'] (hq (.lst [.int 0]) (addAt a g k l)) := by
  obtain ⟨env', h', e, x5', x6', rfl, rfl⟩ := goF_inv (pl := numb (plV (iD g))) (b := bT 2 (bsCons (bN 5) (bsCons (bN 6) bsNil))) (m := mAugS (mV 2) (mBin pAdd (mV 3) (mV 5)) pIadd (mBin pMul (mV 4) (mV 6))) (n := g.length)
    (Inv := fun j env h => ∃ x5 x6, env = [some (.tup (iD f)), some (.tup (iD g)), some (.ref 1), some (.int (k : Int)), some (.int a), x5, x6] ∧ h = hq (.lst [.int 0]) (addAt a (g.take j) k l))
    (fun j env h hj ⟨y5, y6, e1, e2⟩ => by
      subst e1; subst e2
      refine ⟨_, _, _, _, _, numb_item hj, rfl, augS_ok (n := k + j) (z := a * g.getD j 0) rfl rfl (by rw [addAt_len]; omega) (e_bin rfl rfl (p_mul (mul_small (hg _ (get_mem hj))))), _, _, rfl, ?_⟩
      rw [addAt_step a g j hj k l (by omega)])
    (fun env h _ => numb_stop) (g.length + 1) 0 [some (.tup (iD f)), some (.tup (iD g)), some (.ref 1), some (.int (k : Int)), some (.int a), x5, x6] (hq (.lst [.int 0]) l) (by omega) (by omega) ⟨x5, x6, rfl, by rw [List.take_zero, addAt_nil]⟩
  refine ⟨x5', x6', ?_⟩
  rw [List.take_length] at e
  show goF (numb (plV (iD g))) _ _ ((iD g).length + 1) 0 _ _ = _
  rw [List.length_map]
  exact e
theorem rows_snoc (g : List Int) : ∀ (f : List Int) (i : Nat) (hi : i < f.length) (k : Nat) (out : List Int), addAt (f.getD i 0) g (k + i) (rows g (f.take i) k out) = rows g (f.take (i + 1)) k out
  | [], i, hi, _, _ => by simp at hi
  | a :: f, 0, _, k, out => rfl
  | a :: f, i + 1, hi, k, out => by
    have ih := rows_snoc g f i (by simpa using hi) (k + 1) (addAt a g k out)
    rw [show k + (i + 1) = (k + 1) + i by omega]
    exact ih
theorem multiply_outer {f g l : List Int} (hg : small g) (hl : f.length + g.length ≤ l.length + 1) {x3 x4 x5 x6 : Option D} : ∃ x3' x4' x5' x6', mFor (mEnumI (mCons (mV 0) mNil)) (bT 2 (bsCons (bN 3) (bsCons (bN 4) bsNil))) (mFor (mEnumI (mCons (mV 1) mNil)) (bT 2 (bsCons (bN 5) (bsCons (bN 6) bsNil))) (mAugS (mV 2) (mBin pAdd (mV 3) (mV 5)) pIadd (mBin pMul (mV 4) (mV 6))))
    [some (.tup (iD f)), some (.tup (iD g)), some (.ref 1), x3, x4, x5, x6] (hq (.lst [.int 0]) l) = .nx [some (.tup (iD f)), some (.tup (iD g)), some (.ref 1), x3', x4', x5', x6'] (hq (.lst [.int 0]) (rows g f 0 l)) := by
  obtain ⟨env', h', e, x3', x4', x5', x6', rfl, rfl⟩ := goF_inv (pl := numb (plV (iD f))) (b := bT 2 (bsCons (bN 3) (bsCons (bN 4) bsNil))) (m := mFor (mEnumI (mCons (mV 1) mNil)) (bT 2 (bsCons (bN 5) (bsCons (bN 6) bsNil))) (mAugS (mV 2) (mBin pAdd (mV 3) (mV 5)) pIadd (mBin pMul (mV 4) (mV 6)))) (n := f.length)
    (Inv := fun j env h => ∃ x3 x4 x5 x6, env = [some (.tup (iD f)), some (.tup (iD g)), some (.ref 1), x3, x4, x5, x6] ∧ h = hq (.lst [.int 0]) (rows g (f.take j) 0 l))
    (fun j env h hj ⟨y3, y4, y5, y6, e1, e2⟩ => by
      subst e1; subst e2
      obtain ⟨z5, z6, e⟩ := multiply_inner (f := f) (g := g) (l := rows g (f.take j) 0 l) (k := j) (a := f.getD j 0) (x5 := y5) (x6 := y6) hg (by rw [rows_len]; omega)
      refine ⟨_, _, _, _, _, numb_item hj, rfl, e, _, _, _, _, rfl, ?_⟩
      have := rows_snoc g f j hj 0 l
      rw [Nat.zero_add] at this
      rw [this])
    (fun env h _ => numb_stop) (f.length + 1) 0 [some (.tup (iD f)), some (.tup (iD g)), some (.ref 1), x3, x4, x5, x6] (hq (.lst [.int 0]) l) (by omega) (by omega) ⟨x3, x4, x5, x6, rfl, rfl⟩
  refine ⟨x3', x4', x5', x6', ?_⟩
  rw [List.take_length] at e
  show goF (numb (plV (iD f))) _ _ ((iD f).length + 1) 0 _ _ = _
  rw [List.length_map]
  exact e
theorem e_and {env : Env'} {h : Hh} {a b : EM} {k : Bool} (ha : a env h = .ok (.bl k) h) : mAnd a b env h = if k = true then b env h else .ok (.bl false) h := by
  unfold mAnd
  rw [ha]
  cases k <;> rfl
theorem e_or {env : Env'} {h : Hh} {a b : EM} {k : Bool} (ha : a env h = .ok (.bl k) h) : mOr a b env h = if k = true then .ok (.bl true) h else b env h := by
  unfold mOr
  rw [ha]
  cases k <;> rfl
theorem rfs_iD : ∀ l : List Int, D.rfs (iD l) = true
  | [] => rfl
  | a :: l => by
    show (D.rf (.int a) && D.rfs (iD l)) = true
    rw [rfs_iD l]
    rfl
theorem rf_tup (l : List Int) : D.rf (.tup (iD l)) = true := by
  show D.rfs (iD l) = true
  exact rfs_iD l
theorem fnP_ok {n N : Nat} {m : SM} {ds : List D} {h h' : Hh} {d : D} (hl : ds.length = n) (hr : D.rfs ds = true) (e : fin (m (startE N ds) []) = .ok d h') (hd : D.rf d = true) : fnP n N m ds h = .ok d h := by
  unfold fnP
  rw [if_pos ⟨hl, hr⟩, e]
  dsimp only
  rw [if_pos hd]
theorem rep_flat (n : Nat) : (List.replicate n [D.int 0]).flatten = iD (List.replicate n 0) := by
  induction n with
  | zero => rfl
  | succ n ih => rw [List.replicate_succ, List.flatten_cons, ih]; rfl
theorem e_bin2 {env : Env'} {h h1 h2 : Hh} {a b : EM} {p : D → D → Hh → R D} {r : R D} {dx dy : D} (ha : a env h = .ok dx h1) (hb : b env h1 = .ok dy h2) (hp : p dx dy h2 = r) : mBin p a b env h = r := by
  unfold mBin
  rw [ha]
  dsimp only [R.bind]
  rw [hb]
  exact hp
theorem mul_zeros {n : Nat} (hn : n ≤ 1000) : pMul (.ref 0) (.int (n : Int)) [.lst [.int 0]] = .ok (.ref 1) (hq (.lst [.int 0]) (List.replicate n 0)) := by
  dsimp only [pMul]
  rw [show getL [Ob.lst [D.int 0]] 0 = some [D.int 0] from rfl]
  dsimp only
  rw [if_pos (by refine ⟨by omega, by omega, by show 1 ≤ 1000; omega⟩), Int.toNat_natCast, rep_flat]
  rfl
theorem multiply_ok {f g : List Int} {h : Hh} (hg : small g) (hl : f.length + g.length ≤ 1000) : fnP 2 7 mMultiply [.tup (iD f), .tup (iD g)] h = .ok (.tup (iD (mulI f g))) h := by
  have key : ∃ h', fin (mMultiply (startE 7 [.tup (iD f), .tup (iD g)]) []) = .ok (.tup (iD (mulI f g))) h' := by
    show ∃ h', fin (mMultiply [some (.tup (iD f)), some (.tup (iD g)), none, none, none, none, none] []) = _
    have tf : mNot (mUn pTru (mV 0)) [some (.tup (iD f)), some (.tup (iD g)), none, none, none, none, none] [] = .ok (.bl f.isEmpty) [] := by
      cases f <;> rfl
    have tg : mNot (mUn pTru (mV 1)) [some (.tup (iD f)), some (.tup (iD g)), none, none, none, none, none] [] = .ok (.bl g.isEmpty) [] := by
      cases g <;> rfl
    have tt : mOr (mNot (mUn pTru (mV 0))) (mNot (mUn pTru (mV 1))) [some (.tup (iD f)), some (.tup (iD g)), none, none, none, none, none] [] = .ok (.bl (f.isEmpty || g.isEmpty)) [] := by
      rw [e_or tf]
      cases f.isEmpty
      · exact tg
      · rfl
    unfold mMultiply mulI
    by_cases hz : (f.isEmpty || g.isEmpty) = true
    · rw [e_seqR ((e_if tt).trans ((if_pos hz).trans (e_ret (d := .tup []) rfl))), if_pos hz]
      exact ⟨_, rfl⟩
    · rw [e_seq (e_if0 (by rw [tt, Bool.eq_false_iff.mpr hz])), if_neg hz]
      have hf1 : 1 ≤ f.length := by
        cases f with
        | nil => simp at hz
        | cons a f => simp
      have e2 : mSet 2 (mBin pMul (mLst (mCons (mC (.int 0)) mNil)) (mBin pSub (mBin pAdd (mCall pLen (mCons (mV 0) mNil)) (mCall pLen (mCons (mV 1) mNil))) (mC (.int 1)))) [some (.tup (iD f)), some (.tup (iD g)), none, none, none, none, none] [] =
          .nx [some (.tup (iD f)), some (.tup (iD g)), some (.ref 1), none, none, none, none] (hq (.lst [.int 0]) (List.replicate (f.length + g.length - 1) 0)) := by
        have e4 : mBin pAdd (mCall pLen (mCons (mV 0) mNil)) (mCall pLen (mCons (mV 1) mNil)) [some (.tup (iD f)), some (.tup (iD g)), none, none, none, none, none] [.lst [.int 0]] = .ok (.int ((f.length : Int) + g.length)) [.lst [.int 0]] := by
          refine e_bin (dx := .int (f.length : Nat)) (dy := .int (g.length : Nat)) ?_ ?_ rfl
          · refine e_call1 rfl ?_
            show R.ok (D.int ((iD f).length : Nat)) _ = _
            rw [List.length_map]
          · refine e_call1 rfl ?_
            show R.ok (D.int ((iD g).length : Nat)) _ = _
            rw [List.length_map]
        have e3 : pSub (.int ((f.length : Int) + g.length)) (.int 1) [.lst [.int 0]] = .ok (.int ((f.length + g.length - 1 : Nat) : Int)) [.lst [.int 0]] := by
          show R.ok (D.int ((f.length : Int) + g.length - 1)) _ = _
          rw [show ((f.length : Int) + g.length - 1) = ((f.length + g.length - 1 : Nat) : Int) by omega]
        exact e_set (e_bin2 (h1 := [.lst [.int 0]]) rfl (e_bin e4 rfl e3) (mul_zeros (by omega)))
      rw [e_seq e2]
      obtain ⟨x3, x4, x5, x6, e3⟩ := multiply_outer (f := f) (g := g) (l := List.replicate (f.length + g.length - 1) 0) (x3 := none) (x4 := none) (x5 := none) (x6 := none) hg (by rw [List.length_replicate]; omega)
      rw [e_seq e3]
      exact ⟨_, rfl⟩
  obtain ⟨h', e⟩ := key
  exact fnP_ok rfl (by show (D.rf (.tup (iD f)) && (D.rf (.tup (iD g)) && true)) = true; rw [rf_tup, rf_tup]; rfl) e (rf_tup _)
end CB

set_option maxRecDepth 100000
set_option maxHeartbeats 1000000
namespace CB
open PySem PySem.Spec
open L2

/-! ## exact -/
def mExact : SM :=
  (mSeq (mPar [2, 3] (mCons (mCall pList (mCons (mV 0) mNil)) (mCons (mLst mNil) mNil)))
  (mSeq (mWhile 1000000 (mBin pGe (mCall pLen (mCons (mV 2) mNil)) (mCall pLen (mCons (mV 1) mNil))) (mSeq (mSet 4 (mBin pIx (mV 2) (mUn pNeg (mC (.int 1)))))
  (mSeq (mDo (mMtL pAppend (mV 3) (mCons (mV 4) mNil)))
  (mSeq (mFor (mRng1 (mCons (mCall pLen (mCons (mV 1) mNil)) mNil)) (bN 5) (mAugS (mV 2) (mBin pAdd (mBin pSub (mCall pLen (mCons (mV 2) mNil)) (mCall pLen (mCons (mV 1) mNil))) (mV 5)) pSub (mBin pMul (mV 4) (mBin pIx (mV 1) (mV 5)))))
  (mDo (mMtL pPop (mV 2) mNil))))))
  (mRet (mCall pTuple (mCons (mUn pRev (mV 3)) mNil)))))
theorem augS_gen {env : Env'} {h h' : Hh} {l : List Int} {io r : Nat} {mi me : EM} {p : D → D → Hh → R D} {n : Nat} {z z' : Int} (h0 : env[io]? = some (some (.ref r))) (hget : getL h r = some (iD l)) (hset : h.set r (.lst (iD (l.set n z'))) = h') (hi : mi env h = .ok (.int (n : Int)) h) (hn : n < l.length)
    (he : me env h = .ok (.int z) h) (hp : p (.int (l.getD n 0)) (.int z) h = .ok (.int z') h) : mAugS (mV io) mi p me env h = .nx env h' := by
  unfold mAugS
  rw [e_v h0]
  dsimp only [R.bindS]
  rw [hi]
  dsimp only [R.bindS, pGetL]
  rw [hget]
  dsimp only
  rw [atI_iD hn]
  dsimp only [R.bindS]
  rw [he]
  dsimp only [R.bindS]
  rw [hp]
  dsimp only [R.bindS, setL]
  rw [hget]
  dsimp only
  rw [List.length_map, ixN_nat hn]
  dsimp only
  rw [iD_set, hset]
theorem putS_gen {env : Env'} {h h' : Hh} {l : List Int} {io r : Nat} {mi me : EM} {n : Nat} {z : Int} (h0 : env[io]? = some (some (.ref r))) (hget : getL h r = some (iD l)) (hset : h.set r (.lst (iD (l.set n z))) = h') (hi : mi env h = .ok (.int (n : Int)) h) (hn : n < l.length)
    (he : me env h = .ok (.int z) h) : mPutS (mV io) mi me env h = .nx env h' := by
  unfold mPutS
  rw [he]
  dsimp only [R.bindS]
  rw [e_v h0]
  dsimp only [R.bindS]
  rw [hi]
  dsimp only [R.bindS, setL]
  rw [hget]
  dsimp only
  rw [List.length_map, ixN_nat hn]
  dsimp only
  rw [iD_set, hset]
theorem len_ref {env : Env'} {h : Hh} {l : List Int} {i r : Nat} (h0 : env[i]? = some (some (.ref r))) (hget : getL h r = some (iD l)) : mCall pLen (mCons (mV i) mNil) env h = .ok (.int (l.length : Int)) h := by
  refine e_call1 (e_v h0) ?_
  show (match seqOf h (.ref r) with | some ds => R.ok (D.int (ds.length : Nat)) h | none => .no) = _
  rw [show seqOf h (.ref r) = some (iD l) from hget]
  dsimp only
  rw [List.length_map]
theorem len_tup {env : Env'} {h : Hh} {l : List Int} {i : Nat} (h0 : env[i]? = some (some (.tup (iD l)))) : mCall pLen (mCons (mV i) mNil) env h = .ok (.int (l.length : Int)) h := by
  refine e_call1 (e_v h0) ?_
  show R.ok (D.int ((iD l).length : Nat)) h = _
  rw [List.length_map]
theorem ix_tup {env : Env'} {h : Hh} {l : List Int} {i : Nat} {n : Nat} {e : EM} (h0 : env[i]? = some (some (.tup (iD l)))) (he : e env h = .ok (.int (n : Int)) h) (hn : n < l.length) : mBin pIx (mV i) e env h = .ok (.int (l.getD n 0)) h := by
  refine e_bin (e_v h0) he ?_
  show (match atI (iD l) (n : Int) with | some d => R.ok d h | none => .no) = _
  rw [atI_iD hn]
theorem ix_ref {env : Env'} {h : Hh} {l : List Int} {i r : Nat} {n : Nat} {e : EM} (h0 : env[i]? = some (some (.ref r))) (hget : getL h r = some (iD l)) (he : e env h = .ok (.int (n : Int)) h) (hn : n < l.length) : mBin pIx (mV i) e env h = .ok (.int (l.getD n 0)) h := by
  refine e_bin (e_v h0) he ?_
  show (match getL h r with | some xs => (match atI xs (n : Int) with | some d => R.ok d h | none => .no) | none => .no) = _
  rw [hget]
  dsimp only
  rw [atI_iD hn]
theorem ix_last {env : Env'} {h : Hh} {l : List Int} {i r : Nat} (h0 : env[i]? = some (some (.ref r))) (hget : getL h r = some (iD l)) (hl : l ≠ []) : mBin pIx (mV i) (mUn pNeg (mC (.int 1))) env h = .ok (.int (l.getLast hl)) h := by
  refine e_bin (dy := .int (-1)) (e_v h0) rfl ?_
  show (match getL h r with | some xs => (match atI xs (-1) with | some d => R.ok d h | none => .no) | none => .no) = _
  rw [hget]
  dsimp only
  rw [atI_last hl]
theorem rng_item {n j : Nat} {h : Hh} (hj : j < n) : plR 0 1 n j h = .item (.int (j : Int)) := by
  unfold plR
  rw [if_pos hj]
  simp
theorem rng_stop {n : Nat} {h : Hh} : plR 0 1 n n h = .stop := by
  unfold plR
  rw [if_neg (by omega)]
theorem for_rng {e : EM} {i : Nat} {m : SM} {env : Env'} {h : Hh} {n : Nat} (he : e env h = .ok (.int (n : Int)) h) (hn : n < 4611686018427387904) : mFor (mRng1 (mCons e mNil)) (bN i) m env h = goF (plR 0 1 n) (bN i) m (n + 1) 0 env h := by
  unfold mFor mRng1 mCons mNil
  rw [he]
  dsimp only [R.bind, R.bindS]
  rw [if_pos (by unfold rngOk; rw [Nat.blt_eq]; omega)]
  dsimp only [R.bindS]
  rw [Int.toNat_natCast]
theorem pop_ok {env : Env'} {h h' : Hh} {l : List Int} {i r : Nat} (h0 : env[i]? = some (some (.ref r))) (hget : getL h r = some (iD l)) (hl : l ≠ []) (hset : h.set r (.lst (iD l.dropLast)) = h') : mDo (mMtL pPop (mV i) mNil) env h = .nx env h' := by
  unfold mDo mMtL mNil
  rw [e_v h0]
  dsimp only [R.bind]
  rw [if_pos (by show (getL h r).isSome = true; rw [hget]; rfl)]
  dsimp only [pPop]
  rw [hget]
  dsimp only
  have hp : 0 < l.length := List.length_pos_iff.mpr hl
  rw [List.length_map, List.getElem?_map, List.getElem?_eq_getElem (by omega)]
  dsimp only [Option.map_some, R.bindS]
  rw [← hset, show (iD l).dropLast = iD l.dropLast from (List.map_dropLast ..).symm]
theorem append_ok {env : Env'} {h h' : Hh} {l : List Int} {i j r : Nat} {z : Int} (h0 : env[i]? = some (some (.ref r))) (h1 : env[j]? = some (some (.int z))) (hget : getL h r = some (iD l)) (hl : l.length < LN) (hset : h.set r (.lst (iD (l ++ [z]))) = h') : mDo (mMtL pAppend (mV i) (mCons (mV j) mNil)) env h = .nx env h' := by
  unfold mDo mMtL mCons mNil
  rw [e_v h0]
  dsimp only [R.bind]
  rw [if_pos (by show (getL h r).isSome = true; rw [hget]; rfl), e_v h1]
  dsimp only [R.bind, pAppend]
  rw [hget]
  dsimp only
  rw [if_pos (by rw [List.length_map]; exact hl)]
  dsimp only [R.bindS]
  rw [← hset, show iD (l ++ [z]) = iD l ++ [D.int z] from by show (l ++ [z]).map D.int = _; rw [List.map_append]; rfl]
def exStep (g : List Int) (s : List Int × List Int) : List Int × List Int := ((addAt (-(s.1.getLastD 0)) g (s.1.length - g.length) s.1).dropLast, s.2 ++ [s.1.getLastD 0])
def exSt (g f : List Int) : Nat → List Int × List Int
  | 0 => (f, [])
  | i + 1 => exStep g (exSt g f i)
theorem exSt_len (g f : List Int) : ∀ i, (exSt g f i).1.length = f.length - i ∧ (exSt g f i).2.length = i
  | 0 => ⟨rfl, rfl⟩
  | i + 1 => by
    obtain ⟨h1, h2⟩ := exSt_len g f i
    refine ⟨?_, ?_⟩
    · show ((addAt _ g _ (exSt g f i).1).dropLast).length = _
      rw [List.length_dropLast, addAt_len, h1]
      omega
    · show ((exSt g f i).2 ++ [_]).length = _
      rw [List.length_append, h2]
      rfl
def exI (f g : List Int) : List Int := (exSt g f (f.length + 1 - g.length)).2.reverse
theorem exact_inner {f g l o : List Int} {a : Int} {x5 : Option D} (hg : small g) (hgl : g.length < 1000) (hk : g.length ≤ l.length) : ∃ x5', mFor (mRng1 (mCons (mCall pLen (mCons (mV 1) mNil)) mNil)) (bN 5) (mAugS (mV 2) (mBin pAdd (mBin pSub (mCall pLen (mCons (mV 2) mNil)) (mCall pLen (mCons (mV 1) mNil))) (mV 5)) pSub (mBin pMul (mV 4) (mBin pIx (mV 1) (mV 5))))
    [some (.tup (iD f)), some (.tup (iD g)), some (.ref 0), some (.ref 1), some (.int a), x5] [.lst (iD l), .lst (iD o)] = .nx [some (.tup (iD f)), some (.tup (iD g)), some (.ref 0), some (.ref 1), some (.int a), x5'] [.lst (iD (addAt (-a) g (l.length - g.length) l)), .lst (iD o)] := by
  rw [for_rng (len_tup rfl) (by omega)]
  obtain ⟨env', h', e, x5', rfl, rfl⟩ := goF_inv (pl := plR 0 1 g.length) (b := bN 5) (m := mAugS (mV 2) (mBin pAdd (mBin pSub (mCall pLen (mCons (mV 2) mNil)) (mCall pLen (mCons (mV 1) mNil))) (mV 5)) pSub (mBin pMul (mV 4) (mBin pIx (mV 1) (mV 5)))) (n := g.length)
    (Inv := fun j env h => ∃ x5, env = [some (.tup (iD f)), some (.tup (iD g)), some (.ref 0), some (.ref 1), some (.int a), x5] ∧ h = [.lst (iD (addAt (-a) (g.take j) (l.length - g.length) l)), .lst (iD o)])
    (fun j env h hj ⟨y5, e1, e2⟩ => by
      subst e1; subst e2
      refine ⟨_, _, _, _, _, rng_item hj, rfl, augS_gen (n := l.length - g.length + j) (r := 0) (l := addAt (-a) (g.take j) (l.length - g.length) l) (z := a * g.getD j 0) (z' := (addAt (-a) (g.take j) (l.length - g.length) l).getD (l.length - g.length + j) 0 + -a * g.getD j 0) (h' := [.lst (iD ((addAt (-a) (g.take j) (l.length - g.length) l).set (l.length - g.length + j) ((addAt (-a) (g.take j) (l.length - g.length) l).getD (l.length - g.length + j) 0 + -a * g.getD j 0))), .lst (iD o)]) rfl rfl rfl ?_ (by rw [addAt_len]; omega) ?_ ?_, _, rfl, ?_⟩
      · refine e_bin (e_bin (len_ref (r := 0) rfl rfl) (len_tup rfl) p_sub) rfl ?_
        rw [addAt_len]
        show R.ok (D.int ((l.length : Int) - g.length + j)) _ = _
        rw [show ((l.length : Int) - g.length + j) = ((l.length - g.length + j : Nat) : Int) by omega]
      · exact e_bin rfl (ix_tup rfl rfl hj) (p_mul (mul_small (hg _ (get_mem hj))))
      · refine p_sub.trans ?_
        rw [show (addAt (-a) (g.take j) (l.length - g.length) l).getD (l.length - g.length + j) 0 - a * g.getD j 0 = (addAt (-a) (g.take j) (l.length - g.length) l).getD (l.length - g.length + j) 0 + -a * g.getD j 0 by rw [Int.neg_mul]; omega]
      · rw [addAt_step (-a) g j hj _ l (by omega)])
    (fun env h _ => rng_stop) (g.length + 1) 0 [some (.tup (iD f)), some (.tup (iD g)), some (.ref 0), some (.ref 1), some (.int a), x5] [.lst (iD l), .lst (iD o)] (by omega) (by omega) ⟨x5, rfl, by rw [List.take_zero, addAt_nil]⟩
  refine ⟨x5', ?_⟩
  rw [List.take_length] at e
  exact e
theorem exact_ok {f g : List Int} {h : Hh} (hg : small g) (hg0 : g ≠ []) (hl : f.length + g.length ≤ 1000) : fnP 2 6 mExact [.tup (iD f), .tup (iD g)] h = .ok (.tup (iD (exI f g))) h := by
  have hgp : 0 < g.length := List.length_pos_iff.mpr hg0
  have key : ∃ h', fin (mExact (startE 6 [.tup (iD f), .tup (iD g)]) []) = .ok (.tup (iD (exI f g))) h' := by
    show ∃ h', fin (mExact [some (.tup (iD f)), some (.tup (iD g)), none, none, none, none] []) = _
    have e1 : mPar [2, 3] (mCons (mCall pList (mCons (mV 0) mNil)) (mCons (mLst mNil) mNil)) [some (.tup (iD f)), some (.tup (iD g)), none, none, none, none] [] = .nx [some (.tup (iD f)), some (.tup (iD g)), some (.ref 0), some (.ref 1), none, none] [.lst (iD f), .lst []] := rfl
    unfold mExact
    rw [e_seq e1]
    obtain ⟨env', h', e, x4, x5, rfl, rfl⟩ := goW_inv (c := mBin pGe (mCall pLen (mCons (mV 2) mNil)) (mCall pLen (mCons (mV 1) mNil))) (b := mSeq (mSet 4 (mBin pIx (mV 2) (mUn pNeg (mC (.int 1)))))
        (mSeq (mDo (mMtL pAppend (mV 3) (mCons (mV 4) mNil)))
        (mSeq (mFor (mRng1 (mCons (mCall pLen (mCons (mV 1) mNil)) mNil)) (bN 5) (mAugS (mV 2) (mBin pAdd (mBin pSub (mCall pLen (mCons (mV 2) mNil)) (mCall pLen (mCons (mV 1) mNil))) (mV 5)) pSub (mBin pMul (mV 4) (mBin pIx (mV 1) (mV 5)))))
        (mDo (mMtL pPop (mV 2) mNil))))) (n := f.length + 1 - g.length)
      (Inv := fun i env h => ∃ x4 x5, env = [some (.tup (iD f)), some (.tup (iD g)), some (.ref 0), some (.ref 1), x4, x5] ∧ h = [.lst (iD (exSt g f i).1), .lst (iD (exSt g f i).2)])
      (fun i env h hi ⟨y4, y5, e1, e2⟩ => by
        subst e1; subst e2
        obtain ⟨l1, l2⟩ := exSt_len g f i
        have hne : (exSt g f i).1 ≠ [] := fun z => by rw [z] at l1; simp at l1; omega
        refine ⟨e_bin (len_ref (r := 0) rfl rfl) (len_tup rfl) (p_ge.trans (by rw [l1, decide_eq_true (by omega)])), ?_⟩
        have s1 : mSet 4 (mBin pIx (mV 2) (mUn pNeg (mC (.int 1)))) [some (.tup (iD f)), some (.tup (iD g)), some (.ref 0), some (.ref 1), y4, y5] [.lst (iD (exSt g f i).1), .lst (iD (exSt g f i).2)] = .nx [some (.tup (iD f)), some (.tup (iD g)), some (.ref 0), some (.ref 1), some (.int ((exSt g f i).1.getLast hne)), y5] [.lst (iD (exSt g f i).1), .lst (iD (exSt g f i).2)] :=
          e_set (ix_last (r := 0) rfl rfl hne)
        have s2 : mDo (mMtL pAppend (mV 3) (mCons (mV 4) mNil)) [some (.tup (iD f)), some (.tup (iD g)), some (.ref 0), some (.ref 1), some (.int ((exSt g f i).1.getLast hne)), y5] [.lst (iD (exSt g f i).1), .lst (iD (exSt g f i).2)] = .nx [some (.tup (iD f)), some (.tup (iD g)), some (.ref 0), some (.ref 1), some (.int ((exSt g f i).1.getLast hne)), y5] [.lst (iD (exSt g f i).1), .lst (iD ((exSt g f i).2 ++ [(exSt g f i).1.getLast hne]))] :=
          append_ok (r := 1) rfl rfl rfl (by rw [l2]; show i < 16777216; omega) rfl
        obtain ⟨z5, s3⟩ := exact_inner (f := f) (g := g) (l := (exSt g f i).1) (o := (exSt g f i).2 ++ [(exSt g f i).1.getLast hne]) (a := (exSt g f i).1.getLast hne) (x5 := y5) hg (by omega) (by rw [l1]; omega)
        have hne2 : addAt (-((exSt g f i).1.getLast hne)) g ((exSt g f i).1.length - g.length) (exSt g f i).1 ≠ [] := fun z => by
          have := addAt_len (-((exSt g f i).1.getLast hne)) g ((exSt g f i).1.length - g.length) (exSt g f i).1
          rw [z, l1] at this
          simp at this
          omega
        have s4 := pop_ok (env := [some (.tup (iD f)), some (.tup (iD g)), some (.ref 0), some (.ref 1), some (.int ((exSt g f i).1.getLast hne)), z5]) (h := [.lst (iD (addAt (-((exSt g f i).1.getLast hne)) g ((exSt g f i).1.length - g.length) (exSt g f i).1)), .lst (iD ((exSt g f i).2 ++ [(exSt g f i).1.getLast hne]))]) (i := 2) (r := 0) rfl rfl hne2 rfl
        refine ⟨_, _, (e_seq s1).trans ((e_seq s2).trans ((e_seq s3).trans s4)), _, _, rfl, ?_⟩
        have el : (exSt g f i).1.getLast hne = (exSt g f i).1.getLastD 0 := by
          rw [List.getLastD_eq_getLast?, List.getLast?_eq_getLast hne]
          rfl
        rw [el]
        rfl)
      (fun env h ⟨y4, y5, e1, e2⟩ => by
        subst e1; subst e2
        obtain ⟨l1, l2⟩ := exSt_len g f (f.length + 1 - g.length)
        exact e_bin (len_ref (r := 0) rfl rfl) (len_tup rfl) (p_ge.trans (by rw [l1, decide_eq_false (by omega)])))
      1000000 0 [some (.tup (iD f)), some (.tup (iD g)), some (.ref 0), some (.ref 1), none, none] [.lst (iD f), .lst []] (by omega) (by omega) ⟨none, none, rfl, rfl⟩
    refine ⟨[.lst (iD (exSt g f (f.length + 1 - g.length)).1), .lst (iD (exSt g f (f.length + 1 - g.length)).2), .lst (iD (exSt g f (f.length + 1 - g.length)).2).reverse], ?_⟩
    rw [e_seq (m1 := mWhile 1000000 _ _) e]
    show R.ok (D.tup (iD (exSt g f (f.length + 1 - g.length)).2).reverse) _ = _
    unfold exI
    rw [← List.map_reverse]
    rfl
  obtain ⟨h', e⟩ := key
  exact fnP_ok rfl (by show (D.rf (.tup (iD f)) && (D.rf (.tup (iD g)) && true)) = true; rw [rf_tup, rf_tup]; rfl) e (rf_tup _)
/-! ## the law's own sums and products -/
def mStripW : SM := mWhile 1000000 (mAnd (mUn pTru (mV 2)) (mBin pEq (mBin pIx (mV 2) (mUn pNeg (mC (.int 1)))) (mC (.int 0)))) (mDo (mMtL pPop (mV 2) mNil))
def mTimes : SM :=
  (mSeq (mSet 2 (mBin pMul (mLst (mCons (mC (.int 0)) mNil)) (mBin pAdd (mCall pLen (mCons (mV 0) mNil)) (mCall pLen (mCons (mV 1) mNil)))))
  (mSeq (mFor (mRng1 (mCons (mCall pLen (mCons (mV 0) mNil)) mNil)) (bN 3) (mFor (mRng1 (mCons (mCall pLen (mCons (mV 1) mNil)) mNil)) (bN 4) (mPutS (mV 2) (mBin pAdd (mV 3) (mV 4)) (mBin pAdd (mBin pIx (mV 2) (mBin pAdd (mV 3) (mV 4))) (mBin pMul (mBin pIx (mV 0) (mV 3)) (mBin pIx (mV 1) (mV 4)))))))
  (mSeq mStripW
  (mRet (mCall pTuple (mCons (mV 2) mNil))))))
def mSum2 : SM :=
  (mSeq (mSet 2 (mBin pMul (mLst (mCons (mC (.int 0)) mNil)) (mCall pMax (mCons (mCall pLen (mCons (mV 0) mNil)) (mCons (mCall pLen (mCons (mV 1) mNil)) mNil)))))
  (mSeq (mFor (mRng1 (mCons (mCall pLen (mCons (mV 0) mNil)) mNil)) (bN 3) (mPutS (mV 2) (mV 3) (mBin pAdd (mBin pIx (mV 2) (mV 3)) (mBin pIx (mV 0) (mV 3)))))
  (mSeq (mFor (mRng1 (mCons (mCall pLen (mCons (mV 1) mNil)) mNil)) (bN 3) (mPutS (mV 2) (mV 3) (mBin pAdd (mBin pIx (mV 2) (mV 3)) (mBin pIx (mV 1) (mV 3)))))
  (mSeq mStripW
  (mRet (mCall pTuple (mCons (mV 2) mNil)))))))
/-- without the noughts at the end -/
def stripR : List Int → List Int
  | [] => []
  | 0 :: l => stripR l
  | a :: l => a :: l
def strip (l : List Int) : List Int := (stripR l.reverse).reverse
def noughts : List Int → Nat
  | [] => 0
  | a :: l => if a = 0 then noughts l + 1 else 0
theorem noughts_le : ∀ l, noughts l ≤ l.length
  | [] => Nat.le_refl _
  | a :: l => by
    unfold noughts
    have := noughts_le l
    split <;> simp <;> omega
theorem noughts_get : ∀ (l : List Int) (i : Nat), i < noughts l → l.getD i 0 = 0
  | [], i, h => by simp [noughts] at h
  | a :: l, i, h => by
    unfold noughts at h
    split at h
    · cases i with
      | zero => simpa
      | succ i => exact noughts_get l i (by omega)
    · omega
theorem noughts_end : ∀ (l : List Int), noughts l < l.length → l.getD (noughts l) 0 ≠ 0
  | [], h => by simp at h
  | a :: l, h => by
    unfold noughts at h ⊢
    by_cases z : a = 0
    · rw [if_pos z] at h ⊢
      exact noughts_end l (by simpa using h)
    · rw [if_neg z] at h ⊢
      simpa using z
theorem stripR_drop : ∀ l, stripR l = l.drop (noughts l)
  | [] => rfl
  | a :: l => by
    unfold noughts
    by_cases z : a = 0
    · subst z
      rw [if_pos rfl]
      exact stripR_drop l
    · rw [if_neg z]
      unfold stripR
      split
      · rename_i e; cases e
      · rename_i e; cases e; exact absurd rfl z
      · rename_i e; cases e; rfl
theorem rev_last {l : List Int} {i : Nat} (hi : i < l.length) (h : l.take (l.length - i) ≠ []) : (l.take (l.length - i)).getLast h = l.reverse.getD i 0 := by
  rw [List.getLast_eq_getElem, List.getD_eq_getElem?_getD, List.getElem?_reverse hi]
  simp only [List.length_take, List.getElem_take]
  rw [List.getElem?_eq_getElem (by omega)]
  simp only [Option.getD_some]
  congr 1
  omega
theorem strip_ok {a b : D} {x3 x4 : List (Option D)} {l : List Int} (hl : l.length < 1000000) : mStripW (some a :: some b :: some (.ref 1) :: x3) (hq (.lst [.int 0]) l) = .nx (some a :: some b :: some (.ref 1) :: x3) (hq (.lst [.int 0]) (strip l)) := by
  have hn := noughts_le l.reverse
  rw [List.length_reverse] at hn
  have cond : ∀ m : List Int, mAnd (mUn pTru (mV 2)) (mBin pEq (mBin pIx (mV 2) (mUn pNeg (mC (.int 1)))) (mC (.int 0))) (some a :: some b :: some (.ref 1) :: x3) (hq (.lst [.int 0]) m) = .ok (.bl (if h : m = [] then false else m.getLast h == 0)) (hq (.lst [.int 0]) m) := fun m => by
    have t1 : mUn pTru (mV 2) (some a :: some b :: some (.ref 1) :: x3) (hq (.lst [.int 0]) m) = .ok (.bl (!m.isEmpty)) (hq (.lst [.int 0]) m) := by
      cases m <;> rfl
    rw [e_and t1]
    by_cases hm : m = []
    · subst hm
      rfl
    · rw [if_pos (by cases m with | nil => exact absurd rfl hm | cons a m => rfl), dif_neg hm]
      exact e_bin (ix_last (r := 1) rfl rfl hm) rfl rfl
  obtain ⟨env', h', e, e1, e2⟩ := goW_inv (c := mAnd (mUn pTru (mV 2)) (mBin pEq (mBin pIx (mV 2) (mUn pNeg (mC (.int 1)))) (mC (.int 0)))) (b := mDo (mMtL pPop (mV 2) mNil)) (n := noughts l.reverse)
    (Inv := fun i env h => env = some a :: some b :: some (.ref 1) :: x3 ∧ h = hq (.lst [.int 0]) (l.take (l.length - i)))
    (fun i env h hi ⟨e1, e2⟩ => by
      subst e1; subst e2
      have hne : l.take (l.length - i) ≠ [] := fun z => by
        have := congrArg List.length z
        rw [List.length_take] at this
        simp at this
        omega
      refine ⟨?_, _, _, pop_ok (r := 1) rfl rfl hne rfl, rfl, ?_⟩
      · rw [cond, dif_neg hne, rev_last (by omega) hne, noughts_get _ _ hi]
        rfl
      · rw [List.dropLast_eq_take, List.length_take, List.take_take]
        rw [show min (min (l.length - i) l.length - 1) (l.length - i) = l.length - (i + 1) by omega]
        rfl)
    (fun env h ⟨e1, e2⟩ => by
      subst e1; subst e2
      rw [cond]
      by_cases hne : l.take (l.length - noughts l.reverse) = []
      · rw [dif_pos hne]
      · rw [dif_neg hne, rev_last (by
          have : (l.take (l.length - noughts l.reverse)).length ≠ 0 := fun z => hne (List.eq_nil_of_length_eq_zero z)
          rw [List.length_take] at this
          omega) hne]
        have := noughts_end l.reverse (by
          have : (l.take (l.length - noughts l.reverse)).length ≠ 0 := fun z => hne (List.eq_nil_of_length_eq_zero z)
          rw [List.length_take] at this
          rw [List.length_reverse]
          omega)
        rw [beq_eq_false_iff_ne.mpr this])
    1000000 0 (some a :: some b :: some (.ref 1) :: x3) (hq (.lst [.int 0]) l) (by omega) (by omega) ⟨rfl, by rw [Nat.sub_zero, List.take_length]⟩
  subst e1; subst e2
  have es : strip l = l.take (l.length - noughts l.reverse) := by
    unfold strip
    rw [stripR_drop, List.reverse_drop, List.reverse_reverse, List.length_reverse]
  rw [es]
  exact e
def timesI (f g : List Int) : List Int := strip (rows g f 0 (List.replicate (f.length + g.length) 0))
theorem times_inner {f g l : List Int} {k : Nat} {x4 : Option D} (hg : small g) (hgl : g.length < 1000) (hk : k + g.length ≤ l.length) (hkf : k < f.length) : ∃ x4', mFor (mRng1 (mCons (mCall pLen (mCons (mV 1) mNil)) mNil)) (bN 4) (mPutS (mV 2) (mBin pAdd (mV 3) (mV 4)) (mBin pAdd (mBin pIx (mV 2) (mBin pAdd (mV 3) (mV 4))) (mBin pMul (mBin pIx (mV 0) (mV 3)) (mBin pIx (mV 1) (mV 4)))))
    [some (.tup (iD f)), some (.tup (iD g)), some (.ref 1), some (.int (k : Int)), x4] (hq (.lst [.int 0]) l) = .nx [some (.tup (iD f)), some (.tup (iD g)), some (.ref 1), some (.int (k : Int)), x4'] (hq (.lst [.int 0]) (addAt (f.getD k 0) g k l)) := by
  rw [for_rng (len_tup rfl) (by omega)]
  obtain ⟨env', h', e, x4', rfl, rfl⟩ := goF_inv (pl := plR 0 1 g.length) (b := bN 4) (m := mPutS (mV 2) (mBin pAdd (mV 3) (mV 4)) (mBin pAdd (mBin pIx (mV 2) (mBin pAdd (mV 3) (mV 4))) (mBin pMul (mBin pIx (mV 0) (mV 3)) (mBin pIx (mV 1) (mV 4))))) (n := g.length)
    (Inv := fun j env h => ∃ x4, env = [some (.tup (iD f)), some (.tup (iD g)), some (.ref 1), some (.int (k : Int)), x4] ∧ h = hq (.lst [.int 0]) (addAt (f.getD k 0) (g.take j) k l))
    (fun j env h hj ⟨y4, e1, e2⟩ => by
      subst e1; subst e2
      refine ⟨_, _, _, _, _, rng_item hj, rfl, putS_gen (n := k + j) (r := 1) (l := addAt (f.getD k 0) (g.take j) k l) (z := (addAt (f.getD k 0) (g.take j) k l).getD (k + j) 0 + f.getD k 0 * g.getD j 0) rfl rfl rfl (e_bin rfl rfl rfl) (by rw [addAt_len]; omega) ?_, _, rfl, ?_⟩
      · exact e_bin (ix_ref (r := 1) (n := k + j) rfl rfl (e_bin rfl rfl rfl) (by rw [addAt_len]; omega)) (e_bin (ix_tup rfl rfl hkf) (ix_tup rfl rfl hj) (p_mul (mul_small (hg _ (get_mem hj))))) p_add
      · show [Ob.lst [D.int 0], _] = _
        rw [addAt_step (f.getD k 0) g j hj k l (by omega)]
        rfl)
    (fun env h _ => rng_stop) (g.length + 1) 0 [some (.tup (iD f)), some (.tup (iD g)), some (.ref 1), some (.int (k : Int)), x4] (hq (.lst [.int 0]) l) (by omega) (by omega) ⟨x4, rfl, by rw [List.take_zero, addAt_nil]⟩
  refine ⟨x4', ?_⟩
  rw [List.take_length] at e
  exact e
theorem times_ok {f g : List Int} {h : Hh} (hg : small g) (hl : f.length + g.length ≤ 999) : fnP 2 5 mTimes [.tup (iD f), .tup (iD g)] h = .ok (.tup (iD (timesI f g))) h := by
  have key : ∃ h', fin (mTimes (startE 5 [.tup (iD f), .tup (iD g)]) []) = .ok (.tup (iD (timesI f g))) h' := by
    show ∃ h', fin (mTimes [some (.tup (iD f)), some (.tup (iD g)), none, none, none] []) = _
    unfold mTimes
    have e2 : mSet 2 (mBin pMul (mLst (mCons (mC (.int 0)) mNil)) (mBin pAdd (mCall pLen (mCons (mV 0) mNil)) (mCall pLen (mCons (mV 1) mNil)))) [some (.tup (iD f)), some (.tup (iD g)), none, none, none] [] = .nx [some (.tup (iD f)), some (.tup (iD g)), some (.ref 1), none, none] (hq (.lst [.int 0]) (List.replicate (f.length + g.length) 0)) :=
      e_set (e_bin2 (h1 := [.lst [.int 0]]) (dy := .int ((f.length + g.length : Nat) : Int)) rfl (e_bin (len_tup rfl) (len_tup rfl) (p_add.trans (by rw [Int.natCast_add]))) (mul_zeros (by omega)))
    rw [e_seq e2]
    have e3 : ∃ x3 x4, mFor (mRng1 (mCons (mCall pLen (mCons (mV 0) mNil)) mNil)) (bN 3) (mFor (mRng1 (mCons (mCall pLen (mCons (mV 1) mNil)) mNil)) (bN 4) (mPutS (mV 2) (mBin pAdd (mV 3) (mV 4)) (mBin pAdd (mBin pIx (mV 2) (mBin pAdd (mV 3) (mV 4))) (mBin pMul (mBin pIx (mV 0) (mV 3)) (mBin pIx (mV 1) (mV 4))))))
        [some (.tup (iD f)), some (.tup (iD g)), some (.ref 1), none, none] (hq (.lst [.int 0]) (List.replicate (f.length + g.length) 0)) = .nx [some (.tup (iD f)), some (.tup (iD g)), some (.ref 1), x3, x4] (hq (.lst [.int 0]) (rows g f 0 (List.replicate (f.length + g.length) 0))) := by
      rw [for_rng (len_tup rfl) (by omega)]
      obtain ⟨env', h', e, x3, x4, rfl, rfl⟩ := goF_inv (pl := plR 0 1 f.length) (b := bN 3) (m := mFor (mRng1 (mCons (mCall pLen (mCons (mV 1) mNil)) mNil)) (bN 4) (mPutS (mV 2) (mBin pAdd (mV 3) (mV 4)) (mBin pAdd (mBin pIx (mV 2) (mBin pAdd (mV 3) (mV 4))) (mBin pMul (mBin pIx (mV 0) (mV 3)) (mBin pIx (mV 1) (mV 4)))))) (n := f.length)
        (Inv := fun j env h => ∃ x3 x4, env = [some (.tup (iD f)), some (.tup (iD g)), some (.ref 1), x3, x4] ∧ h = hq (.lst [.int 0]) (rows g (f.take j) 0 (List.replicate (f.length + g.length) 0)))
        (fun j env h hj ⟨y3, y4, e1, e2⟩ => by
          subst e1; subst e2
          obtain ⟨z4, e⟩ := times_inner (f := f) (g := g) (l := rows g (f.take j) 0 (List.replicate (f.length + g.length) 0)) (k := j) (x4 := y4) hg (by omega) (by rw [rows_len, List.length_replicate]; omega) hj
          refine ⟨_, _, _, _, _, rng_item hj, rfl, e, _, _, rfl, ?_⟩
          have := rows_snoc g f j hj 0 (List.replicate (f.length + g.length) 0)
          rw [Nat.zero_add] at this
          rw [this])
        (fun env h _ => rng_stop) (f.length + 1) 0 [some (.tup (iD f)), some (.tup (iD g)), some (.ref 1), none, none] (hq (.lst [.int 0]) (List.replicate (f.length + g.length) 0)) (by omega) (by omega) ⟨none, none, rfl, rfl⟩
      refine ⟨x3, x4, ?_⟩
      rw [List.take_length] at e
      exact e
    obtain ⟨x3, x4, e3⟩ := e3
    rw [e_seq e3, e_seq (strip_ok (x3 := [x3, x4]) (x4 := []) (by rw [rows_len, List.length_replicate]; omega))]
    exact ⟨_, rfl⟩
  obtain ⟨h', e⟩ := key
  exact fnP_ok rfl (by show (D.rf (.tup (iD f)) && (D.rf (.tup (iD g)) && true)) = true; rw [rf_tup, rf_tup]; rfl) e (rf_tup _)
def sumI (f g : List Int) : List Int := strip (add0 1 (add0 1 (List.replicate (max f.length g.length) 0) f) g)
theorem sum_loop {f g u l : List Int} {i : Nat} {x3 : Option D} (hu : [some (D.tup (iD f)), some (.tup (iD g))][i]? = some (some (.tup (iD u)))) (hul : u.length < 1000) (hk : u.length ≤ l.length) : ∃ x3', mFor (mRng1 (mCons (mCall pLen (mCons (mV i) mNil)) mNil)) (bN 3) (mPutS (mV 2) (mV 3) (mBin pAdd (mBin pIx (mV 2) (mV 3)) (mBin pIx (mV i) (mV 3))))
    [some (.tup (iD f)), some (.tup (iD g)), some (.ref 1), x3] (hq (.lst [.int 0]) l) = .nx [some (.tup (iD f)), some (.tup (iD g)), some (.ref 1), x3'] (hq (.lst [.int 0]) (add0 1 l u)) := by
  have hi : ∀ y, [some (D.tup (iD f)), some (.tup (iD g)), some (.ref 1), y][i]? = some (some (.tup (iD u))) := fun y => by
    match i, hu with
    | 0, hu => exact hu
    | 1, hu => exact hu
    | i + 2, hu => simp at hu
  rw [for_rng (len_tup (hi _)) (by omega)]
  obtain ⟨env', h', e, x3', rfl, rfl⟩ := goF_inv (pl := plR 0 1 u.length) (b := bN 3) (m := mPutS (mV 2) (mV 3) (mBin pAdd (mBin pIx (mV 2) (mV 3)) (mBin pIx (mV i) (mV 3)))) (n := u.length)
    (Inv := fun j env h => ∃ x3, env = [some (.tup (iD f)), some (.tup (iD g)), some (.ref 1), x3] ∧ h = hq (.lst [.int 0]) (addAt 1 (u.take j) 0 l))
    (fun j env h hj ⟨y3, e1, e2⟩ => by
      subst e1; subst e2
      refine ⟨_, _, _, _, _, rng_item hj, rfl, putS_gen (n := j) (r := 1) (l := addAt 1 (u.take j) 0 l) (z := (addAt 1 (u.take j) 0 l).getD j 0 + u.getD j 0) rfl rfl rfl rfl (by rw [addAt_len]; omega) (e_bin (ix_ref (r := 1) (n := j) rfl rfl rfl (by rw [addAt_len]; omega)) (ix_tup (hi _) rfl hj) p_add), _, rfl, ?_⟩
      have st := addAt_step 1 u j hj 0 l (by omega)
      rw [Nat.zero_add, Int.one_mul] at st
      show [Ob.lst [D.int 0], _] = _
      rw [st]
      rfl)
    (fun env h _ => rng_stop) (u.length + 1) 0 [some (.tup (iD f)), some (.tup (iD g)), some (.ref 1), x3] (hq (.lst [.int 0]) l) (by omega) (by omega) ⟨x3, rfl, by rw [List.take_zero, addAt_nil]⟩
  refine ⟨x3', ?_⟩
  rw [List.take_length] at e
  exact e
theorem sum_ok {f g : List Int} {h : Hh} (hl : f.length + g.length ≤ 999) : fnP 2 4 mSum2 [.tup (iD f), .tup (iD g)] h = .ok (.tup (iD (sumI f g))) h := by
  have key : ∃ h', fin (mSum2 (startE 4 [.tup (iD f), .tup (iD g)]) []) = .ok (.tup (iD (sumI f g))) h' := by
    show ∃ h', fin (mSum2 [some (.tup (iD f)), some (.tup (iD g)), none, none] []) = _
    unfold mSum2
    have em : mCall pMax (mCons (mCall pLen (mCons (mV 0) mNil)) (mCons (mCall pLen (mCons (mV 1) mNil)) mNil)) [some (.tup (iD f)), some (.tup (iD g)), none, none] [.lst [.int 0]] = .ok (.int ((max f.length g.length : Nat) : Int)) [.lst [.int 0]] := by
      show R.bind (mCons (mCall pLen (mCons (mV 0) mNil)) (mCons (mCall pLen (mCons (mV 1) mNil)) mNil) [some (.tup (iD f)), some (.tup (iD g)), none, none] [.lst [.int 0]]) (fun ds h => pMax ds h) = _
      unfold mCons
      rw [show mCall pLen (fun env h => (mV 0 env h).bind fun d h1 => (mNil env h1).bind fun ds h2 => R.ok (d :: ds) h2) [some (.tup (iD f)), some (.tup (iD g)), none, none] [.lst [.int 0]] = R.ok (.int (f.length : Int)) [.lst [.int 0]] from len_tup (i := 0) rfl]
      dsimp only [R.bind]
      rw [show mCall pLen (fun env h => (mV 1 env h).bind fun d h1 => (mNil env h1).bind fun ds h2 => R.ok (d :: ds) h2) [some (.tup (iD f)), some (.tup (iD g)), none, none] [.lst [.int 0]] = R.ok (.int (g.length : Int)) [.lst [.int 0]] from len_tup (i := 1) rfl]
      show R.ok (D.int (if (g.length : Int) > (f.length : Int) then (g.length : Int) else (f.length : Int))) _ = _
      congr 2
      split <;> omega
    have e2 : mSet 2 (mBin pMul (mLst (mCons (mC (.int 0)) mNil)) (mCall pMax (mCons (mCall pLen (mCons (mV 0) mNil)) (mCons (mCall pLen (mCons (mV 1) mNil)) mNil)))) [some (.tup (iD f)), some (.tup (iD g)), none, none] [] = .nx [some (.tup (iD f)), some (.tup (iD g)), some (.ref 1), none] (hq (.lst [.int 0]) (List.replicate (max f.length g.length) 0)) :=
      e_set (e_bin2 (h1 := [.lst [.int 0]]) rfl em (mul_zeros (by omega)))
    rw [e_seq e2]
    obtain ⟨y3, e3⟩ := sum_loop (f := f) (g := g) (u := f) (l := List.replicate (max f.length g.length) 0) (i := 0) (x3 := none) rfl (by omega) (by rw [List.length_replicate]; omega)
    obtain ⟨y4, e4⟩ := sum_loop (f := f) (g := g) (u := g) (l := add0 1 (List.replicate (max f.length g.length) 0) f) (i := 1) (x3 := y3) rfl (by omega) (by rw [add0_len, List.length_replicate]; omega)
    rw [e_seq e3, e_seq e4, e_seq (strip_ok (x3 := [y4]) (x4 := []) (by rw [add0_len, add0_len, List.length_replicate]; omega))]
    exact ⟨_, rfl⟩
  obtain ⟨h', e⟩ := key
  exact fnP_ok rfl (by show (D.rf (.tup (iD f)) && (D.rf (.tup (iD g)) && true)) = true; rw [rf_tup, rf_tup]; rfl) e (rf_tup _)
end CB

set_option maxRecDepth 100000
set_option maxHeartbeats 1000000
namespace CB
open PySem PySem.Spec
open L2
/-- the polynomial of (d + j choose j), at [d][j] -/
def qT : List (List (List Int)) := [
[[1], [1], [1], [1], [1], [1], [1], [1], [1], [1], [1], [1], [1], [1], [1], [1], [1], [1], [1], [1], [1], [1], [1], [1], [1]],
[[1], [1, 1], [1, 1, 1], [1, 1, 1, 1], [1, 1, 1, 1, 1], [1, 1, 1, 1, 1, 1], [1, 1, 1, 1, 1, 1, 1], [1, 1, 1, 1, 1, 1, 1, 1], [1, 1, 1, 1, 1, 1, 1, 1, 1], [1, 1, 1, 1, 1, 1, 1, 1, 1, 1], [1, 1, 1, 1, 1, 1, 1, 1, 1, 1, 1], [1, 1, 1, 1, 1, 1, 1, 1, 1, 1, 1, 1], [1, 1, 1, 1, 1, 1, 1, 1, 1, 1, 1, 1, 1], [1, 1, 1, 1, 1, 1, 1, 1, 1, 1, 1, 1, 1, 1], [1, 1, 1, 1, 1, 1, 1, 1, 1, 1, 1, 1, 1, 1, 1], [1, 1, 1, 1, 1, 1, 1, 1, 1, 1, 1, 1, 1, 1, 1, 1], [1, 1, 1, 1, 1, 1, 1, 1, 1, 1, 1, 1, 1, 1, 1, 1, 1], [1, 1, 1, 1, 1, 1, 1, 1, 1, 1, 1, 1, 1, 1, 1, 1, 1, 1], [1, 1, 1, 1, 1, 1, 1, 1, 1, 1, 1, 1, 1, 1, 1, 1, 1, 1, 1], [1, 1, 1, 1, 1, 1, 1, 1, 1, 1, 1, 1, 1, 1, 1, 1, 1, 1, 1, 1], [1, 1, 1, 1, 1, 1, 1, 1, 1, 1, 1, 1, 1, 1, 1, 1, 1, 1, 1, 1, 1], [1, 1, 1, 1, 1, 1, 1, 1, 1, 1, 1, 1, 1, 1, 1, 1, 1, 1, 1, 1, 1, 1], [1, 1, 1, 1, 1, 1, 1, 1, 1, 1, 1, 1, 1, 1, 1, 1, 1, 1, 1, 1, 1, 1, 1], [1, 1, 1, 1, 1, 1, 1, 1, 1, 1, 1, 1, 1, 1, 1, 1, 1, 1, 1, 1, 1, 1, 1, 1]],
[[1], [1, 1, 1], [1, 1, 2, 1, 1], [1, 1, 2, 2, 2, 1, 1], [1, 1, 2, 2, 3, 2, 2, 1, 1], [1, 1, 2, 2, 3, 3, 3, 2, 2, 1, 1], [1, 1, 2, 2, 3, 3, 4, 3, 3, 2, 2, 1, 1], [1, 1, 2, 2, 3, 3, 4, 4, 4, 3, 3, 2, 2, 1, 1], [1, 1, 2, 2, 3, 3, 4, 4, 5, 4, 4, 3, 3, 2, 2, 1, 1], [1, 1, 2, 2, 3, 3, 4, 4, 5, 5, 5, 4, 4, 3, 3, 2, 2, 1, 1], [1, 1, 2, 2, 3, 3, 4, 4, 5, 5, 6, 5, 5, 4, 4, 3, 3, 2, 2, 1, 1], [1, 1, 2, 2, 3, 3, 4, 4, 5, 5, 6, 6, 6, 5, 5, 4, 4, 3, 3, 2, 2, 1, 1], [1, 1, 2, 2, 3, 3, 4, 4, 5, 5, 6, 6, 7, 6, 6, 5, 5, 4, 4, 3, 3, 2, 2, 1, 1], [1, 1, 2, 2, 3, 3, 4, 4, 5, 5, 6, 6, 7, 7, 7, 6, 6, 5, 5, 4, 4, 3, 3, 2, 2, 1, 1], [1, 1, 2, 2, 3, 3, 4, 4, 5, 5, 6, 6, 7, 7, 8, 7, 7, 6, 6, 5, 5, 4, 4, 3, 3, 2, 2, 1, 1], [1, 1, 2, 2, 3, 3, 4, 4, 5, 5, 6, 6, 7, 7, 8, 8, 8, 7, 7, 6, 6, 5, 5, 4, 4, 3, 3, 2, 2, 1, 1], [1, 1, 2, 2, 3, 3, 4, 4, 5, 5, 6, 6, 7, 7, 8, 8, 9, 8, 8, 7, 7, 6, 6, 5, 5, 4, 4, 3, 3, 2, 2, 1, 1], [1, 1, 2, 2, 3, 3, 4, 4, 5, 5, 6, 6, 7, 7, 8, 8, 9, 9, 9, 8, 8, 7, 7, 6, 6, 5, 5, 4, 4, 3, 3, 2, 2, 1, 1], [1, 1, 2, 2, 3, 3, 4, 4, 5, 5, 6, 6, 7, 7, 8, 8, 9, 9, 10, 9, 9, 8, 8, 7, 7, 6, 6, 5, 5, 4, 4, 3, 3, 2, 2, 1, 1], [1, 1, 2, 2, 3, 3, 4, 4, 5, 5, 6, 6, 7, 7, 8, 8, 9, 9, 10, 10, 10, 9, 9, 8, 8, 7, 7, 6, 6, 5, 5, 4, 4, 3, 3, 2, 2, 1, 1], [1, 1, 2, 2, 3, 3, 4, 4, 5, 5, 6, 6, 7, 7, 8, 8, 9, 9, 10, 10, 11, 10, 10, 9, 9, 8, 8, 7, 7, 6, 6, 5, 5, 4, 4, 3, 3, 2, 2, 1, 1], [1, 1, 2, 2, 3, 3, 4, 4, 5, 5, 6, 6, 7, 7, 8, 8, 9, 9, 10, 10, 11, 11, 11, 10, 10, 9, 9, 8, 8, 7, 7, 6, 6, 5, 5, 4, 4, 3, 3, 2, 2, 1, 1], [1, 1, 2, 2, 3, 3, 4, 4, 5, 5, 6, 6, 7, 7, 8, 8, 9, 9, 10, 10, 11, 11, 12, 11, 11, 10, 10, 9, 9, 8, 8, 7, 7, 6, 6, 5, 5, 4, 4, 3, 3, 2, 2, 1, 1]],
[[1], [1, 1, 1, 1], [1, 1, 2, 2, 2, 1, 1], [1, 1, 2, 3, 3, 3, 3, 2, 1, 1], [1, 1, 2, 3, 4, 4, 5, 4, 4, 3, 2, 1, 1], [1, 1, 2, 3, 4, 5, 6, 6, 6, 6, 5, 4, 3, 2, 1, 1], [1, 1, 2, 3, 4, 5, 7, 7, 8, 8, 8, 7, 7, 5, 4, 3, 2, 1, 1], [1, 1, 2, 3, 4, 5, 7, 8, 9, 10, 10, 10, 10, 9, 8, 7, 5, 4, 3, 2, 1, 1], [1, 1, 2, 3, 4, 5, 7, 8, 10, 11, 12, 12, 13, 12, 12, 11, 10, 8, 7, 5, 4, 3, 2, 1, 1], [1, 1, 2, 3, 4, 5, 7, 8, 10, 12, 13, 14, 15, 15, 15, 15, 14, 13, 12, 10, 8, 7, 5, 4, 3, 2, 1, 1], [1, 1, 2, 3, 4, 5, 7, 8, 10, 12, 14, 15, 17, 17, 18, 18, 18, 17, 17, 15, 14, 12, 10, 8, 7, 5, 4, 3, 2, 1, 1], [1, 1, 2, 3, 4, 5, 7, 8, 10, 12, 14, 16, 18, 19, 20, 21, 21, 21, 21, 20, 19, 18, 16, 14, 12, 10, 8, 7, 5, 4, 3, 2, 1, 1], [1, 1, 2, 3, 4, 5, 7, 8, 10, 12, 14, 16, 19, 20, 22, 23, 24, 24, 25, 24, 24, 23, 22, 20, 19, 16, 14, 12, 10, 8, 7, 5, 4, 3, 2, 1, 1], [1, 1, 2, 3, 4, 5, 7, 8, 10, 12, 14, 16, 19, 21, 23, 25, 26, 27, 28, 28, 28, 28, 27, 26, 25, 23, 21, 19, 16, 14, 12, 10, 8, 7, 5, 4, 3, 2, 1, 1], [1, 1, 2, 3, 4, 5, 7, 8, 10, 12, 14, 16, 19, 21, 24, 26, 28, 29, 31, 31, 32, 32, 32, 31, 31, 29, 28, 26, 24, 21, 19, 16, 14, 12, 10, 8, 7, 5, 4, 3, 2, 1, 1], [1, 1, 2, 3, 4, 5, 7, 8, 10, 12, 14, 16, 19, 21, 24, 27, 29, 31, 33, 34, 35, 36, 36, 36, 36, 35, 34, 33, 31, 29, 27, 24, 21, 19, 16, 14, 12, 10, 8, 7, 5, 4, 3, 2, 1, 1], [1, 1, 2, 3, 4, 5, 7, 8, 10, 12, 14, 16, 19, 21, 24, 27, 30, 32, 35, 36, 38, 39, 40, 40, 41, 40, 40, 39, 38, 36, 35, 32, 30, 27, 24, 21, 19, 16, 14, 12, 10, 8, 7, 5, 4, 3, 2, 1, 1], [1, 1, 2, 3, 4, 5, 7, 8, 10, 12, 14, 16, 19, 21, 24, 27, 30, 33, 36, 38, 40, 42, 43, 44, 45, 45, 45, 45, 44, 43, 42, 40, 38, 36, 33, 30, 27, 24, 21, 19, 16, 14, 12, 10, 8, 7, 5, 4, 3, 2, 1, 1], [1, 1, 2, 3, 4, 5, 7, 8, 10, 12, 14, 16, 19, 21, 24, 27, 30, 33, 37, 39, 42, 44, 46, 47, 49, 49, 50, 50, 50, 49, 49, 47, 46, 44, 42, 39, 37, 33, 30, 27, 24, 21, 19, 16, 14, 12, 10, 8, 7, 5, 4, 3, 2, 1, 1], [1, 1, 2, 3, 4, 5, 7, 8, 10, 12, 14, 16, 19, 21, 24, 27, 30, 33, 37, 40, 43, 46, 48, 50, 52, 53, 54, 55, 55, 55, 55, 54, 53, 52, 50, 48, 46, 43, 40, 37, 33, 30, 27, 24, 21, 19, 16, 14, 12, 10, 8, 7, 5, 4, 3, 2, 1, 1], [1, 1, 2, 3, 4, 5, 7, 8, 10, 12, 14, 16, 19, 21, 24, 27, 30, 33, 37, 40, 44, 47, 50, 52, 55, 56, 58, 59, 60, 60, 61, 60, 60, 59, 58, 56, 55, 52, 50, 47, 44, 40, 37, 33, 30, 27, 24, 21, 19, 16, 14, 12, 10, 8, 7, 5, 4, 3, 2, 1, 1], [1, 1, 2, 3, 4, 5, 7, 8, 10, 12, 14, 16, 19, 21, 24, 27, 30, 33, 37, 40, 44, 48, 51, 54, 57, 59, 61, 63, 64, 65, 66, 66, 66, 66, 65, 64, 63, 61, 59, 57, 54, 51, 48, 44, 40, 37, 33, 30, 27, 24, 21, 19, 16, 14, 12, 10, 8, 7, 5, 4, 3, 2, 1, 1]],
[[1], [1, 1, 1, 1, 1], [1, 1, 2, 2, 3, 2, 2, 1, 1], [1, 1, 2, 3, 4, 4, 5, 4, 4, 3, 2, 1, 1], [1, 1, 2, 3, 5, 5, 7, 7, 8, 7, 7, 5, 5, 3, 2, 1, 1], [1, 1, 2, 3, 5, 6, 8, 9, 11, 11, 12, 11, 11, 9, 8, 6, 5, 3, 2, 1, 1], [1, 1, 2, 3, 5, 6, 9, 10, 13, 14, 16, 16, 18, 16, 16, 14, 13, 10, 9, 6, 5, 3, 2, 1, 1], [1, 1, 2, 3, 5, 6, 9, 11, 14, 16, 19, 20, 23, 23, 24, 23, 23, 20, 19, 16, 14, 11, 9, 6, 5, 3, 2, 1, 1], [1, 1, 2, 3, 5, 6, 9, 11, 15, 17, 21, 23, 27, 28, 31, 31, 33, 31, 31, 28, 27, 23, 21, 17, 15, 11, 9, 6, 5, 3, 2, 1, 1], [1, 1, 2, 3, 5, 6, 9, 11, 15, 18, 22, 25, 30, 32, 36, 38, 41, 41, 43, 41, 41, 38, 36, 32, 30, 25, 22, 18, 15, 11, 9, 6, 5, 3, 2, 1, 1], [1, 1, 2, 3, 5, 6, 9, 11, 15, 18, 23, 26, 32, 35, 40, 43, 48, 49, 53, 53, 55, 53, 53, 49, 48, 43, 40, 35, 32, 26, 23, 18, 15, 11, 9, 6, 5, 3, 2, 1, 1], [1, 1, 2, 3, 5, 6, 9, 11, 15, 18, 23, 27, 33, 37, 43, 47, 53, 56, 61, 63, 67, 67, 69, 67, 67, 63, 61, 56, 53, 47, 43, 37, 33, 27, 23, 18, 15, 11, 9, 6, 5, 3, 2, 1, 1], [1, 1, 2, 3, 5, 6, 9, 11, 15, 18, 23, 27, 34, 38, 45, 50, 57, 61, 68, 71, 77, 79, 83, 83, 86, 83, 83, 79, 77, 71, 68, 61, 57, 50, 45, 38, 34, 27, 23, 18, 15, 11, 9, 6, 5, 3, 2, 1, 1], [1, 1, 2, 3, 5, 6, 9, 11, 15, 18, 23, 27, 34, 39, 46, 52, 60, 65, 73, 78, 85, 89, 95, 97, 102, 102, 104, 102, 102, 97, 95, 89, 85, 78, 73, 65, 60, 52, 46, 39, 34, 27, 23, 18, 15, 11, 9, 6, 5, 3, 2, 1, 1], [1, 1, 2, 3, 5, 6, 9, 11, 15, 18, 23, 27, 34, 39, 47, 53, 62, 68, 77, 83, 92, 97, 105, 109, 116, 118, 123, 123, 126, 123, 123, 118, 116, 109, 105, 97, 92, 83, 77, 68, 62, 53, 47, 39, 34, 27, 23, 18, 15, 11, 9, 6, 5, 3, 2, 1, 1], [1, 1, 2, 3, 5, 6, 9, 11, 15, 18, 23, 27, 34, 39, 47, 54, 63, 70, 80, 87, 97, 104, 113, 119, 128, 132, 139, 142, 147, 147, 150, 147, 147, 142, 139, 132, 128, 119, 113, 104, 97, 87, 80, 70, 63, 54, 47, 39, 34, 27, 23, 18, 15, 11, 9, 6, 5, 3, 2, 1, 1], [1, 1, 2, 3, 5, 6, 9, 11, 15, 18, 23, 27, 34, 39, 47, 54, 64, 71, 82, 90, 101, 109, 120, 127, 138, 144, 153, 158, 166, 168, 174, 174, 177, 174, 174, 168, 166, 158, 153, 144, 138, 127, 120, 109, 101, 90, 82, 71, 64, 54, 47, 39, 34, 27, 23, 18, 15, 11, 9, 6, 5, 3, 2, 1, 1], [1, 1, 2, 3, 5, 6, 9, 11, 15, 18, 23, 27, 34, 39, 47, 54, 64, 72, 83, 92, 104, 113, 125, 134, 146, 154, 165, 172, 182, 187, 195, 198, 204, 204, 207, 204, 204, 198, 195, 187, 182, 172, 165, 154, 146, 134, 125, 113, 104, 92, 83, 72, 64, 54, 47, 39, 34, 27, 23, 18, 15, 11, 9, 6, 5, 3, 2, 1, 1], [1, 1, 2, 3, 5, 6, 9, 11, 15, 18, 23, 27, 34, 39, 47, 54, 64, 72, 84, 93, 106, 116, 129, 139, 153, 162, 175, 184, 196, 203, 214, 219, 228, 231, 237, 237, 241, 237, 237, 231, 228, 219, 214, 203, 196, 184, 175, 162, 153, 139, 129, 116, 106, 93, 84, 72, 64, 54, 47, 39, 34, 27, 23, 18, 15, 11, 9, 6, 5, 3, 2, 1, 1], [1, 1, 2, 3, 5, 6, 9, 11, 15, 18, 23, 27, 34, 39, 47, 54, 64, 72, 84, 94, 107, 118, 132, 143, 158, 169, 183, 194, 208, 217, 230, 238, 249, 255, 264, 267, 274, 274, 277, 274, 274, 267, 264, 255, 249, 238, 230, 217, 208, 194, 183, 169, 158, 143, 132, 118, 107, 94, 84, 72, 64, 54, 47, 39, 34, 27, 23, 18, 15, 11, 9, 6, 5, 3, 2, 1, 1], [1, 1, 2, 3, 5, 6, 9, 11, 15, 18, 23, 27, 34, 39, 47, 54, 64, 72, 84, 94, 108, 119, 134, 146, 162, 174, 190, 202, 218, 229, 244, 254, 268, 276, 288, 294, 304, 307, 314, 314, 318, 314, 314, 307, 304, 294, 288, 276, 268, 254, 244, 229, 218, 202, 190, 174, 162, 146, 134, 119, 108, 94, 84, 72, 64, 54, 47, 39, 34, 27, 23, 18, 15, 11, 9, 6, 5, 3, 2, 1, 1]],
[[1], [1, 1, 1, 1, 1, 1], [1, 1, 2, 2, 3, 3, 3, 2, 2, 1, 1], [1, 1, 2, 3, 4, 5, 6, 6, 6, 6, 5, 4, 3, 2, 1, 1], [1, 1, 2, 3, 5, 6, 8, 9, 11, 11, 12, 11, 11, 9, 8, 6, 5, 3, 2, 1, 1], [1, 1, 2, 3, 5, 7, 9, 11, 14, 16, 18, 19, 20, 20, 19, 18, 16, 14, 11, 9, 7, 5, 3, 2, 1, 1], [1, 1, 2, 3, 5, 7, 10, 12, 16, 19, 23, 25, 29, 30, 32, 32, 32, 30, 29, 25, 23, 19, 16, 12, 10, 7, 5, 3, 2, 1, 1], [1, 1, 2, 3, 5, 7, 10, 13, 17, 21, 26, 30, 35, 39, 43, 46, 48, 49, 49, 48, 46, 43, 39, 35, 30, 26, 21, 17, 13, 10, 7, 5, 3, 2, 1, 1], [1, 1, 2, 3, 5, 7, 10, 13, 18, 22, 28, 33, 40, 45, 52, 57, 63, 66, 70, 71, 73, 71, 70, 66, 63, 57, 52, 45, 40, 33, 28, 22, 18, 13, 10, 7, 5, 3, 2, 1, 1], [1, 1, 2, 3, 5, 7, 10, 13, 18, 23, 29, 35, 43, 50, 58, 66, 74, 81, 88, 93, 98, 101, 102, 102, 101, 98, 93, 88, 81, 74, 66, 58, 50, 43, 35, 29, 23, 18, 13, 10, 7, 5, 3, 2, 1, 1], [1, 1, 2, 3, 5, 7, 10, 13, 18, 23, 30, 36, 45, 53, 63, 72, 83, 92, 103, 111, 121, 127, 134, 137, 141, 141, 141, 137, 134, 127, 121, 111, 103, 92, 83, 72, 63, 53, 45, 36, 30, 23, 18, 13, 10, 7, 5, 3, 2, 1, 1], [1, 1, 2, 3, 5, 7, 10, 13, 18, 23, 30, 37, 46, 55, 66, 77, 89, 101, 114, 126, 139, 150, 161, 170, 178, 184, 188, 190, 190, 188, 184, 178, 170, 161, 150, 139, 126, 114, 101, 89, 77, 66, 55, 46, 37, 30, 23, 18, 13, 10, 7, 5, 3, 2, 1, 1], [1, 1, 2, 3, 5, 7, 10, 13, 18, 23, 30, 37, 47, 56, 68, 80, 94, 107, 123, 137, 154, 168, 184, 197, 212, 222, 233, 240, 247, 249, 252, 249, 247, 240, 233, 222, 212, 197, 184, 168, 154, 137, 123, 107, 94, 80, 68, 56, 47, 37, 30, 23, 18, 13, 10, 7, 5, 3, 2, 1, 1], [1, 1, 2, 3, 5, 7, 10, 13, 18, 23, 30, 37, 47, 57, 69, 82, 97, 112, 129, 146, 165, 183, 202, 220, 239, 256, 272, 286, 299, 309, 317, 322, 325, 325, 322, 317, 309, 299, 286, 272, 256, 239, 220, 202, 183, 165, 146, 129, 112, 97, 82, 69, 57, 47, 37, 30, 23, 18, 13, 10, 7, 5, 3, 2, 1, 1], [1, 1, 2, 3, 5, 7, 10, 13, 18, 23, 30, 37, 47, 57, 70, 83, 99, 115, 134, 152, 174, 194, 217, 238, 262, 283, 306, 325, 346, 362, 379, 390, 402, 408, 414, 414, 414, 408, 402, 390, 379, 362, 346, 325, 306, 283, 262, 238, 217, 194, 174, 152, 134, 115, 99, 83, 70, 57, 47, 37, 30, 23, 18, 13, 10, 7, 5, 3, 2, 1, 1], [1, 1, 2, 3, 5, 7, 10, 13, 18, 23, 30, 37, 47, 57, 70, 84, 100, 117, 137, 157, 180, 203, 228, 253, 280, 306, 333, 359, 385, 409, 433, 453, 472, 488, 501, 511, 518, 521, 521, 518, 511, 501, 488, 472, 453, 433, 409, 385, 359, 333, 306, 280, 253, 228, 203, 180, 157, 137, 117, 100, 84, 70, 57, 47, 37, 30, 23, 18, 13, 10, 7, 5, 3, 2, 1, 1], [1, 1, 2, 3, 5, 7, 10, 13, 18, 23, 30, 37, 47, 57, 70, 84, 101, 118, 139, 160, 185, 209, 237, 264, 295, 324, 356, 386, 419, 448, 480, 507, 536, 559, 583, 601, 619, 630, 641, 645, 649, 645, 641, 630, 619, 601, 583, 559, 536, 507, 480, 448, 419, 386, 356, 324, 295, 264, 237, 209, 185, 160, 139, 118, 101, 84, 70, 57, 47, 37, 30, 23, 18, 13, 10, 7, 5, 3, 2, 1, 1], [1, 1, 2, 3, 5, 7, 10, 13, 18, 23, 30, 37, 47, 57, 70, 84, 101, 119, 140, 162, 188, 214, 243, 273, 306, 339, 374, 409, 446, 482, 519, 554, 590, 623, 655, 684, 711, 734, 754, 770, 783, 791, 795, 795, 791, 783, 770, 754, 734, 711, 684, 655, 623, 590, 554, 519, 482, 446, 409, 374, 339, 306, 273, 243, 214, 188, 162, 140, 119, 101, 84, 70, 57, 47, 37, 30, 23, 18, 13, 10, 7, 5, 3, 2, 1, 1], [1, 1, 2, 3, 5, 7, 10, 13, 18, 23, 30, 37, 47, 57, 70, 84, 101, 119, 141, 163, 190, 217, 248, 279, 315, 350, 389, 427, 469, 509, 553, 593, 637, 677, 719, 756, 795, 827, 860, 886, 912, 930, 948, 957, 966, 967, 966, 957, 948, 930, 912, 886, 860, 827, 795, 756, 719, 677, 637, 593, 553, 509, 469, 427, 389, 350, 315, 279, 248, 217, 190, 163, 141, 119, 101, 84, 70, 57, 47, 37, 30, 23, 18, 13, 10, 7, 5, 3, 2, 1, 1], [1, 1, 2, 3, 5, 7, 10, 13, 18, 23, 30, 37, 47, 57, 70, 84, 101, 119, 141, 164, 191, 219, 251, 284, 321, 359, 400, 442, 487, 532, 580, 627, 676, 724, 773, 820, 867, 911, 954, 993, 1030, 1062, 1091, 1115, 1135, 1150, 1160, 1165, 1165, 1160, 1150, 1135, 1115, 1091, 1062, 1030, 993, 954, 911, 867, 820, 773, 724, 676, 627, 580, 532, 487, 442, 400, 359, 321, 284, 251, 219, 191, 164, 141, 119, 101, 84, 70, 57, 47, 37, 30, 23, 18, 13, 10, 7, 5, 3, 2, 1, 1]],
[[1], [1, 1, 1, 1, 1, 1, 1], [1, 1, 2, 2, 3, 3, 4, 3, 3, 2, 2, 1, 1], [1, 1, 2, 3, 4, 5, 7, 7, 8, 8, 8, 7, 7, 5, 4, 3, 2, 1, 1], [1, 1, 2, 3, 5, 6, 9, 10, 13, 14, 16, 16, 18, 16, 16, 14, 13, 10, 9, 6, 5, 3, 2, 1, 1], [1, 1, 2, 3, 5, 7, 10, 12, 16, 19, 23, 25, 29, 30, 32, 32, 32, 30, 29, 25, 23, 19, 16, 12, 10, 7, 5, 3, 2, 1, 1], [1, 1, 2, 3, 5, 7, 11, 13, 18, 22, 28, 32, 39, 42, 48, 51, 55, 55, 58, 55, 55, 51, 48, 42, 39, 32, 28, 22, 18, 13, 11, 7, 5, 3, 2, 1, 1], [1, 1, 2, 3, 5, 7, 11, 14, 19, 24, 31, 37, 46, 52, 61, 68, 76, 81, 88, 90, 94, 94, 94, 90, 88, 81, 76, 68, 61, 52, 46, 37, 31, 24, 19, 14, 11, 7, 5, 3, 2, 1, 1], [1, 1, 2, 3, 5, 7, 11, 14, 20, 25, 33, 40, 51, 59, 71, 81, 94, 103, 116, 123, 134, 139, 146, 147, 151, 147, 146, 139, 134, 123, 116, 103, 94, 81, 71, 59, 51, 40, 33, 25, 20, 14, 11, 7, 5, 3, 2, 1, 1], [1, 1, 2, 3, 5, 7, 11, 14, 20, 26, 34, 42, 54, 64, 78, 91, 107, 121, 139, 152, 169, 182, 196, 205, 217, 221, 227, 227, 227, 221, 217, 205, 196, 182, 169, 152, 139, 121, 107, 91, 78, 64, 54, 42, 34, 26, 20, 14, 11, 7, 5, 3, 2, 1, 1], [1, 1, 2, 3, 5, 7, 11, 14, 20, 26, 35, 43, 56, 67, 83, 98, 117, 134, 157, 175, 199, 218, 241, 258, 280, 293, 310, 319, 330, 332, 338, 332, 330, 319, 310, 293, 280, 258, 241, 218, 199, 175, 157, 134, 117, 98, 83, 67, 56, 43, 35, 26, 20, 14, 11, 7, 5, 3, 2, 1, 1], [1, 1, 2, 3, 5, 7, 11, 14, 20, 26, 35, 44, 57, 69, 86, 103, 124, 144, 170, 193, 222, 248, 278, 304, 335, 359, 387, 408, 431, 446, 464, 471, 480, 480, 480, 471, 464, 446, 431, 408, 387, 359, 335, 304, 278, 248, 222, 193, 170, 144, 124, 103, 86, 69, 57, 44, 35, 26, 20, 14, 11, 7, 5, 3, 2, 1, 1], [1, 1, 2, 3, 5, 7, 11, 14, 20, 26, 35, 44, 58, 70, 88, 106, 129, 151, 180, 206, 240, 271, 308, 341, 382, 415, 455, 488, 525, 553, 587, 608, 634, 648, 664, 668, 676, 668, 664, 648, 634, 608, 587, 553, 525, 488, 455, 415, 382, 341, 308, 271, 240, 206, 180, 151, 129, 106, 88, 70, 58, 44, 35, 26, 20, 14, 11, 7, 5, 3, 2, 1, 1], [1, 1, 2, 3, 5, 7, 11, 14, 20, 26, 35, 44, 58, 71, 89, 108, 132, 156, 187, 216, 253, 289, 331, 371, 419, 462, 512, 557, 607, 650, 699, 737, 780, 813, 847, 870, 896, 907, 920, 920, 920, 907, 896, 870, 847, 813, 780, 737, 699, 650, 607, 557, 512, 462, 419, 371, 331, 289, 253, 216, 187, 156, 132, 108, 89, 71, 58, 44, 35, 26, 20, 14, 11, 7, 5, 3, 2, 1, 1], [1, 1, 2, 3, 5, 7, 11, 14, 20, 26, 35, 44, 58, 71, 90, 109, 134, 159, 192, 223, 263, 302, 349, 394, 449, 499, 559, 614, 677, 733, 798, 852, 914, 965, 1021, 1064, 1113, 1145, 1182, 1203, 1226, 1232, 1242, 1232, 1226, 1203, 1182, 1145, 1113, 1064, 1021, 965, 914, 852, 798, 733, 677, 614, 559, 499, 449, 394, 349, 302, 263, 223, 192, 159, 134, 109, 90, 71, 58, 44, 35, 26, 20, 14, 11, 7, 5, 3, 2, 1, 1], [1, 1, 2, 3, 5, 7, 11, 14, 20, 26, 35, 44, 58, 71, 90, 110, 135, 161, 195, 228, 270, 312, 362, 412, 472, 529, 596, 661, 734, 803, 882, 952, 1031, 1102, 1178, 1244, 1316, 1373, 1435, 1483, 1532, 1565, 1601, 1617, 1635, 1636, 1635, 1617, 1601, 1565, 1532, 1483, 1435, 1373, 1316, 1244, 1178, 1102, 1031, 952, 882, 803, 734, 661, 596, 529, 472, 412, 362, 312, 270, 228, 195, 161, 135, 110, 90, 71, 58, 44, 35, 26, 20, 14, 11, 7, 5, 3, 2, 1, 1], [1, 1, 2, 3, 5, 7, 11, 14, 20, 26, 35, 44, 58, 71, 90, 110, 136, 162, 197, 231, 275, 319, 372, 425, 490, 552, 626, 698, 781, 860, 952, 1036, 1132, 1220, 1317, 1404, 1501, 1582, 1672, 1747, 1827, 1889, 1957, 2003, 2054, 2084, 2115, 2124, 2137, 2124, 2115, 2084, 2054, 2003, 1957, 1889, 1827, 1747, 1672, 1582, 1501, 1404, 1317, 1220, 1132, 1036, 952, 860, 781, 698, 626, 552, 490, 425, 372, 319, 275, 231, 197, 162, 136, 110, 90, 71, 58, 44, 35, 26, 20, 14, 11, 7, 5, 3, 2, 1, 1], [1, 1, 2, 3, 5, 7, 11, 14, 20, 26, 35, 44, 58, 71, 90, 110, 136, 163, 198, 233, 278, 324, 379, 435, 503, 570, 649, 728, 818, 907, 1009, 1106, 1216, 1321, 1436, 1544, 1663, 1770, 1886, 1990, 2100, 2195, 2296, 2377, 2463, 2530, 2597, 2643, 2691, 2714, 2738, 2739, 2738, 2714, 2691, 2643, 2597, 2530, 2463, 2377, 2296, 2195, 2100, 1990, 1886, 1770, 1663, 1544, 1436, 1321, 1216, 1106, 1009, 907, 818, 728, 649, 570, 503, 435, 379, 324, 278, 233, 198, 163, 136, 110, 90, 71, 58, 44, 35, 26, 20, 14, 11, 7, 5, 3, 2, 1, 1], [1, 1, 2, 3, 5, 7, 11, 14, 20, 26, 35, 44, 58, 71, 90, 110, 136, 163, 199, 234, 280, 327, 384, 442, 513, 583, 667, 751, 848, 944, 1056, 1163, 1286, 1405, 1537, 1663, 1804, 1933, 2076, 2207, 2348, 2474, 2611, 2727, 2852, 2957, 3066, 3152, 3244, 3307, 3375, 3416, 3457, 3470, 3486, 3470, 3457, 3416, 3375, 3307, 3244, 3152, 3066, 2957, 2852, 2727, 2611, 2474, 2348, 2207, 2076, 1933, 1804, 1663, 1537, 1405, 1286, 1163, 1056, 944, 848, 751, 667, 583, 513, 442, 384, 327, 280, 234, 199, 163, 136, 110, 90, 71, 58, 44, 35, 26, 20, 14, 11, 7, 5, 3, 2, 1, 1]],
[[1], [1, 1, 1, 1, 1, 1, 1, 1], [1, 1, 2, 2, 3, 3, 4, 4, 4, 3, 3, 2, 2, 1, 1], [1, 1, 2, 3, 4, 5, 7, 8, 9, 10, 10, 10, 10, 9, 8, 7, 5, 4, 3, 2, 1, 1], [1, 1, 2, 3, 5, 6, 9, 11, 14, 16, 19, 20, 23, 23, 24, 23, 23, 20, 19, 16, 14, 11, 9, 6, 5, 3, 2, 1, 1], [1, 1, 2, 3, 5, 7, 10, 13, 17, 21, 26, 30, 35, 39, 43, 46, 48, 49, 49, 48, 46, 43, 39, 35, 30, 26, 21, 17, 13, 10, 7, 5, 3, 2, 1, 1], [1, 1, 2, 3, 5, 7, 11, 14, 19, 24, 31, 37, 46, 52, 61, 68, 76, 81, 88, 90, 94, 94, 94, 90, 88, 81, 76, 68, 61, 52, 46, 37, 31, 24, 19, 14, 11, 7, 5, 3, 2, 1, 1], [1, 1, 2, 3, 5, 7, 11, 15, 20, 26, 34, 42, 53, 63, 75, 87, 100, 112, 125, 136, 146, 155, 162, 166, 169, 169, 166, 162, 155, 146, 136, 125, 112, 100, 87, 75, 63, 53, 42, 34, 26, 20, 15, 11, 7, 5, 3, 2, 1, 1], [1, 1, 2, 3, 5, 7, 11, 15, 21, 27, 36, 45, 58, 70, 86, 101, 120, 137, 158, 176, 197, 214, 233, 247, 263, 272, 282, 285, 289, 285, 282, 272, 263, 247, 233, 214, 197, 176, 158, 137, 120, 101, 86, 70, 58, 45, 36, 27, 21, 15, 11, 7, 5, 3, 2, 1, 1], [1, 1, 2, 3, 5, 7, 11, 15, 21, 28, 37, 47, 61, 75, 93, 112, 134, 157, 184, 210, 239, 268, 297, 325, 354, 379, 403, 424, 441, 454, 464, 468, 468, 464, 454, 441, 424, 403, 379, 354, 325, 297, 268, 239, 210, 184, 157, 134, 112, 93, 75, 61, 47, 37, 28, 21, 15, 11, 7, 5, 3, 2, 1, 1], [1, 1, 2, 3, 5, 7, 11, 15, 21, 28, 38, 48, 63, 78, 98, 119, 145, 171, 204, 236, 274, 311, 353, 392, 437, 477, 520, 558, 598, 629, 663, 686, 709, 722, 734, 734, 734, 722, 709, 686, 663, 629, 598, 558, 520, 477, 437, 392, 353, 311, 274, 236, 204, 171, 145, 119, 98, 78, 63, 48, 38, 28, 21, 15, 11, 7, 5, 3, 2, 1, 1], [1, 1, 2, 3, 5, 7, 11, 15, 21, 28, 38, 49, 64, 80, 101, 124, 152, 182, 218, 256, 300, 346, 397, 449, 506, 563, 623, 682, 742, 799, 856, 908, 957, 1000, 1038, 1069, 1093, 1109, 1117, 1117, 1109, 1093, 1069, 1038, 1000, 957, 908, 856, 799, 742, 682, 623, 563, 506, 449, 397, 346, 300, 256, 218, 182, 152, 124, 101, 80, 64, 49, 38, 28, 21, 15, 11, 7, 5, 3, 2, 1, 1], [1, 1, 2, 3, 5, 7, 11, 15, 21, 28, 38, 49, 65, 81, 103, 127, 157, 189, 229, 270, 320, 372, 432, 493, 564, 633, 711, 788, 871, 950, 1036, 1114, 1197, 1271, 1346, 1410, 1475, 1524, 1572, 1605, 1634, 1646, 1656, 1646, 1634, 1605, 1572, 1524, 1475, 1410, 1346, 1271, 1197, 1114, 1036, 950, 871, 788, 711, 633, 564, 493, 432, 372, 320, 270, 229, 189, 157, 127, 103, 81, 65, 49, 38, 28, 21, 15, 11, 7, 5, 3, 2, 1, 1], [1, 1, 2, 3, 5, 7, 11, 15, 21, 28, 38, 49, 65, 82, 104, 129, 160, 194, 236, 281, 334, 392, 458, 528, 608, 691, 782, 877, 979, 1082, 1192, 1301, 1413, 1524, 1635, 1741, 1846, 1943, 2034, 2117, 2191, 2253, 2306, 2345, 2371, 2385, 2385, 2371, 2345, 2306, 2253, 2191, 2117, 2034, 1943, 1846, 1741, 1635, 1524, 1413, 1301, 1192, 1082, 979, 877, 782, 691, 608, 528, 458, 392, 334, 281, 236, 194, 160, 129, 104, 82, 65, 49, 38, 28, 21, 15, 11, 7, 5, 3, 2, 1, 1], [1, 1, 2, 3, 5, 7, 11, 15, 21, 28, 38, 49, 65, 82, 105, 130, 162, 197, 241, 288, 345, 406, 478, 554, 643, 735, 840, 948, 1069, 1191, 1326, 1460, 1605, 1747, 1898, 2043, 2195, 2337, 2483, 2616, 2750, 2867, 2983, 3078, 3169, 3237, 3299, 3336, 3366, 3370, 3366, 3336, 3299, 3237, 3169, 3078, 2983, 2867, 2750, 2616, 2483, 2337, 2195, 2043, 1898, 1747, 1605, 1460, 1326, 1191, 1069, 948, 840, 735, 643, 554, 478, 406, 345, 288, 241, 197, 162, 130, 105, 82, 65, 49, 38, 28, 21, 15, 11, 7, 5, 3, 2, 1, 1], [1, 1, 2, 3, 5, 7, 11, 15, 21, 28, 38, 49, 65, 82, 105, 131, 163, 199, 244, 293, 352, 417, 492, 574, 669, 770, 884, 1006, 1140, 1281, 1436, 1595, 1766, 1942, 2126, 2313, 2507, 2699, 2895, 3088, 3279, 3463, 3644, 3812, 3972, 4119, 4251, 4367, 4468, 4548, 4610, 4652, 4672, 4672, 4652, 4610, 4548, 4468, 4367, 4251, 4119, 3972, 3812, 3644, 3463, 3279, 3088, 2895, 2699, 2507, 2313, 2126, 1942, 1766, 1595, 1436, 1281, 1140, 1006, 884, 770, 669, 574, 492, 417, 352, 293, 244, 199, 163, 131, 105, 82, 65, 49, 38, 28, 21, 15, 11, 7, 5, 3, 2, 1, 1], [1, 1, 2, 3, 5, 7, 11, 15, 21, 28, 38, 49, 65, 82, 105, 131, 164, 200, 246, 296, 357, 424, 503, 588, 689, 796, 919, 1050, 1198, 1352, 1526, 1705, 1902, 2104, 2323, 2544, 2782, 3018, 3267, 3513, 3769, 4015, 4270, 4510, 4753, 4979, 5203, 5403, 5600, 5768, 5927, 6056, 6173, 6254, 6324, 6357, 6375, 6357, 6324, 6254, 6173, 6056, 5927, 5768, 5600, 5403, 5203, 4979, 4753, 4510, 4270, 4015, 3769, 3513, 3267, 3018, 2782, 2544, 2323, 2104, 1902, 1705, 1526, 1352, 1198, 1050, 919, 796, 689, 588, 503, 424, 357, 296, 246, 200, 164, 131, 105, 82, 65, 49, 38, 28, 21, 15, 11, 7, 5, 3, 2, 1, 1], [1, 1, 2, 3, 5, 7, 11, 15, 21, 28, 38, 49, 65, 82, 105, 131, 164, 201, 247, 298, 360, 429, 510, 599, 703, 816, 945, 1085, 1242, 1410, 1597, 1795, 2012, 2240, 2486, 2742, 3015, 3296, 3591, 3892, 4204, 4518, 4840, 5159, 5481, 5797, 6110, 6412, 6706, 6984, 7248, 7492, 7717, 7917, 8094, 8243, 8365, 8457, 8519, 8550, 8550, 8519, 8457, 8365, 8243, 8094, 7917, 7717, 7492, 7248, 6984, 6706, 6412, 6110, 5797, 5481, 5159, 4840, 4518, 4204, 3892, 3591, 3296, 3015, 2742, 2486, 2240, 2012, 1795, 1597, 1410, 1242, 1085, 945, 816, 703, 599, 510, 429, 360, 298, 247, 201, 164, 131, 105, 82, 65, 49, 38, 28, 21, 15, 11, 7, 5, 3, 2, 1, 1]],
[[1], [1, 1, 1, 1, 1, 1, 1, 1, 1], [1, 1, 2, 2, 3, 3, 4, 4, 5, 4, 4, 3, 3, 2, 2, 1, 1], [1, 1, 2, 3, 4, 5, 7, 8, 10, 11, 12, 12, 13, 12, 12, 11, 10, 8, 7, 5, 4, 3, 2, 1, 1], [1, 1, 2, 3, 5, 6, 9, 11, 15, 17, 21, 23, 27, 28, 31, 31, 33, 31, 31, 28, 27, 23, 21, 17, 15, 11, 9, 6, 5, 3, 2, 1, 1], [1, 1, 2, 3, 5, 7, 10, 13, 18, 22, 28, 33, 40, 45, 52, 57, 63, 66, 70, 71, 73, 71, 70, 66, 63, 57, 52, 45, 40, 33, 28, 22, 18, 13, 10, 7, 5, 3, 2, 1, 1], [1, 1, 2, 3, 5, 7, 11, 14, 20, 25, 33, 40, 51, 59, 71, 81, 94, 103, 116, 123, 134, 139, 146, 147, 151, 147, 146, 139, 134, 123, 116, 103, 94, 81, 71, 59, 51, 40, 33, 25, 20, 14, 11, 7, 5, 3, 2, 1, 1], [1, 1, 2, 3, 5, 7, 11, 15, 21, 27, 36, 45, 58, 70, 86, 101, 120, 137, 158, 176, 197, 214, 233, 247, 263, 272, 282, 285, 289, 285, 282, 272, 263, 247, 233, 214, 197, 176, 158, 137, 120, 101, 86, 70, 58, 45, 36, 27, 21, 15, 11, 7, 5, 3, 2, 1, 1], [1, 1, 2, 3, 5, 7, 11, 15, 22, 28, 38, 48, 63, 77, 97, 116, 141, 164, 194, 221, 255, 284, 319, 348, 383, 409, 440, 461, 486, 499, 515, 519, 526, 519, 515, 499, 486, 461, 440, 409, 383, 348, 319, 284, 255, 221, 194, 164, 141, 116, 97, 77, 63, 48, 38, 28, 22, 15, 11, 7, 5, 3, 2, 1, 1], [1, 1, 2, 3, 5, 7, 11, 15, 22, 29, 39, 50, 66, 82, 104, 127, 156, 185, 222, 258, 302, 345, 394, 441, 495, 543, 597, 645, 696, 738, 783, 816, 851, 873, 894, 902, 910, 902, 894, 873, 851, 816, 783, 738, 696, 645, 597, 543, 495, 441, 394, 345, 302, 258, 222, 185, 156, 127, 104, 82, 66, 50, 39, 29, 22, 15, 11, 7, 5, 3, 2, 1, 1], [1, 1, 2, 3, 5, 7, 11, 15, 22, 29, 40, 51, 68, 85, 109, 134, 167, 200, 243, 286, 340, 393, 457, 519, 593, 662, 742, 816, 900, 974, 1057, 1127, 1204, 1265, 1331, 1379, 1430, 1460, 1492, 1502, 1514, 1502, 1492, 1460, 1430, 1379, 1331, 1265, 1204, 1127, 1057, 974, 900, 816, 742, 662, 593, 519, 457, 393, 340, 286, 243, 200, 167, 134, 109, 85, 68, 51, 40, 29, 22, 15, 11, 7, 5, 3, 2, 1, 1], [1, 1, 2, 3, 5, 7, 11, 15, 22, 29, 40, 52, 69, 87, 112, 139, 174, 211, 258, 307, 368, 431, 506, 583, 673, 763, 866, 968, 1082, 1192, 1313, 1427, 1550, 1662, 1780, 1885, 1993, 2083, 2174, 2244, 2313, 2358, 2400, 2417, 2430, 2417, 2400, 2358, 2313, 2244, 2174, 2083, 1993, 1885, 1780, 1662, 1550, 1427, 1313, 1192, 1082, 968, 866, 763, 673, 583, 506, 431, 368, 307, 258, 211, 174, 139, 112, 87, 69, 52, 40, 29, 22, 15, 11, 7, 5, 3, 2, 1, 1], [1, 1, 2, 3, 5, 7, 11, 15, 22, 29, 40, 52, 70, 88, 114, 142, 179, 218, 269, 322, 389, 459, 544, 632, 738, 844, 969, 1095, 1239, 1381, 1542, 1697, 1870, 2034, 2212, 2378, 2557, 2716, 2885, 3032, 3184, 3308, 3436, 3531, 3627, 3688, 3746, 3768, 3788, 3768, 3746, 3688, 3627, 3531, 3436, 3308, 3184, 3032, 2885, 2716, 2557, 2378, 2212, 2034, 1870, 1697, 1542, 1381, 1239, 1095, 969, 844, 738, 632, 544, 459, 389, 322, 269, 218, 179, 142, 114, 88, 70, 52, 40, 29, 22, 15, 11, 7, 5, 3, 2, 1, 1], [1, 1, 2, 3, 5, 7, 11, 15, 22, 29, 40, 52, 70, 89, 115, 144, 182, 223, 276, 333, 404, 480, 572, 670, 787, 909, 1051, 1199, 1368, 1541, 1736, 1933, 2151, 2368, 2604, 2836, 3085, 3324, 3576, 3814, 4061, 4287, 4518, 4723, 4928, 5101, 5270, 5403, 5529, 5614, 5689, 5722, 5744, 5722, 5689, 5614, 5529, 5403, 5270, 5101, 4928, 4723, 4518, 4287, 4061, 3814, 3576, 3324, 3085, 2836, 2604, 2368, 2151, 1933, 1736, 1541, 1368, 1199, 1051, 909, 787, 670, 572, 480, 404, 333, 276, 223, 182, 144, 115, 89, 70, 52, 40, 29, 22, 15, 11, 7, 5, 3, 2, 1, 1], [1, 1, 2, 3, 5, 7, 11, 15, 22, 29, 40, 52, 70, 89, 116, 145, 184, 226, 281, 340, 415, 495, 593, 698, 825, 958, 1116, 1281, 1473, 1671, 1898, 2130, 2392, 2656, 2949, 3242, 3563, 3878, 4219, 4549, 4901, 5235, 5587, 5914, 6254, 6561, 6875, 7150, 7427, 7657, 7884, 8059, 8227, 8338, 8439, 8481, 8512, 8481, 8439, 8338, 8227, 8059, 7884, 7657, 7427, 7150, 6875, 6561, 6254, 5914, 5587, 5235, 4901, 4549, 4219, 3878, 3563, 3242, 2949, 2656, 2392, 2130, 1898, 1671, 1473, 1281, 1116, 958, 825, 698, 593, 495, 415, 340, 281, 226, 184, 145, 116, 89, 70, 52, 40, 29, 22, 15, 11, 7, 5, 3, 2, 1, 1], [1, 1, 2, 3, 5, 7, 11, 15, 22, 29, 40, 52, 70, 89, 116, 146, 185, 228, 284, 345, 422, 506, 608, 719, 853, 996, 1165, 1346, 1555, 1776, 2029, 2293, 2591, 2900, 3242, 3594, 3980, 4370, 4793, 5218, 5671, 6119, 6593, 7054, 7535, 7997, 8470, 8916, 9369, 9783, 10197, 10566, 10926, 11233, 11527, 11760, 11975, 12125, 12251, 12310, 12346, 12310, 12251, 12125, 11975, 11760, 11527, 11233, 10926, 10566, 10197, 9783, 9369, 8916, 8470, 7997, 7535, 7054, 6593, 6119, 5671, 5218, 4793, 4370, 3980, 3594, 3242, 2900, 2591, 2293, 2029, 1776, 1555, 1346, 1165, 996, 853, 719, 608, 506, 422, 345, 284, 228, 185, 146, 116, 89, 70, 52, 40, 29, 22, 15, 11, 7, 5, 3, 2, 1, 1], [1, 1, 2, 3, 5, 7, 11, 15, 22, 29, 40, 52, 70, 89, 116, 146, 186, 229, 286, 348, 427, 513, 619, 734, 874, 1024, 1203, 1395, 1620, 1858, 2134, 2424, 2755, 3100, 3488, 3890, 4337, 4794, 5296, 5806, 6360, 6915, 7512, 8104, 8733, 9349, 9996, 10621, 11271, 11887, 12520, 13110, 13708, 14251, 14794, 15273, 15744, 16140, 16521, 16820, 17099, 17289, 17454, 17528, 17575, 17528, 17454, 17289, 17099, 16820, 16521, 16140, 15744, 15273, 14794, 14251, 13708, 13110, 12520, 11887, 11271, 10621, 9996, 9349, 8733, 8104, 7512, 6915, 6360, 5806, 5296, 4794, 4337, 3890, 3488, 3100, 2755, 2424, 2134, 1858, 1620, 1395, 1203, 1024, 874, 734, 619, 513, 427, 348, 286, 229, 186, 146, 116, 89, 70, 52, 40, 29, 22, 15, 11, 7, 5, 3, 2, 1, 1]],
[[1], [1, 1, 1, 1, 1, 1, 1, 1, 1, 1], [1, 1, 2, 2, 3, 3, 4, 4, 5, 5, 5, 4, 4, 3, 3, 2, 2, 1, 1], [1, 1, 2, 3, 4, 5, 7, 8, 10, 12, 13, 14, 15, 15, 15, 15, 14, 13, 12, 10, 8, 7, 5, 4, 3, 2, 1, 1], [1, 1, 2, 3, 5, 6, 9, 11, 15, 18, 22, 25, 30, 32, 36, 38, 41, 41, 43, 41, 41, 38, 36, 32, 30, 25, 22, 18, 15, 11, 9, 6, 5, 3, 2, 1, 1], [1, 1, 2, 3, 5, 7, 10, 13, 18, 23, 29, 35, 43, 50, 58, 66, 74, 81, 88, 93, 98, 101, 102, 102, 101, 98, 93, 88, 81, 74, 66, 58, 50, 43, 35, 29, 23, 18, 13, 10, 7, 5, 3, 2, 1, 1], [1, 1, 2, 3, 5, 7, 11, 14, 20, 26, 34, 42, 54, 64, 78, 91, 107, 121, 139, 152, 169, 182, 196, 205, 217, 221, 227, 227, 227, 221, 217, 205, 196, 182, 169, 152, 139, 121, 107, 91, 78, 64, 54, 42, 34, 26, 20, 14, 11, 7, 5, 3, 2, 1, 1], [1, 1, 2, 3, 5, 7, 11, 15, 21, 28, 37, 47, 61, 75, 93, 112, 134, 157, 184, 210, 239, 268, 297, 325, 354, 379, 403, 424, 441, 454, 464, 468, 468, 464, 454, 441, 424, 403, 379, 354, 325, 297, 268, 239, 210, 184, 157, 134, 112, 93, 75, 61, 47, 37, 28, 21, 15, 11, 7, 5, 3, 2, 1, 1], [1, 1, 2, 3, 5, 7, 11, 15, 22, 29, 39, 50, 66, 82, 104, 127, 156, 185, 222, 258, 302, 345, 394, 441, 495, 543, 597, 645, 696, 738, 783, 816, 851, 873, 894, 902, 910, 902, 894, 873, 851, 816, 783, 738, 696, 645, 597, 543, 495, 441, 394, 345, 302, 258, 222, 185, 156, 127, 104, 82, 66, 50, 39, 29, 22, 15, 11, 7, 5, 3, 2, 1, 1], [1, 1, 2, 3, 5, 7, 11, 15, 22, 30, 40, 52, 69, 87, 111, 138, 171, 207, 251, 297, 352, 411, 476, 545, 622, 699, 782, 867, 954, 1040, 1128, 1210, 1292, 1368, 1437, 1499, 1555, 1598, 1632, 1656, 1667, 1667, 1656, 1632, 1598, 1555, 1499, 1437, 1368, 1292, 1210, 1128, 1040, 954, 867, 782, 699, 622, 545, 476, 411, 352, 297, 251, 207, 171, 138, 111, 87, 69, 52, 40, 30, 22, 15, 11, 7, 5, 3, 2, 1, 1], [1, 1, 2, 3, 5, 7, 11, 15, 22, 30, 41, 53, 71, 90, 116, 145, 182, 222, 273, 326, 392, 462, 544, 630, 731, 833, 949, 1067, 1197, 1326, 1468, 1603, 1749, 1887, 2030, 2161, 2297, 2414, 2532, 2630, 2724, 2794, 2860, 2897, 2929, 2934, 2929, 2897, 2860, 2794, 2724, 2630, 2532, 2414, 2297, 2161, 2030, 1887, 1749, 1603, 1468, 1326, 1197, 1067, 949, 833, 731, 630, 544, 462, 392, 326, 273, 222, 182, 145, 116, 90, 71, 53, 41, 30, 22, 15, 11, 7, 5, 3, 2, 1, 1], [1, 1, 2, 3, 5, 7, 11, 15, 22, 30, 41, 54, 72, 92, 119, 150, 189, 233, 288, 348, 421, 502, 596, 699, 818, 945, 1088, 1241, 1408, 1584, 1775, 1971, 2180, 2393, 2613, 2834, 3060, 3280, 3500, 3712, 3916, 4107, 4287, 4447, 4591, 4714, 4814, 4890, 4943, 4968, 4968, 4943, 4890, 4814, 4714, 4591, 4447, 4287, 4107, 3916, 3712, 3500, 3280, 3060, 2834, 2613, 2393, 2180, 1971, 1775, 1584, 1408, 1241, 1088, 945, 818, 699, 596, 502, 421, 348, 288, 233, 189, 150, 119, 92, 72, 54, 41, 30, 22, 15, 11, 7, 5, 3, 2, 1, 1], [1, 1, 2, 3, 5, 7, 11, 15, 22, 30, 41, 54, 73, 93, 121, 153, 194, 240, 299, 363, 443, 531, 636, 751, 888, 1033, 1202, 1383, 1587, 1802, 2044, 2293, 2569, 2852, 3157, 3466, 3798, 4124, 4469, 4807, 5155, 5488, 5829, 6144, 6461, 6748, 7026, 7268, 7500, 7684, 7853, 7975, 8074, 8122, 8150, 8122, 8074, 7975, 7853, 7684, 7500, 7268, 7026, 6748, 6461, 6144, 5829, 5488, 5155, 4807, 4469, 4124, 3798, 3466, 3157, 2852, 2569, 2293, 2044, 1802, 1587, 1383, 1202, 1033, 888, 751, 636, 531, 443, 363, 299, 240, 194, 153, 121, 93, 73, 54, 41, 30, 22, 15, 11, 7, 5, 3, 2, 1, 1], [1, 1, 2, 3, 5, 7, 11, 15, 22, 30, 41, 54, 73, 94, 122, 155, 197, 245, 306, 374, 458, 553, 665, 791, 940, 1103, 1291, 1498, 1731, 1984, 2267, 2569, 2902, 3256, 3637, 4038, 4468, 4911, 5378, 5858, 6354, 6856, 7370, 7880, 8394, 8899, 9394, 9872, 10336, 10769, 11177, 11551, 11888, 12183, 12437, 12640, 12797, 12903, 12954, 12954, 12903, 12797, 12640, 12437, 12183, 11888, 11551, 11177, 10769, 10336, 9872, 9394, 8899, 8394, 7880, 7370, 6856, 6354, 5858, 5378, 4911, 4468, 4038, 3637, 3256, 2902, 2569, 2267, 1984, 1731, 1498, 1291, 1103, 940, 791, 665, 553, 458, 374, 306, 245, 197, 155, 122, 94, 73, 54, 41, 30, 22, 15, 11, 7, 5, 3, 2, 1, 1], [1, 1, 2, 3, 5, 7, 11, 15, 22, 30, 41, 54, 73, 94, 123, 156, 199, 248, 311, 381, 469, 568, 687, 820, 980, 1155, 1361, 1587, 1847, 2129, 2451, 2795, 3183, 3596, 4052, 4533, 5061, 5609, 6203, 6816, 7470, 8137, 8843, 9551, 10292, 11029, 11786, 12528, 13285, 14011, 14740, 15429, 16107, 16732, 17338, 17875, 18384, 18817, 19208, 19515, 19778, 19947, 20067, 20094, 20067, 19947, 19778, 19515, 19208, 18817, 18384, 17875, 17338, 16732, 16107, 15429, 14740, 14011, 13285, 12528, 11786, 11029, 10292, 9551, 8843, 8137, 7470, 6816, 6203, 5609, 5061, 4533, 4052, 3596, 3183, 2795, 2451, 2129, 1847, 1587, 1361, 1155, 980, 820, 687, 568, 469, 381, 311, 248, 199, 156, 123, 94, 73, 54, 41, 30, 22, 15, 11, 7, 5, 3, 2, 1, 1], [1, 1, 2, 3, 5, 7, 11, 15, 22, 30, 41, 54, 73, 94, 123, 157, 200, 250, 314, 386, 476, 579, 702, 842, 1009, 1195, 1413, 1657, 1936, 2245, 2597, 2980, 3411, 3880, 4397, 4955, 5567, 6217, 6922, 7669, 8466, 9302, 10189, 11106, 12068, 13058, 14079, 15119, 16185, 17253, 18334, 19409, 20477, 21525, 22556, 23546, 24503, 25410, 26262, 27050, 27775, 28417, 28983, 29463, 29850, 30144, 30344, 30441, 30441, 30344, 30144, 29850, 29463, 28983, 28417, 27775, 27050, 26262, 25410, 24503, 23546, 22556, 21525, 20477, 19409, 18334, 17253, 16185, 15119, 14079, 13058, 12068, 11106, 10189, 9302, 8466, 7669, 6922, 6217, 5567, 4955, 4397, 3880, 3411, 2980, 2597, 2245, 1936, 1657, 1413, 1195, 1009, 842, 702, 579, 476, 386, 314, 250, 200, 157, 123, 94, 73, 54, 41, 30, 22, 15, 11, 7, 5, 3, 2, 1, 1]],
[[1], [1, 1, 1, 1, 1, 1, 1, 1, 1, 1, 1], [1, 1, 2, 2, 3, 3, 4, 4, 5, 5, 6, 5, 5, 4, 4, 3, 3, 2, 2, 1, 1], [1, 1, 2, 3, 4, 5, 7, 8, 10, 12, 14, 15, 17, 17, 18, 18, 18, 17, 17, 15, 14, 12, 10, 8, 7, 5, 4, 3, 2, 1, 1], [1, 1, 2, 3, 5, 6, 9, 11, 15, 18, 23, 26, 32, 35, 40, 43, 48, 49, 53, 53, 55, 53, 53, 49, 48, 43, 40, 35, 32, 26, 23, 18, 15, 11, 9, 6, 5, 3, 2, 1, 1], [1, 1, 2, 3, 5, 7, 10, 13, 18, 23, 30, 36, 45, 53, 63, 72, 83, 92, 103, 111, 121, 127, 134, 137, 141, 141, 141, 137, 134, 127, 121, 111, 103, 92, 83, 72, 63, 53, 45, 36, 30, 23, 18, 13, 10, 7, 5, 3, 2, 1, 1], [1, 1, 2, 3, 5, 7, 11, 14, 20, 26, 35, 43, 56, 67, 83, 98, 117, 134, 157, 175, 199, 218, 241, 258, 280, 293, 310, 319, 330, 332, 338, 332, 330, 319, 310, 293, 280, 258, 241, 218, 199, 175, 157, 134, 117, 98, 83, 67, 56, 43, 35, 26, 20, 14, 11, 7, 5, 3, 2, 1, 1], [1, 1, 2, 3, 5, 7, 11, 15, 21, 28, 38, 48, 63, 78, 98, 119, 145, 171, 204, 236, 274, 311, 353, 392, 437, 477, 520, 558, 598, 629, 663, 686, 709, 722, 734, 734, 734, 722, 709, 686, 663, 629, 598, 558, 520, 477, 437, 392, 353, 311, 274, 236, 204, 171, 145, 119, 98, 78, 63, 48, 38, 28, 21, 15, 11, 7, 5, 3, 2, 1, 1], [1, 1, 2, 3, 5, 7, 11, 15, 22, 29, 40, 51, 68, 85, 109, 134, 167, 200, 243, 286, 340, 393, 457, 519, 593, 662, 742, 816, 900, 974, 1057, 1127, 1204, 1265, 1331, 1379, 1430, 1460, 1492, 1502, 1514, 1502, 1492, 1460, 1430, 1379, 1331, 1265, 1204, 1127, 1057, 974, 900, 816, 742, 662, 593, 519, 457, 393, 340, 286, 243, 200, 167, 134, 109, 85, 68, 51, 40, 29, 22, 15, 11, 7, 5, 3, 2, 1, 1], [1, 1, 2, 3, 5, 7, 11, 15, 22, 30, 41, 53, 71, 90, 116, 145, 182, 222, 273, 326, 392, 462, 544, 630, 731, 833, 949, 1067, 1197, 1326, 1468, 1603, 1749, 1887, 2030, 2161, 2297, 2414, 2532, 2630, 2724, 2794, 2860, 2897, 2929, 2934, 2929, 2897, 2860, 2794, 2724, 2630, 2532, 2414, 2297, 2161, 2030, 1887, 1749, 1603, 1468, 1326, 1197, 1067, 949, 833, 731, 630, 544, 462, 392, 326, 273, 222, 182, 145, 116, 90, 71, 53, 41, 30, 22, 15, 11, 7, 5, 3, 2, 1, 1], [1, 1, 2, 3, 5, 7, 11, 15, 22, 30, 42, 54, 73, 93, 121, 152, 193, 237, 295, 356, 433, 515, 615, 720, 847, 978, 1131, 1289, 1470, 1652, 1860, 2065, 2293, 2517, 2761, 2994, 3246, 3481, 3729, 3956, 4192, 4397, 4609, 4784, 4959, 5095, 5226, 5311, 5392, 5424, 5448, 5424, 5392, 5311, 5226, 5095, 4959, 4784, 4609, 4397, 4192, 3956, 3729, 3481, 3246, 2994, 2761, 2517, 2293, 2065, 1860, 1652, 1470, 1289, 1131, 978, 847, 720, 615, 515, 433, 356, 295, 237, 193, 152, 121, 93, 73, 54, 42, 30, 22, 15, 11, 7, 5, 3, 2, 1, 1], [1, 1, 2, 3, 5, 7, 11, 15, 22, 30, 42, 55, 74, 95, 124, 157, 200, 248, 310, 378, 463, 556, 669, 792, 939, 1097, 1281, 1478, 1703, 1940, 2208, 2486, 2795, 3113, 3460, 3812, 4191, 4569, 4970, 5364, 5776, 6172, 6580, 6964, 7352, 7708, 8060, 8371, 8672, 8924, 9160, 9340, 9499, 9598, 9673, 9686, 9673, 9598, 9499, 9340, 9160, 8924, 8672, 8371, 8060, 7708, 7352, 6964, 6580, 6172, 5776, 5364, 4970, 4569, 4191, 3812, 3460, 3113, 2795, 2486, 2208, 1940, 1703, 1478, 1281, 1097, 939, 792, 669, 556, 463, 378, 310, 248, 200, 157, 124, 95, 74, 55, 42, 30, 22, 15, 11, 7, 5, 3, 2, 1, 1], [1, 1, 2, 3, 5, 7, 11, 15, 22, 30, 42, 55, 75, 96, 126, 160, 205, 255, 321, 393, 485, 586, 710, 846, 1012, 1190, 1402, 1631, 1897, 2180, 2507, 2849, 3238, 3644, 4096, 4563, 5079, 5602, 6172, 6747, 7363, 7974, 8624, 9257, 9921, 10560, 11217, 11837, 12470, 13048, 13629, 14147, 14654, 15086, 15502, 15830, 16134, 16346, 16525, 16608, 16660, 16608, 16525, 16346, 16134, 15830, 15502, 15086, 14654, 14147, 13629, 13048, 12470, 11837, 11217, 10560, 9921, 9257, 8624, 7974, 7363, 6747, 6172, 5602, 5079, 4563, 4096, 3644, 3238, 2849, 2507, 2180, 1897, 1631, 1402, 1190, 1012, 846, 710, 586, 485, 393, 321, 255, 205, 160, 126, 96, 75, 55, 42, 30, 22, 15, 11, 7, 5, 3, 2, 1, 1], [1, 1, 2, 3, 5, 7, 11, 15, 22, 30, 42, 55, 75, 97, 127, 162, 208, 260, 328, 404, 500, 608, 740, 887, 1066, 1263, 1496, 1753, 2052, 2377, 2752, 3155, 3612, 4102, 4649, 5228, 5870, 6542, 7275, 8038, 8861, 9705, 10608, 11524, 12490, 13462, 14473, 15474, 16508, 17516, 18540, 19525, 20512, 21440, 22358, 23200, 24014, 24740, 25424, 26002, 26532, 26944, 27294, 27523, 27685, 27718, 27685, 27523, 27294, 26944, 26532, 26002, 25424, 24740, 24014, 23200, 22358, 21440, 20512, 19525, 18540, 17516, 16508, 15474, 14473, 13462, 12490, 11524, 10608, 9705, 8861, 8038, 7275, 6542, 5870, 5228, 4649, 4102, 3612, 3155, 2752, 2377, 2052, 1753, 1496, 1263, 1066, 887, 740, 608, 500, 404, 328, 260, 208, 162, 127, 97, 75, 55, 42, 30, 22, 15, 11, 7, 5, 3, 2, 1, 1], [1, 1, 2, 3, 5, 7, 11, 15, 22, 30, 42, 55, 75, 97, 128, 163, 210, 263, 333, 411, 511, 623, 762, 917, 1107, 1317, 1569, 1847, 2175, 2533, 2951, 3403, 3923, 4483, 5118, 5796, 6557, 7362, 8255, 9193, 10222, 11292, 12455, 13653, 14941, 16257, 17656, 19070, 20560, 22049, 23601, 25134, 26715, 28256, 29828, 31337, 32857, 34291, 35716, 37031, 38318, 39472, 40579, 41534, 42425, 43147, 43792, 44255, 44632, 44819, 44916, 44819, 44632, 44255, 43792, 43147, 42425, 41534, 40579, 39472, 38318, 37031, 35716, 34291, 32857, 31337, 29828, 28256, 26715, 25134, 23601, 22049, 20560, 19070, 17656, 16257, 14941, 13653, 12455, 11292, 10222, 9193, 8255, 7362, 6557, 5796, 5118, 4483, 3923, 3403, 2951, 2533, 2175, 1847, 1569, 1317, 1107, 917, 762, 623, 511, 411, 333, 263, 210, 163, 128, 97, 75, 55, 42, 30, 22, 15, 11, 7, 5, 3, 2, 1, 1]],
[[1], [1, 1, 1, 1, 1, 1, 1, 1, 1, 1, 1, 1], [1, 1, 2, 2, 3, 3, 4, 4, 5, 5, 6, 6, 6, 5, 5, 4, 4, 3, 3, 2, 2, 1, 1], [1, 1, 2, 3, 4, 5, 7, 8, 10, 12, 14, 16, 18, 19, 20, 21, 21, 21, 21, 20, 19, 18, 16, 14, 12, 10, 8, 7, 5, 4, 3, 2, 1, 1], [1, 1, 2, 3, 5, 6, 9, 11, 15, 18, 23, 27, 33, 37, 43, 47, 53, 56, 61, 63, 67, 67, 69, 67, 67, 63, 61, 56, 53, 47, 43, 37, 33, 27, 23, 18, 15, 11, 9, 6, 5, 3, 2, 1, 1], [1, 1, 2, 3, 5, 7, 10, 13, 18, 23, 30, 37, 46, 55, 66, 77, 89, 101, 114, 126, 139, 150, 161, 170, 178, 184, 188, 190, 190, 188, 184, 178, 170, 161, 150, 139, 126, 114, 101, 89, 77, 66, 55, 46, 37, 30, 23, 18, 13, 10, 7, 5, 3, 2, 1, 1], [1, 1, 2, 3, 5, 7, 11, 14, 20, 26, 35, 44, 57, 69, 86, 103, 124, 144, 170, 193, 222, 248, 278, 304, 335, 359, 387, 408, 431, 446, 464, 471, 480, 480, 480, 471, 464, 446, 431, 408, 387, 359, 335, 304, 278, 248, 222, 193, 170, 144, 124, 103, 86, 69, 57, 44, 35, 26, 20, 14, 11, 7, 5, 3, 2, 1, 1], [1, 1, 2, 3, 5, 7, 11, 15, 21, 28, 38, 49, 64, 80, 101, 124, 152, 182, 218, 256, 300, 346, 397, 449, 506, 563, 623, 682, 742, 799, 856, 908, 957, 1000, 1038, 1069, 1093, 1109, 1117, 1117, 1109, 1093, 1069, 1038, 1000, 957, 908, 856, 799, 742, 682, 623, 563, 506, 449, 397, 346, 300, 256, 218, 182, 152, 124, 101, 80, 64, 49, 38, 28, 21, 15, 11, 7, 5, 3, 2, 1, 1], [1, 1, 2, 3, 5, 7, 11, 15, 22, 29, 40, 52, 69, 87, 112, 139, 174, 211, 258, 307, 368, 431, 506, 583, 673, 763, 866, 968, 1082, 1192, 1313, 1427, 1550, 1662, 1780, 1885, 1993, 2083, 2174, 2244, 2313, 2358, 2400, 2417, 2430, 2417, 2400, 2358, 2313, 2244, 2174, 2083, 1993, 1885, 1780, 1662, 1550, 1427, 1313, 1192, 1082, 968, 866, 763, 673, 583, 506, 431, 368, 307, 258, 211, 174, 139, 112, 87, 69, 52, 40, 29, 22, 15, 11, 7, 5, 3, 2, 1, 1], [1, 1, 2, 3, 5, 7, 11, 15, 22, 30, 41, 54, 72, 92, 119, 150, 189, 233, 288, 348, 421, 502, 596, 699, 818, 945, 1088, 1241, 1408, 1584, 1775, 1971, 2180, 2393, 2613, 2834, 3060, 3280, 3500, 3712, 3916, 4107, 4287, 4447, 4591, 4714, 4814, 4890, 4943, 4968, 4968, 4943, 4890, 4814, 4714, 4591, 4447, 4287, 4107, 3916, 3712, 3500, 3280, 3060, 2834, 2613, 2393, 2180, 1971, 1775, 1584, 1408, 1241, 1088, 945, 818, 699, 596, 502, 421, 348, 288, 233, 189, 150, 119, 92, 72, 54, 41, 30, 22, 15, 11, 7, 5, 3, 2, 1, 1], [1, 1, 2, 3, 5, 7, 11, 15, 22, 30, 42, 55, 74, 95, 124, 157, 200, 248, 310, 378, 463, 556, 669, 792, 939, 1097, 1281, 1478, 1703, 1940, 2208, 2486, 2795, 3113, 3460, 3812, 4191, 4569, 4970, 5364, 5776, 6172, 6580, 6964, 7352, 7708, 8060, 8371, 8672, 8924, 9160, 9340, 9499, 9598, 9673, 9686, 9673, 9598, 9499, 9340, 9160, 8924, 8672, 8371, 8060, 7708, 7352, 6964, 6580, 6172, 5776, 5364, 4970, 4569, 4191, 3812, 3460, 3113, 2795, 2486, 2208, 1940, 1703, 1478, 1281, 1097, 939, 792, 669, 556, 463, 378, 310, 248, 200, 157, 124, 95, 74, 55, 42, 30, 22, 15, 11, 7, 5, 3, 2, 1, 1], [1, 1, 2, 3, 5, 7, 11, 15, 22, 30, 42, 56, 75, 97, 127, 162, 207, 259, 325, 400, 493, 598, 724, 866, 1034, 1221, 1438, 1678, 1951, 2250, 2586, 2949, 3351, 3782, 4252, 4751, 5288, 5850, 6448, 7067, 7716, 8380, 9066, 9759, 10465, 11168, 11872, 12562, 13241, 13894, 14524, 15116, 15671, 16178, 16637, 17038, 17381, 17658, 17870, 18012, 18084, 18084, 18012, 17870, 17658, 17381, 17038, 16637, 16178, 15671, 15116, 14524, 13894, 13241, 12562, 11872, 11168, 10465, 9759, 9066, 8380, 7716, 7067, 6448, 5850, 5288, 4751, 4252, 3782, 3351, 2949, 2586, 2250, 1951, 1678, 1438, 1221, 1034, 866, 724, 598, 493, 400, 325, 259, 207, 162, 127, 97, 75, 56, 42, 30, 22, 15, 11, 7, 5, 3, 2, 1, 1], [1, 1, 2, 3, 5, 7, 11, 15, 22, 30, 42, 56, 76, 98, 129, 165, 212, 266, 336, 415, 515, 628, 766, 921, 1109, 1317, 1564, 1838, 2156, 2505, 2907, 3342, 3836, 4368, 4962, 5597, 6300, 7040, 7850, 8698, 9613, 10560, 11573, 12608, 13703, 14812, 15968, 17125, 18320, 19496, 20696, 21863, 23034, 24152, 25261, 26295, 27302, 28218, 29087, 29849, 30554, 31132, 31641, 32017, 32312, 32467, 32540, 32467, 32312, 32017, 31641, 31132, 30554, 29849, 29087, 28218, 27302, 26295, 25261, 24152, 23034, 21863, 20696, 19496, 18320, 17125, 15968, 14812, 13703, 12608, 11573, 10560, 9613, 8698, 7850, 7040, 6300, 5597, 4962, 4368, 3836, 3342, 2907, 2505, 2156, 1838, 1564, 1317, 1109, 921, 766, 628, 515, 415, 336, 266, 212, 165, 129, 98, 76, 56, 42, 30, 22, 15, 11, 7, 5, 3, 2, 1, 1], [1, 1, 2, 3, 5, 7, 11, 15, 22, 30, 42, 56, 76, 99, 130, 167, 215, 271, 343, 426, 530, 650, 796, 963, 1164, 1392, 1661, 1965, 2318, 2713, 3167, 3670, 4240, 4868, 5570, 6337, 7187, 8106, 9113, 10194, 11366, 12612, 13950, 15360, 16858, 18424, 20070, 21774, 23548, 25366, 27238, 29138, 31072, 33013, 34966, 36903, 38826, 40708, 42549, 44322, 46028, 47640, 49157, 50557, 51837, 52979, 53980, 54825, 55512, 56031, 56381, 56556, 56556, 56381, 56031, 55512, 54825, 53980, 52979, 51837, 50557, 49157, 47640, 46028, 44322, 42549, 40708, 38826, 36903, 34966, 33013, 31072, 29138, 27238, 25366, 23548, 21774, 20070, 18424, 16858, 15360, 13950, 12612, 11366, 10194, 9113, 8106, 7187, 6337, 5570, 4868, 4240, 3670, 3167, 2713, 2318, 1965, 1661, 1392, 1164, 963, 796, 650, 530, 426, 343, 271, 215, 167, 130, 99, 76, 56, 42, 30, 22, 15, 11, 7, 5, 3, 2, 1, 1]],
[[1], [1, 1, 1, 1, 1, 1, 1, 1, 1, 1, 1, 1, 1], [1, 1, 2, 2, 3, 3, 4, 4, 5, 5, 6, 6, 7, 6, 6, 5, 5, 4, 4, 3, 3, 2, 2, 1, 1], [1, 1, 2, 3, 4, 5, 7, 8, 10, 12, 14, 16, 19, 20, 22, 23, 24, 24, 25, 24, 24, 23, 22, 20, 19, 16, 14, 12, 10, 8, 7, 5, 4, 3, 2, 1, 1], [1, 1, 2, 3, 5, 6, 9, 11, 15, 18, 23, 27, 34, 38, 45, 50, 57, 61, 68, 71, 77, 79, 83, 83, 86, 83, 83, 79, 77, 71, 68, 61, 57, 50, 45, 38, 34, 27, 23, 18, 15, 11, 9, 6, 5, 3, 2, 1, 1], [1, 1, 2, 3, 5, 7, 10, 13, 18, 23, 30, 37, 47, 56, 68, 80, 94, 107, 123, 137, 154, 168, 184, 197, 212, 222, 233, 240, 247, 249, 252, 249, 247, 240, 233, 222, 212, 197, 184, 168, 154, 137, 123, 107, 94, 80, 68, 56, 47, 37, 30, 23, 18, 13, 10, 7, 5, 3, 2, 1, 1], [1, 1, 2, 3, 5, 7, 11, 14, 20, 26, 35, 44, 58, 70, 88, 106, 129, 151, 180, 206, 240, 271, 308, 341, 382, 415, 455, 488, 525, 553, 587, 608, 634, 648, 664, 668, 676, 668, 664, 648, 634, 608, 587, 553, 525, 488, 455, 415, 382, 341, 308, 271, 240, 206, 180, 151, 129, 106, 88, 70, 58, 44, 35, 26, 20, 14, 11, 7, 5, 3, 2, 1, 1], [1, 1, 2, 3, 5, 7, 11, 15, 21, 28, 38, 49, 65, 81, 103, 127, 157, 189, 229, 270, 320, 372, 432, 493, 564, 633, 711, 788, 871, 950, 1036, 1114, 1197, 1271, 1346, 1410, 1475, 1524, 1572, 1605, 1634, 1646, 1656, 1646, 1634, 1605, 1572, 1524, 1475, 1410, 1346, 1271, 1197, 1114, 1036, 950, 871, 788, 711, 633, 564, 493, 432, 372, 320, 270, 229, 189, 157, 127, 103, 81, 65, 49, 38, 28, 21, 15, 11, 7, 5, 3, 2, 1, 1], [1, 1, 2, 3, 5, 7, 11, 15, 22, 29, 40, 52, 70, 88, 114, 142, 179, 218, 269, 322, 389, 459, 544, 632, 738, 844, 969, 1095, 1239, 1381, 1542, 1697, 1870, 2034, 2212, 2378, 2557, 2716, 2885, 3032, 3184, 3308, 3436, 3531, 3627, 3688, 3746, 3768, 3788, 3768, 3746, 3688, 3627, 3531, 3436, 3308, 3184, 3032, 2885, 2716, 2557, 2378, 2212, 2034, 1870, 1697, 1542, 1381, 1239, 1095, 969, 844, 738, 632, 544, 459, 389, 322, 269, 218, 179, 142, 114, 88, 70, 52, 40, 29, 22, 15, 11, 7, 5, 3, 2, 1, 1], [1, 1, 2, 3, 5, 7, 11, 15, 22, 30, 41, 54, 73, 93, 121, 153, 194, 240, 299, 363, 443, 531, 636, 751, 888, 1033, 1202, 1383, 1587, 1802, 2044, 2293, 2569, 2852, 3157, 3466, 3798, 4124, 4469, 4807, 5155, 5488, 5829, 6144, 6461, 6748, 7026, 7268, 7500, 7684, 7853, 7975, 8074, 8122, 8150, 8122, 8074, 7975, 7853, 7684, 7500, 7268, 7026, 6748, 6461, 6144, 5829, 5488, 5155, 4807, 4469, 4124, 3798, 3466, 3157, 2852, 2569, 2293, 2044, 1802, 1587, 1383, 1202, 1033, 888, 751, 636, 531, 443, 363, 299, 240, 194, 153, 121, 93, 73, 54, 41, 30, 22, 15, 11, 7, 5, 3, 2, 1, 1], [1, 1, 2, 3, 5, 7, 11, 15, 22, 30, 42, 55, 75, 96, 126, 160, 205, 255, 321, 393, 485, 586, 710, 846, 1012, 1190, 1402, 1631, 1897, 2180, 2507, 2849, 3238, 3644, 4096, 4563, 5079, 5602, 6172, 6747, 7363, 7974, 8624, 9257, 9921, 10560, 11217, 11837, 12470, 13048, 13629, 14147, 14654, 15086, 15502, 15830, 16134, 16346, 16525, 16608, 16660, 16608, 16525, 16346, 16134, 15830, 15502, 15086, 14654, 14147, 13629, 13048, 12470, 11837, 11217, 10560, 9921, 9257, 8624, 7974, 7363, 6747, 6172, 5602, 5079, 4563, 4096, 3644, 3238, 2849, 2507, 2180, 1897, 1631, 1402, 1190, 1012, 846, 710, 586, 485, 393, 321, 255, 205, 160, 126, 96, 75, 55, 42, 30, 22, 15, 11, 7, 5, 3, 2, 1, 1], [1, 1, 2, 3, 5, 7, 11, 15, 22, 30, 42, 56, 76, 98, 129, 165, 212, 266, 336, 415, 515, 628, 766, 921, 1109, 1317, 1564, 1838, 2156, 2505, 2907, 3342, 3836, 4368, 4962, 5597, 6300, 7040, 7850, 8698, 9613, 10560, 11573, 12608, 13703, 14812, 15968, 17125, 18320, 19496, 20696, 21863, 23034, 24152, 25261, 26295, 27302, 28218, 29087, 29849, 30554, 31132, 31641, 32017, 32312, 32467, 32540, 32467, 32312, 32017, 31641, 31132, 30554, 29849, 29087, 28218, 27302, 26295, 25261, 24152, 23034, 21863, 20696, 19496, 18320, 17125, 15968, 14812, 13703, 12608, 11573, 10560, 9613, 8698, 7850, 7040, 6300, 5597, 4962, 4368, 3836, 3342, 2907, 2505, 2156, 1838, 1564, 1317, 1109, 921, 766, 628, 515, 415, 336, 266, 212, 165, 129, 98, 76, 56, 42, 30, 22, 15, 11, 7, 5, 3, 2, 1, 1], [1, 1, 2, 3, 5, 7, 11, 15, 22, 30, 42, 56, 77, 99, 131, 168, 217, 273, 347, 430, 537, 658, 808, 977, 1185, 1415, 1693, 2003, 2368, 2771, 3243, 3757, 4351, 4996, 5728, 6518, 7409, 8357, 9414, 10536, 11769, 13065, 14480, 15950, 17539, 19180, 20930, 22722, 24620, 26536, 28546, 30561, 32647, 34712, 36834, 38903, 41005, 43030, 45055, 46974, 48874, 50628, 52337, 53880, 55346, 56619, 57801, 58762, 59614, 60235, 60728, 60981, 61108, 60981, 60728, 60235, 59614, 58762, 57801, 56619, 55346, 53880, 52337, 50628, 48874, 46974, 45055, 43030, 41005, 38903, 36834, 34712, 32647, 30561, 28546, 26536, 24620, 22722, 20930, 19180, 17539, 15950, 14480, 13065, 11769, 10536, 9414, 8357, 7409, 6518, 5728, 4996, 4351, 3757, 3243, 2771, 2368, 2003, 1693, 1415, 1185, 977, 808, 658, 537, 430, 347, 273, 217, 168, 131, 99, 77, 56, 42, 30, 22, 15, 11, 7, 5, 3, 2, 1, 1]],
[[1], [1, 1, 1, 1, 1, 1, 1, 1, 1, 1, 1, 1, 1, 1], [1, 1, 2, 2, 3, 3, 4, 4, 5, 5, 6, 6, 7, 7, 7, 6, 6, 5, 5, 4, 4, 3, 3, 2, 2, 1, 1], [1, 1, 2, 3, 4, 5, 7, 8, 10, 12, 14, 16, 19, 21, 23, 25, 26, 27, 28, 28, 28, 28, 27, 26, 25, 23, 21, 19, 16, 14, 12, 10, 8, 7, 5, 4, 3, 2, 1, 1], [1, 1, 2, 3, 5, 6, 9, 11, 15, 18, 23, 27, 34, 39, 46, 52, 60, 65, 73, 78, 85, 89, 95, 97, 102, 102, 104, 102, 102, 97, 95, 89, 85, 78, 73, 65, 60, 52, 46, 39, 34, 27, 23, 18, 15, 11, 9, 6, 5, 3, 2, 1, 1], [1, 1, 2, 3, 5, 7, 10, 13, 18, 23, 30, 37, 47, 57, 69, 82, 97, 112, 129, 146, 165, 183, 202, 220, 239, 256, 272, 286, 299, 309, 317, 322, 325, 325, 322, 317, 309, 299, 286, 272, 256, 239, 220, 202, 183, 165, 146, 129, 112, 97, 82, 69, 57, 47, 37, 30, 23, 18, 13, 10, 7, 5, 3, 2, 1, 1], [1, 1, 2, 3, 5, 7, 11, 14, 20, 26, 35, 44, 58, 71, 89, 108, 132, 156, 187, 216, 253, 289, 331, 371, 419, 462, 512, 557, 607, 650, 699, 737, 780, 813, 847, 870, 896, 907, 920, 920, 920, 907, 896, 870, 847, 813, 780, 737, 699, 650, 607, 557, 512, 462, 419, 371, 331, 289, 253, 216, 187, 156, 132, 108, 89, 71, 58, 44, 35, 26, 20, 14, 11, 7, 5, 3, 2, 1, 1], [1, 1, 2, 3, 5, 7, 11, 15, 21, 28, 38, 49, 65, 82, 104, 129, 160, 194, 236, 281, 334, 392, 458, 528, 608, 691, 782, 877, 979, 1082, 1192, 1301, 1413, 1524, 1635, 1741, 1846, 1943, 2034, 2117, 2191, 2253, 2306, 2345, 2371, 2385, 2385, 2371, 2345, 2306, 2253, 2191, 2117, 2034, 1943, 1846, 1741, 1635, 1524, 1413, 1301, 1192, 1082, 979, 877, 782, 691, 608, 528, 458, 392, 334, 281, 236, 194, 160, 129, 104, 82, 65, 49, 38, 28, 21, 15, 11, 7, 5, 3, 2, 1, 1], [1, 1, 2, 3, 5, 7, 11, 15, 22, 29, 40, 52, 70, 89, 115, 144, 182, 223, 276, 333, 404, 480, 572, 670, 787, 909, 1051, 1199, 1368, 1541, 1736, 1933, 2151, 2368, 2604, 2836, 3085, 3324, 3576, 3814, 4061, 4287, 4518, 4723, 4928, 5101, 5270, 5403, 5529, 5614, 5689, 5722, 5744, 5722, 5689, 5614, 5529, 5403, 5270, 5101, 4928, 4723, 4518, 4287, 4061, 3814, 3576, 3324, 3085, 2836, 2604, 2368, 2151, 1933, 1736, 1541, 1368, 1199, 1051, 909, 787, 670, 572, 480, 404, 333, 276, 223, 182, 144, 115, 89, 70, 52, 40, 29, 22, 15, 11, 7, 5, 3, 2, 1, 1], [1, 1, 2, 3, 5, 7, 11, 15, 22, 30, 41, 54, 73, 94, 122, 155, 197, 245, 306, 374, 458, 553, 665, 791, 940, 1103, 1291, 1498, 1731, 1984, 2267, 2569, 2902, 3256, 3637, 4038, 4468, 4911, 5378, 5858, 6354, 6856, 7370, 7880, 8394, 8899, 9394, 9872, 10336, 10769, 11177, 11551, 11888, 12183, 12437, 12640, 12797, 12903, 12954, 12954, 12903, 12797, 12640, 12437, 12183, 11888, 11551, 11177, 10769, 10336, 9872, 9394, 8899, 8394, 7880, 7370, 6856, 6354, 5858, 5378, 4911, 4468, 4038, 3637, 3256, 2902, 2569, 2267, 1984, 1731, 1498, 1291, 1103, 940, 791, 665, 553, 458, 374, 306, 245, 197, 155, 122, 94, 73, 54, 41, 30, 22, 15, 11, 7, 5, 3, 2, 1, 1], [1, 1, 2, 3, 5, 7, 11, 15, 22, 30, 42, 55, 75, 97, 127, 162, 208, 260, 328, 404, 500, 608, 740, 887, 1066, 1263, 1496, 1753, 2052, 2377, 2752, 3155, 3612, 4102, 4649, 5228, 5870, 6542, 7275, 8038, 8861, 9705, 10608, 11524, 12490, 13462, 14473, 15474, 16508, 17516, 18540, 19525, 20512, 21440, 22358, 23200, 24014, 24740, 25424, 26002, 26532, 26944, 27294, 27523, 27685, 27718, 27685, 27523, 27294, 26944, 26532, 26002, 25424, 24740, 24014, 23200, 22358, 21440, 20512, 19525, 18540, 17516, 16508, 15474, 14473, 13462, 12490, 11524, 10608, 9705, 8861, 8038, 7275, 6542, 5870, 5228, 4649, 4102, 3612, 3155, 2752, 2377, 2052, 1753, 1496, 1263, 1066, 887, 740, 608, 500, 404, 328, 260, 208, 162, 127, 97, 75, 55, 42, 30, 22, 15, 11, 7, 5, 3, 2, 1, 1], [1, 1, 2, 3, 5, 7, 11, 15, 22, 30, 42, 56, 76, 99, 130, 167, 215, 271, 343, 426, 530, 650, 796, 963, 1164, 1392, 1661, 1965, 2318, 2713, 3167, 3670, 4240, 4868, 5570, 6337, 7187, 8106, 9113, 10194, 11366, 12612, 13950, 15360, 16858, 18424, 20070, 21774, 23548, 25366, 27238, 29138, 31072, 33013, 34966, 36903, 38826, 40708, 42549, 44322, 46028, 47640, 49157, 50557, 51837, 52979, 53980, 54825, 55512, 56031, 56381, 56556, 56556, 56381, 56031, 55512, 54825, 53980, 52979, 51837, 50557, 49157, 47640, 46028, 44322, 42549, 40708, 38826, 36903, 34966, 33013, 31072, 29138, 27238, 25366, 23548, 21774, 20070, 18424, 16858, 15360, 13950, 12612, 11366, 10194, 9113, 8106, 7187, 6337, 5570, 4868, 4240, 3670, 3167, 2713, 2318, 1965, 1661, 1392, 1164, 963, 796, 650, 530, 426, 343, 271, 215, 167, 130, 99, 76, 56, 42, 30, 22, 15, 11, 7, 5, 3, 2, 1, 1]],
[[1], [1, 1, 1, 1, 1, 1, 1, 1, 1, 1, 1, 1, 1, 1, 1], [1, 1, 2, 2, 3, 3, 4, 4, 5, 5, 6, 6, 7, 7, 8, 7, 7, 6, 6, 5, 5, 4, 4, 3, 3, 2, 2, 1, 1], [1, 1, 2, 3, 4, 5, 7, 8, 10, 12, 14, 16, 19, 21, 24, 26, 28, 29, 31, 31, 32, 32, 32, 31, 31, 29, 28, 26, 24, 21, 19, 16, 14, 12, 10, 8, 7, 5, 4, 3, 2, 1, 1], [1, 1, 2, 3, 5, 6, 9, 11, 15, 18, 23, 27, 34, 39, 47, 53, 62, 68, 77, 83, 92, 97, 105, 109, 116, 118, 123, 123, 126, 123, 123, 118, 116, 109, 105, 97, 92, 83, 77, 68, 62, 53, 47, 39, 34, 27, 23, 18, 15, 11, 9, 6, 5, 3, 2, 1, 1], [1, 1, 2, 3, 5, 7, 10, 13, 18, 23, 30, 37, 47, 57, 70, 83, 99, 115, 134, 152, 174, 194, 217, 238, 262, 283, 306, 325, 346, 362, 379, 390, 402, 408, 414, 414, 414, 408, 402, 390, 379, 362, 346, 325, 306, 283, 262, 238, 217, 194, 174, 152, 134, 115, 99, 83, 70, 57, 47, 37, 30, 23, 18, 13, 10, 7, 5, 3, 2, 1, 1], [1, 1, 2, 3, 5, 7, 11, 14, 20, 26, 35, 44, 58, 71, 90, 109, 134, 159, 192, 223, 263, 302, 349, 394, 449, 499, 559, 614, 677, 733, 798, 852, 914, 965, 1021, 1064, 1113, 1145, 1182, 1203, 1226, 1232, 1242, 1232, 1226, 1203, 1182, 1145, 1113, 1064, 1021, 965, 914, 852, 798, 733, 677, 614, 559, 499, 449, 394, 349, 302, 263, 223, 192, 159, 134, 109, 90, 71, 58, 44, 35, 26, 20, 14, 11, 7, 5, 3, 2, 1, 1], [1, 1, 2, 3, 5, 7, 11, 15, 21, 28, 38, 49, 65, 82, 105, 130, 162, 197, 241, 288, 345, 406, 478, 554, 643, 735, 840, 948, 1069, 1191, 1326, 1460, 1605, 1747, 1898, 2043, 2195, 2337, 2483, 2616, 2750, 2867, 2983, 3078, 3169, 3237, 3299, 3336, 3366, 3370, 3366, 3336, 3299, 3237, 3169, 3078, 2983, 2867, 2750, 2616, 2483, 2337, 2195, 2043, 1898, 1747, 1605, 1460, 1326, 1191, 1069, 948, 840, 735, 643, 554, 478, 406, 345, 288, 241, 197, 162, 130, 105, 82, 65, 49, 38, 28, 21, 15, 11, 7, 5, 3, 2, 1, 1], [1, 1, 2, 3, 5, 7, 11, 15, 22, 29, 40, 52, 70, 89, 116, 145, 184, 226, 281, 340, 415, 495, 593, 698, 825, 958, 1116, 1281, 1473, 1671, 1898, 2130, 2392, 2656, 2949, 3242, 3563, 3878, 4219, 4549, 4901, 5235, 5587, 5914, 6254, 6561, 6875, 7150, 7427, 7657, 7884, 8059, 8227, 8338, 8439, 8481, 8512, 8481, 8439, 8338, 8227, 8059, 7884, 7657, 7427, 7150, 6875, 6561, 6254, 5914, 5587, 5235, 4901, 4549, 4219, 3878, 3563, 3242, 2949, 2656, 2392, 2130, 1898, 1671, 1473, 1281, 1116, 958, 825, 698, 593, 495, 415, 340, 281, 226, 184, 145, 116, 89, 70, 52, 40, 29, 22, 15, 11, 7, 5, 3, 2, 1, 1], [1, 1, 2, 3, 5, 7, 11, 15, 22, 30, 41, 54, 73, 94, 123, 156, 199, 248, 311, 381, 469, 568, 687, 820, 980, 1155, 1361, 1587, 1847, 2129, 2451, 2795, 3183, 3596, 4052, 4533, 5061, 5609, 6203, 6816, 7470, 8137, 8843, 9551, 10292, 11029, 11786, 12528, 13285, 14011, 14740, 15429, 16107, 16732, 17338, 17875, 18384, 18817, 19208, 19515, 19778, 19947, 20067, 20094, 20067, 19947, 19778, 19515, 19208, 18817, 18384, 17875, 17338, 16732, 16107, 15429, 14740, 14011, 13285, 12528, 11786, 11029, 10292, 9551, 8843, 8137, 7470, 6816, 6203, 5609, 5061, 4533, 4052, 3596, 3183, 2795, 2451, 2129, 1847, 1587, 1361, 1155, 980, 820, 687, 568, 469, 381, 311, 248, 199, 156, 123, 94, 73, 54, 41, 30, 22, 15, 11, 7, 5, 3, 2, 1, 1], [1, 1, 2, 3, 5, 7, 11, 15, 22, 30, 42, 55, 75, 97, 128, 163, 210, 263, 333, 411, 511, 623, 762, 917, 1107, 1317, 1569, 1847, 2175, 2533, 2951, 3403, 3923, 4483, 5118, 5796, 6557, 7362, 8255, 9193, 10222, 11292, 12455, 13653, 14941, 16257, 17656, 19070, 20560, 22049, 23601, 25134, 26715, 28256, 29828, 31337, 32857, 34291, 35716, 37031, 38318, 39472, 40579, 41534, 42425, 43147, 43792, 44255, 44632, 44819, 44916, 44819, 44632, 44255, 43792, 43147, 42425, 41534, 40579, 39472, 38318, 37031, 35716, 34291, 32857, 31337, 29828, 28256, 26715, 25134, 23601, 22049, 20560, 19070, 17656, 16257, 14941, 13653, 12455, 11292, 10222, 9193, 8255, 7362, 6557, 5796, 5118, 4483, 3923, 3403, 2951, 2533, 2175, 1847, 1569, 1317, 1107, 917, 762, 623, 511, 411, 333, 263, 210, 163, 128, 97, 75, 55, 42, 30, 22, 15, 11, 7, 5, 3, 2, 1, 1]],
[[1], [1, 1, 1, 1, 1, 1, 1, 1, 1, 1, 1, 1, 1, 1, 1, 1], [1, 1, 2, 2, 3, 3, 4, 4, 5, 5, 6, 6, 7, 7, 8, 8, 8, 7, 7, 6, 6, 5, 5, 4, 4, 3, 3, 2, 2, 1, 1], [1, 1, 2, 3, 4, 5, 7, 8, 10, 12, 14, 16, 19, 21, 24, 27, 29, 31, 33, 34, 35, 36, 36, 36, 36, 35, 34, 33, 31, 29, 27, 24, 21, 19, 16, 14, 12, 10, 8, 7, 5, 4, 3, 2, 1, 1], [1, 1, 2, 3, 5, 6, 9, 11, 15, 18, 23, 27, 34, 39, 47, 54, 63, 70, 80, 87, 97, 104, 113, 119, 128, 132, 139, 142, 147, 147, 150, 147, 147, 142, 139, 132, 128, 119, 113, 104, 97, 87, 80, 70, 63, 54, 47, 39, 34, 27, 23, 18, 15, 11, 9, 6, 5, 3, 2, 1, 1], [1, 1, 2, 3, 5, 7, 10, 13, 18, 23, 30, 37, 47, 57, 70, 84, 100, 117, 137, 157, 180, 203, 228, 253, 280, 306, 333, 359, 385, 409, 433, 453, 472, 488, 501, 511, 518, 521, 521, 518, 511, 501, 488, 472, 453, 433, 409, 385, 359, 333, 306, 280, 253, 228, 203, 180, 157, 137, 117, 100, 84, 70, 57, 47, 37, 30, 23, 18, 13, 10, 7, 5, 3, 2, 1, 1], [1, 1, 2, 3, 5, 7, 11, 14, 20, 26, 35, 44, 58, 71, 90, 110, 135, 161, 195, 228, 270, 312, 362, 412, 472, 529, 596, 661, 734, 803, 882, 952, 1031, 1102, 1178, 1244, 1316, 1373, 1435, 1483, 1532, 1565, 1601, 1617, 1635, 1636, 1635, 1617, 1601, 1565, 1532, 1483, 1435, 1373, 1316, 1244, 1178, 1102, 1031, 952, 882, 803, 734, 661, 596, 529, 472, 412, 362, 312, 270, 228, 195, 161, 135, 110, 90, 71, 58, 44, 35, 26, 20, 14, 11, 7, 5, 3, 2, 1, 1], [1, 1, 2, 3, 5, 7, 11, 15, 21, 28, 38, 49, 65, 82, 105, 131, 163, 199, 244, 293, 352, 417, 492, 574, 669, 770, 884, 1006, 1140, 1281, 1436, 1595, 1766, 1942, 2126, 2313, 2507, 2699, 2895, 3088, 3279, 3463, 3644, 3812, 3972, 4119, 4251, 4367, 4468, 4548, 4610, 4652, 4672, 4672, 4652, 4610, 4548, 4468, 4367, 4251, 4119, 3972, 3812, 3644, 3463, 3279, 3088, 2895, 2699, 2507, 2313, 2126, 1942, 1766, 1595, 1436, 1281, 1140, 1006, 884, 770, 669, 574, 492, 417, 352, 293, 244, 199, 163, 131, 105, 82, 65, 49, 38, 28, 21, 15, 11, 7, 5, 3, 2, 1, 1], [1, 1, 2, 3, 5, 7, 11, 15, 22, 29, 40, 52, 70, 89, 116, 146, 185, 228, 284, 345, 422, 506, 608, 719, 853, 996, 1165, 1346, 1555, 1776, 2029, 2293, 2591, 2900, 3242, 3594, 3980, 4370, 4793, 5218, 5671, 6119, 6593, 7054, 7535, 7997, 8470, 8916, 9369, 9783, 10197, 10566, 10926, 11233, 11527, 11760, 11975, 12125, 12251, 12310, 12346, 12310, 12251, 12125, 11975, 11760, 11527, 11233, 10926, 10566, 10197, 9783, 9369, 8916, 8470, 7997, 7535, 7054, 6593, 6119, 5671, 5218, 4793, 4370, 3980, 3594, 3242, 2900, 2591, 2293, 2029, 1776, 1555, 1346, 1165, 996, 853, 719, 608, 506, 422, 345, 284, 228, 185, 146, 116, 89, 70, 52, 40, 29, 22, 15, 11, 7, 5, 3, 2, 1, 1], [1, 1, 2, 3, 5, 7, 11, 15, 22, 30, 41, 54, 73, 94, 123, 157, 200, 250, 314, 386, 476, 579, 702, 842, 1009, 1195, 1413, 1657, 1936, 2245, 2597, 2980, 3411, 3880, 4397, 4955, 5567, 6217, 6922, 7669, 8466, 9302, 10189, 11106, 12068, 13058, 14079, 15119, 16185, 17253, 18334, 19409, 20477, 21525, 22556, 23546, 24503, 25410, 26262, 27050, 27775, 28417, 28983, 29463, 29850, 30144, 30344, 30441, 30441, 30344, 30144, 29850, 29463, 28983, 28417, 27775, 27050, 26262, 25410, 24503, 23546, 22556, 21525, 20477, 19409, 18334, 17253, 16185, 15119, 14079, 13058, 12068, 11106, 10189, 9302, 8466, 7669, 6922, 6217, 5567, 4955, 4397, 3880, 3411, 2980, 2597, 2245, 1936, 1657, 1413, 1195, 1009, 842, 702, 579, 476, 386, 314, 250, 200, 157, 123, 94, 73, 54, 41, 30, 22, 15, 11, 7, 5, 3, 2, 1, 1]],
[[1], [1, 1, 1, 1, 1, 1, 1, 1, 1, 1, 1, 1, 1, 1, 1, 1, 1], [1, 1, 2, 2, 3, 3, 4, 4, 5, 5, 6, 6, 7, 7, 8, 8, 9, 8, 8, 7, 7, 6, 6, 5, 5, 4, 4, 3, 3, 2, 2, 1, 1], [1, 1, 2, 3, 4, 5, 7, 8, 10, 12, 14, 16, 19, 21, 24, 27, 30, 32, 35, 36, 38, 39, 40, 40, 41, 40, 40, 39, 38, 36, 35, 32, 30, 27, 24, 21, 19, 16, 14, 12, 10, 8, 7, 5, 4, 3, 2, 1, 1], [1, 1, 2, 3, 5, 6, 9, 11, 15, 18, 23, 27, 34, 39, 47, 54, 64, 71, 82, 90, 101, 109, 120, 127, 138, 144, 153, 158, 166, 168, 174, 174, 177, 174, 174, 168, 166, 158, 153, 144, 138, 127, 120, 109, 101, 90, 82, 71, 64, 54, 47, 39, 34, 27, 23, 18, 15, 11, 9, 6, 5, 3, 2, 1, 1], [1, 1, 2, 3, 5, 7, 10, 13, 18, 23, 30, 37, 47, 57, 70, 84, 101, 118, 139, 160, 185, 209, 237, 264, 295, 324, 356, 386, 419, 448, 480, 507, 536, 559, 583, 601, 619, 630, 641, 645, 649, 645, 641, 630, 619, 601, 583, 559, 536, 507, 480, 448, 419, 386, 356, 324, 295, 264, 237, 209, 185, 160, 139, 118, 101, 84, 70, 57, 47, 37, 30, 23, 18, 13, 10, 7, 5, 3, 2, 1, 1], [1, 1, 2, 3, 5, 7, 11, 14, 20, 26, 35, 44, 58, 71, 90, 110, 136, 162, 197, 231, 275, 319, 372, 425, 490, 552, 626, 698, 781, 860, 952, 1036, 1132, 1220, 1317, 1404, 1501, 1582, 1672, 1747, 1827, 1889, 1957, 2003, 2054, 2084, 2115, 2124, 2137, 2124, 2115, 2084, 2054, 2003, 1957, 1889, 1827, 1747, 1672, 1582, 1501, 1404, 1317, 1220, 1132, 1036, 952, 860, 781, 698, 626, 552, 490, 425, 372, 319, 275, 231, 197, 162, 136, 110, 90, 71, 58, 44, 35, 26, 20, 14, 11, 7, 5, 3, 2, 1, 1], [1, 1, 2, 3, 5, 7, 11, 15, 21, 28, 38, 49, 65, 82, 105, 131, 164, 200, 246, 296, 357, 424, 503, 588, 689, 796, 919, 1050, 1198, 1352, 1526, 1705, 1902, 2104, 2323, 2544, 2782, 3018, 3267, 3513, 3769, 4015, 4270, 4510, 4753, 4979, 5203, 5403, 5600, 5768, 5927, 6056, 6173, 6254, 6324, 6357, 6375, 6357, 6324, 6254, 6173, 6056, 5927, 5768, 5600, 5403, 5203, 4979, 4753, 4510, 4270, 4015, 3769, 3513, 3267, 3018, 2782, 2544, 2323, 2104, 1902, 1705, 1526, 1352, 1198, 1050, 919, 796, 689, 588, 503, 424, 357, 296, 246, 200, 164, 131, 105, 82, 65, 49, 38, 28, 21, 15, 11, 7, 5, 3, 2, 1, 1], [1, 1, 2, 3, 5, 7, 11, 15, 22, 29, 40, 52, 70, 89, 116, 146, 186, 229, 286, 348, 427, 513, 619, 734, 874, 1024, 1203, 1395, 1620, 1858, 2134, 2424, 2755, 3100, 3488, 3890, 4337, 4794, 5296, 5806, 6360, 6915, 7512, 8104, 8733, 9349, 9996, 10621, 11271, 11887, 12520, 13110, 13708, 14251, 14794, 15273, 15744, 16140, 16521, 16820, 17099, 17289, 17454, 17528, 17575, 17528, 17454, 17289, 17099, 16820, 16521, 16140, 15744, 15273, 14794, 14251, 13708, 13110, 12520, 11887, 11271, 10621, 9996, 9349, 8733, 8104, 7512, 6915, 6360, 5806, 5296, 4794, 4337, 3890, 3488, 3100, 2755, 2424, 2134, 1858, 1620, 1395, 1203, 1024, 874, 734, 619, 513, 427, 348, 286, 229, 186, 146, 116, 89, 70, 52, 40, 29, 22, 15, 11, 7, 5, 3, 2, 1, 1]],
[[1], [1, 1, 1, 1, 1, 1, 1, 1, 1, 1, 1, 1, 1, 1, 1, 1, 1, 1], [1, 1, 2, 2, 3, 3, 4, 4, 5, 5, 6, 6, 7, 7, 8, 8, 9, 9, 9, 8, 8, 7, 7, 6, 6, 5, 5, 4, 4, 3, 3, 2, 2, 1, 1], [1, 1, 2, 3, 4, 5, 7, 8, 10, 12, 14, 16, 19, 21, 24, 27, 30, 33, 36, 38, 40, 42, 43, 44, 45, 45, 45, 45, 44, 43, 42, 40, 38, 36, 33, 30, 27, 24, 21, 19, 16, 14, 12, 10, 8, 7, 5, 4, 3, 2, 1, 1], [1, 1, 2, 3, 5, 6, 9, 11, 15, 18, 23, 27, 34, 39, 47, 54, 64, 72, 83, 92, 104, 113, 125, 134, 146, 154, 165, 172, 182, 187, 195, 198, 204, 204, 207, 204, 204, 198, 195, 187, 182, 172, 165, 154, 146, 134, 125, 113, 104, 92, 83, 72, 64, 54, 47, 39, 34, 27, 23, 18, 15, 11, 9, 6, 5, 3, 2, 1, 1], [1, 1, 2, 3, 5, 7, 10, 13, 18, 23, 30, 37, 47, 57, 70, 84, 101, 119, 140, 162, 188, 214, 243, 273, 306, 339, 374, 409, 446, 482, 519, 554, 590, 623, 655, 684, 711, 734, 754, 770, 783, 791, 795, 795, 791, 783, 770, 754, 734, 711, 684, 655, 623, 590, 554, 519, 482, 446, 409, 374, 339, 306, 273, 243, 214, 188, 162, 140, 119, 101, 84, 70, 57, 47, 37, 30, 23, 18, 13, 10, 7, 5, 3, 2, 1, 1], [1, 1, 2, 3, 5, 7, 11, 14, 20, 26, 35, 44, 58, 71, 90, 110, 136, 163, 198, 233, 278, 324, 379, 435, 503, 570, 649, 728, 818, 907, 1009, 1106, 1216, 1321, 1436, 1544, 1663, 1770, 1886, 1990, 2100, 2195, 2296, 2377, 2463, 2530, 2597, 2643, 2691, 2714, 2738, 2739, 2738, 2714, 2691, 2643, 2597, 2530, 2463, 2377, 2296, 2195, 2100, 1990, 1886, 1770, 1663, 1544, 1436, 1321, 1216, 1106, 1009, 907, 818, 728, 649, 570, 503, 435, 379, 324, 278, 233, 198, 163, 136, 110, 90, 71, 58, 44, 35, 26, 20, 14, 11, 7, 5, 3, 2, 1, 1], [1, 1, 2, 3, 5, 7, 11, 15, 21, 28, 38, 49, 65, 82, 105, 131, 164, 201, 247, 298, 360, 429, 510, 599, 703, 816, 945, 1085, 1242, 1410, 1597, 1795, 2012, 2240, 2486, 2742, 3015, 3296, 3591, 3892, 4204, 4518, 4840, 5159, 5481, 5797, 6110, 6412, 6706, 6984, 7248, 7492, 7717, 7917, 8094, 8243, 8365, 8457, 8519, 8550, 8550, 8519, 8457, 8365, 8243, 8094, 7917, 7717, 7492, 7248, 6984, 6706, 6412, 6110, 5797, 5481, 5159, 4840, 4518, 4204, 3892, 3591, 3296, 3015, 2742, 2486, 2240, 2012, 1795, 1597, 1410, 1242, 1085, 945, 816, 703, 599, 510, 429, 360, 298, 247, 201, 164, 131, 105, 82, 65, 49, 38, 28, 21, 15, 11, 7, 5, 3, 2, 1, 1]],
[[1], [1, 1, 1, 1, 1, 1, 1, 1, 1, 1, 1, 1, 1, 1, 1, 1, 1, 1, 1], [1, 1, 2, 2, 3, 3, 4, 4, 5, 5, 6, 6, 7, 7, 8, 8, 9, 9, 10, 9, 9, 8, 8, 7, 7, 6, 6, 5, 5, 4, 4, 3, 3, 2, 2, 1, 1], [1, 1, 2, 3, 4, 5, 7, 8, 10, 12, 14, 16, 19, 21, 24, 27, 30, 33, 37, 39, 42, 44, 46, 47, 49, 49, 50, 50, 50, 49, 49, 47, 46, 44, 42, 39, 37, 33, 30, 27, 24, 21, 19, 16, 14, 12, 10, 8, 7, 5, 4, 3, 2, 1, 1], [1, 1, 2, 3, 5, 6, 9, 11, 15, 18, 23, 27, 34, 39, 47, 54, 64, 72, 84, 93, 106, 116, 129, 139, 153, 162, 175, 184, 196, 203, 214, 219, 228, 231, 237, 237, 241, 237, 237, 231, 228, 219, 214, 203, 196, 184, 175, 162, 153, 139, 129, 116, 106, 93, 84, 72, 64, 54, 47, 39, 34, 27, 23, 18, 15, 11, 9, 6, 5, 3, 2, 1, 1], [1, 1, 2, 3, 5, 7, 10, 13, 18, 23, 30, 37, 47, 57, 70, 84, 101, 119, 141, 163, 190, 217, 248, 279, 315, 350, 389, 427, 469, 509, 553, 593, 637, 677, 719, 756, 795, 827, 860, 886, 912, 930, 948, 957, 966, 967, 966, 957, 948, 930, 912, 886, 860, 827, 795, 756, 719, 677, 637, 593, 553, 509, 469, 427, 389, 350, 315, 279, 248, 217, 190, 163, 141, 119, 101, 84, 70, 57, 47, 37, 30, 23, 18, 13, 10, 7, 5, 3, 2, 1, 1], [1, 1, 2, 3, 5, 7, 11, 14, 20, 26, 35, 44, 58, 71, 90, 110, 136, 163, 199, 234, 280, 327, 384, 442, 513, 583, 667, 751, 848, 944, 1056, 1163, 1286, 1405, 1537, 1663, 1804, 1933, 2076, 2207, 2348, 2474, 2611, 2727, 2852, 2957, 3066, 3152, 3244, 3307, 3375, 3416, 3457, 3470, 3486, 3470, 3457, 3416, 3375, 3307, 3244, 3152, 3066, 2957, 2852, 2727, 2611, 2474, 2348, 2207, 2076, 1933, 1804, 1663, 1537, 1405, 1286, 1163, 1056, 944, 848, 751, 667, 583, 513, 442, 384, 327, 280, 234, 199, 163, 136, 110, 90, 71, 58, 44, 35, 26, 20, 14, 11, 7, 5, 3, 2, 1, 1]],
[[1], [1, 1, 1, 1, 1, 1, 1, 1, 1, 1, 1, 1, 1, 1, 1, 1, 1, 1, 1, 1], [1, 1, 2, 2, 3, 3, 4, 4, 5, 5, 6, 6, 7, 7, 8, 8, 9, 9, 10, 10, 10, 9, 9, 8, 8, 7, 7, 6, 6, 5, 5, 4, 4, 3, 3, 2, 2, 1, 1], [1, 1, 2, 3, 4, 5, 7, 8, 10, 12, 14, 16, 19, 21, 24, 27, 30, 33, 37, 40, 43, 46, 48, 50, 52, 53, 54, 55, 55, 55, 55, 54, 53, 52, 50, 48, 46, 43, 40, 37, 33, 30, 27, 24, 21, 19, 16, 14, 12, 10, 8, 7, 5, 4, 3, 2, 1, 1], [1, 1, 2, 3, 5, 6, 9, 11, 15, 18, 23, 27, 34, 39, 47, 54, 64, 72, 84, 94, 107, 118, 132, 143, 158, 169, 183, 194, 208, 217, 230, 238, 249, 255, 264, 267, 274, 274, 277, 274, 274, 267, 264, 255, 249, 238, 230, 217, 208, 194, 183, 169, 158, 143, 132, 118, 107, 94, 84, 72, 64, 54, 47, 39, 34, 27, 23, 18, 15, 11, 9, 6, 5, 3, 2, 1, 1], [1, 1, 2, 3, 5, 7, 10, 13, 18, 23, 30, 37, 47, 57, 70, 84, 101, 119, 141, 164, 191, 219, 251, 284, 321, 359, 400, 442, 487, 532, 580, 627, 676, 724, 773, 820, 867, 911, 954, 993, 1030, 1062, 1091, 1115, 1135, 1150, 1160, 1165, 1165, 1160, 1150, 1135, 1115, 1091, 1062, 1030, 993, 954, 911, 867, 820, 773, 724, 676, 627, 580, 532, 487, 442, 400, 359, 321, 284, 251, 219, 191, 164, 141, 119, 101, 84, 70, 57, 47, 37, 30, 23, 18, 13, 10, 7, 5, 3, 2, 1, 1]],
[[1], [1, 1, 1, 1, 1, 1, 1, 1, 1, 1, 1, 1, 1, 1, 1, 1, 1, 1, 1, 1, 1], [1, 1, 2, 2, 3, 3, 4, 4, 5, 5, 6, 6, 7, 7, 8, 8, 9, 9, 10, 10, 11, 10, 10, 9, 9, 8, 8, 7, 7, 6, 6, 5, 5, 4, 4, 3, 3, 2, 2, 1, 1], [1, 1, 2, 3, 4, 5, 7, 8, 10, 12, 14, 16, 19, 21, 24, 27, 30, 33, 37, 40, 44, 47, 50, 52, 55, 56, 58, 59, 60, 60, 61, 60, 60, 59, 58, 56, 55, 52, 50, 47, 44, 40, 37, 33, 30, 27, 24, 21, 19, 16, 14, 12, 10, 8, 7, 5, 4, 3, 2, 1, 1], [1, 1, 2, 3, 5, 6, 9, 11, 15, 18, 23, 27, 34, 39, 47, 54, 64, 72, 84, 94, 108, 119, 134, 146, 162, 174, 190, 202, 218, 229, 244, 254, 268, 276, 288, 294, 304, 307, 314, 314, 318, 314, 314, 307, 304, 294, 288, 276, 268, 254, 244, 229, 218, 202, 190, 174, 162, 146, 134, 119, 108, 94, 84, 72, 64, 54, 47, 39, 34, 27, 23, 18, 15, 11, 9, 6, 5, 3, 2, 1, 1]],
[[1], [1, 1, 1, 1, 1, 1, 1, 1, 1, 1, 1, 1, 1, 1, 1, 1, 1, 1, 1, 1, 1, 1], [1, 1, 2, 2, 3, 3, 4, 4, 5, 5, 6, 6, 7, 7, 8, 8, 9, 9, 10, 10, 11, 11, 11, 10, 10, 9, 9, 8, 8, 7, 7, 6, 6, 5, 5, 4, 4, 3, 3, 2, 2, 1, 1], [1, 1, 2, 3, 4, 5, 7, 8, 10, 12, 14, 16, 19, 21, 24, 27, 30, 33, 37, 40, 44, 48, 51, 54, 57, 59, 61, 63, 64, 65, 66, 66, 66, 66, 65, 64, 63, 61, 59, 57, 54, 51, 48, 44, 40, 37, 33, 30, 27, 24, 21, 19, 16, 14, 12, 10, 8, 7, 5, 4, 3, 2, 1, 1]],
[[1], [1, 1, 1, 1, 1, 1, 1, 1, 1, 1, 1, 1, 1, 1, 1, 1, 1, 1, 1, 1, 1, 1, 1], [1, 1, 2, 2, 3, 3, 4, 4, 5, 5, 6, 6, 7, 7, 8, 8, 9, 9, 10, 10, 11, 11, 12, 11, 11, 10, 10, 9, 9, 8, 8, 7, 7, 6, 6, 5, 5, 4, 4, 3, 3, 2, 2, 1, 1]],
[[1], [1, 1, 1, 1, 1, 1, 1, 1, 1, 1, 1, 1, 1, 1, 1, 1, 1, 1, 1, 1, 1, 1, 1, 1]],
[[1]]]
def qF : List (List Int) := [[1],
[1],
[1, 1],
[1, 2, 2, 1],
[1, 3, 5, 6, 5, 3, 1],
[1, 4, 9, 15, 20, 22, 20, 15, 9, 4, 1],
[1, 5, 14, 29, 49, 71, 90, 101, 101, 90, 71, 49, 29, 14, 5, 1],
[1, 6, 20, 49, 98, 169, 259, 359, 455, 531, 573, 573, 531, 455, 359, 259, 169, 98, 49, 20, 6, 1],
[1, 7, 27, 76, 174, 343, 602, 961, 1415, 1940, 2493, 3017, 3450, 3736, 3836, 3736, 3450, 3017, 2493, 1940, 1415, 961, 602, 343, 174, 76, 27, 7, 1],
[1, 8, 35, 111, 285, 628, 1230, 2191, 3606, 5545, 8031, 11021, 14395, 17957, 21450, 24584, 27073, 28675, 29228, 28675, 27073, 24584, 21450, 17957, 14395, 11021, 8031, 5545, 3606, 2191, 1230, 628, 285, 111, 35, 8, 1],
[1, 9, 44, 155, 440, 1068, 2298, 4489, 8095, 13640, 21670, 32683, 47043, 64889, 86054, 110010, 135853, 162337, 187959, 211089, 230131, 243694, 250749, 250749, 243694, 230131, 211089, 187959, 162337, 135853, 110010, 86054, 64889, 47043, 32683, 21670, 13640, 8095, 4489, 2298, 1068, 440, 155, 44, 9, 1],
[1, 10, 54, 209, 649, 1717, 4015, 8504, 16599, 30239, 51909, 84591, 131625, 196470, 282369, 391939, 526724, 686763, 870233, 1073227, 1289718, 1511742, 1729808, 1933514, 2112319, 2256396, 2357475, 2409581, 2409581, 2357475, 2256396, 2112319, 1933514, 1729808, 1511742, 1289718, 1073227, 870233, 686763, 526724, 391939, 282369, 196470, 131625, 84591, 51909, 30239, 16599, 8504, 4015, 1717, 649, 209, 54, 10, 1],
[1, 11, 65, 274, 923, 2640, 6655, 15159, 31758, 61997, 113906, 198497, 330121, 526581, 808896, 1200626, 1726701, 2411747, 3277965, 4342688, 5615807, 7097310, 8775209, 10624132, 12604826, 14664752, 16739858, 18757500, 20640357, 22311069, 23697232, 24736324, 25380120, 25598186, 25380120, 24736324, 23697232, 22311069, 20640357, 18757500, 16739858, 14664752, 12604826, 10624132, 8775209, 7097310, 5615807, 4342688, 3277965, 2411747, 1726701, 1200626, 808896, 526581, 330121, 198497, 113906, 61997, 31758, 15159, 6655, 2640, 923, 274, 65, 11, 1]]
def qG (d j : Nat) : List Int := (qT.getD d []).getD j []
def ones (n : Nat) : List Int := List.replicate n 1
theorem addAt_app (a : Int) (g z : List Int) : ∀ (k : Nat) (out : List Int), k + g.length ≤ out.length → addAt a g k (out ++ z) = addAt a g k out ++ z
  | 0, out, h => by
    show add0 a (out ++ z) g = add0 a out g ++ z
    induction g generalizing out with
    | nil => rw [add0_nil, add0_nil]
    | cons b g ih =>
      cases out with
      | nil => simp at h
      | cons y out =>
        show (y + a * b) :: add0 a (out ++ z) g = ((y + a * b) :: add0 a out g) ++ z
        rw [ih out (by simp at h ⊢; omega)]
        rfl
  | k + 1, [], h => by simp at h
  | k + 1, y :: out, h => by
    show y :: addAt a g k (out ++ z) = (y :: addAt a g k out) ++ z
    rw [addAt_app a g z k out (by simp at h; omega)]
    rfl
theorem addAt_cancel (a : Int) (g : List Int) : ∀ (k : Nat) (out : List Int), addAt (-a) g k (addAt a g k out) = out
  | 0, out => by
    show add0 (-a) (add0 a out g) g = out
    induction g generalizing out with
    | nil => rw [add0_nil, add0_nil]
    | cons b g ih =>
      cases out with
      | nil => rfl
      | cons y out =>
        show (y + a * b + -a * b) :: add0 (-a) (add0 a out g) g = y :: out
        rw [ih, Int.neg_mul, Int.add_neg_cancel_right]
  | k + 1, [] => rfl
  | k + 1, y :: out => by
    show y :: addAt (-a) g k (addAt a g k out) = y :: out
    rw [addAt_cancel]
theorem add0_snoc (a b z : Int) : ∀ (g out : List Int), g.length = out.length → add0 a (out ++ [z]) (g ++ [b]) = add0 a out g ++ [z + a * b]
  | [], [], _ => rfl
  | [], _ :: _, h => by simp at h
  | _ :: _, [], h => by simp at h
  | c :: g, y :: out, h => by
    show (y + a * c) :: add0 a (out ++ [z]) (g ++ [b]) = ((y + a * c) :: add0 a out g) ++ [z + a * b]
    rw [add0_snoc a b z g out (by simpa using h)]
    rfl
theorem addAt_snoc (a b z : Int) (g : List Int) : ∀ (k : Nat) (out : List Int), k + g.length = out.length → addAt a (g ++ [b]) k (out ++ [z]) = addAt a g k out ++ [z + a * b]
  | 0, out, h => add0_snoc a b z g out (by omega)
  | k + 1, [], h => by simp at h
  | k + 1, y :: out, h => by
    show y :: addAt a (g ++ [b]) k (out ++ [z]) = (y :: addAt a g k out) ++ [z + a * b]
    rw [addAt_snoc a b z g k out (by simp at h; omega)]
    rfl
theorem rows_app (g z : List Int) : ∀ (f : List Int) (k : Nat) (out : List Int), k + f.length + g.length ≤ out.length + 1 → rows g f k (out ++ z) = rows g f k out ++ z
  | [], _, _, _ => rfl
  | a :: f, k, out, h => by
    show rows g f (k + 1) (addAt a g k (out ++ z)) = rows g f (k + 1) (addAt a g k out) ++ z
    simp at h
    rw [addAt_app a g z k out (by omega), rows_app g z f (k + 1) _ (by rw [addAt_len]; omega)]
/-- the first t rows -/
def exR (q g : List Int) (t : Nat) : List Int := rows (g ++ [1]) (q.take t) 0 (List.replicate (t + g.length) 0)
theorem exR_len (q g : List Int) (t : Nat) : (exR q g t).length = t + g.length := by
  unfold exR
  rw [rows_len, List.length_replicate]
theorem exR_succ {q g : List Int} {t : Nat} (ht : t < q.length) : exR q g (t + 1) = addAt (q.getD t 0) (g ++ [1]) t (exR q g t ++ [0]) := by
  unfold exR
  rw [show t + 1 + g.length = (t + g.length) + 1 by omega, List.replicate_succ', ← rows_snoc (g ++ [1]) q t ht 0, Nat.zero_add, rows_app _ _ _ _ _ (by
    rw [List.length_take, List.length_append, List.length_replicate]
    show 0 + min t q.length + (g.length + 1) ≤ _
    omega)]
theorem exR_step {q g o : List Int} {t : Nat} (ht : t < q.length) : exStep (g ++ [1]) (exR q g (t + 1), o) = (exR q g t, o ++ [q.getD t 0]) := by
  have e2 : exR q g (t + 1) = addAt (q.getD t 0) g t (exR q g t) ++ [q.getD t 0] := by
    rw [exR_succ ht, addAt_snoc _ _ _ _ _ _ (by rw [exR_len])]
    rw [Int.zero_add, Int.mul_one]
  have e3 : (exR q g (t + 1)).getLastD 0 = q.getD t 0 := by
    rw [e2]
    simp
  unfold exStep
  rw [e3]
  dsimp only
  rw [exR_len, List.length_append, show t + 1 + g.length - (g.length + ([1] : List Int).length) = t by simp; omega, exR_succ ht, addAt_cancel]
  simp
theorem exR_run {q g : List Int} : ∀ i, i ≤ q.length → exSt (g ++ [1]) (exR q g q.length) i = (exR q g (q.length - i), q.reverse.take i)
  | 0, _ => by
    rw [Nat.sub_zero, List.take_zero]
    rfl
  | i + 1, h => by
    show exStep (g ++ [1]) (exSt (g ++ [1]) (exR q g q.length) i) = _
    rw [exR_run i (by omega), show q.length - i = (q.length - (i + 1)) + 1 by omega, exR_step (by omega)]
    congr 1
    have hi : i < q.reverse.length := by rw [List.length_reverse]; omega
    rw [List.take_add_one, List.getElem?_eq_getElem hi, List.getElem_reverse, List.getD_eq_getElem?_getD, List.getElem?_eq_getElem (by omega)]
    simp only [Option.getD_some, Option.toList_some]
    congr 3
    omega
theorem exI_mulI {q g : List Int} (hq : q ≠ []) : exI (mulI q (g ++ [1])) (g ++ [1]) = q := by
  have hp : 0 < q.length := List.length_pos_iff.mpr hq
  have e : mulI q (g ++ [1]) = exR q g q.length := by
    unfold mulI exR
    rw [if_neg (by cases q with | nil => exact absurd rfl hq | cons a q => simp), List.take_length]
    congr 2
    rw [List.length_append]
    show q.length + (g.length + 1) - 1 = _
    omega
  unfold exI
  rw [e, exR_len, List.length_append, show q.length + g.length + 1 - (g.length + ([1] : List Int).length) = q.length by simp, exR_run _ (Nat.le_refl _)]
  dsimp only
  rw [List.take_of_length_le (by rw [List.length_reverse]; omega), List.reverse_reverse]
theorem ones_succ (n : Nat) : ones (n + 1) = ones n ++ [1] := List.replicate_succ'
theorem ones_small (n : Nat) : small (ones n) := fun b hb => by
  rw [List.eq_of_mem_replicate hb]
  decide
/-! ## equality of products by one number -/
def evP (x : Int) : List Int → Int
  | [] => 0
  | a :: l => a + x * evP x l
theorem evP_addAt (x a : Int) (g : List Int) : ∀ (k : Nat) (out : List Int), k + g.length ≤ out.length → evP x (addAt a g k out) = evP x out + a * x ^ k * evP x g
  | 0, out, h => by
    show evP x (add0 a out g) = _
    induction g generalizing out with
    | nil => rw [add0_nil]; simp [evP]
    | cons b g ih =>
      cases out with
      | nil => simp at h
      | cons y out =>
        show (y + a * b) + x * evP x (add0 a out g) = (y + x * evP x out) + a * x ^ 0 * (b + x * evP x g)
        rw [ih out (by simp at h ⊢; omega)]
        simp only [Int.pow_zero, Int.mul_one]
        grind
  | k + 1, [], h => by simp at h
  | k + 1, y :: out, h => by
    show y + x * evP x (addAt a g k out) = (y + x * evP x out) + a * x ^ (k + 1) * evP x g
    rw [evP_addAt x a g k out (by simp at h; omega), Int.pow_succ]
    grind
theorem evP_rows (x : Int) (g : List Int) : ∀ (f : List Int) (k : Nat) (out : List Int), k + f.length + g.length ≤ out.length + 1 → evP x (rows g f k out) = evP x out + x ^ k * evP x f * evP x g
  | [], k, out, _ => by
    show evP x out = evP x out + x ^ k * 0 * evP x g
    simp
  | a :: f, k, out, h => by
    simp at h
    show evP x (rows g f (k + 1) (addAt a g k out)) = evP x out + x ^ k * (a + x * evP x f) * evP x g
    rw [evP_rows x g f (k + 1) _ (by rw [addAt_len]; omega), evP_addAt x a g k out (by omega), Int.pow_succ]
    grind
theorem evP_zeros (x : Int) : ∀ n, evP x (List.replicate n 0) = 0
  | 0 => rfl
  | n + 1 => by
    rw [List.replicate_succ]
    show 0 + x * evP x (List.replicate n 0) = 0
    rw [evP_zeros x n]
    simp
theorem evP_mulI (x : Int) (f g : List Int) : evP x (mulI f g) = evP x f * evP x g := by
  unfold mulI
  by_cases h : (f.isEmpty || g.isEmpty) = true
  · rw [if_pos h, Bool.or_eq_true] at *
    rcases h with h | h
    · rw [List.isEmpty_iff.mp h]; simp [evP]
    · rw [List.isEmpty_iff.mp h]; simp [evP]
  · rw [if_neg h, evP_rows _ _ _ _ _ (by rw [List.length_replicate]; cases f with | nil => simp at h | cons a f => simp; omega), evP_zeros]
    simp
def nn (l : List Int) : Prop := ∀ a ∈ l, 0 ≤ a
theorem nn_add0 {a : Int} (ha : 0 ≤ a) : ∀ (out g : List Int), nn out → nn g → nn (add0 a out g)
  | [], g, _, _ => by cases g <;> exact fun _ h => by cases h
  | y :: out, [], h, _ => h
  | y :: out, b :: g, h, hg => fun z hz => by
    rcases List.mem_cons.mp hz with e | e
    · have h1 := h y List.mem_cons_self
      have h2 := hg b List.mem_cons_self
      rw [e]
      exact Int.add_nonneg h1 (Int.mul_nonneg ha h2)
    · exact nn_add0 ha out g (fun z h' => h z (List.mem_cons_of_mem _ h')) (fun z h' => hg z (List.mem_cons_of_mem _ h')) z e
theorem nn_addAt {a : Int} (ha : 0 ≤ a) {g : List Int} (hg : nn g) : ∀ (k : Nat) (out : List Int), nn out → nn (addAt a g k out)
  | 0, out, h => nn_add0 ha out g h hg
  | k + 1, [], h => h
  | k + 1, y :: out, h => fun z hz => by
    rcases List.mem_cons.mp hz with e | e
    · rw [e]; exact h y List.mem_cons_self
    · exact nn_addAt ha hg k out (fun z h' => h z (List.mem_cons_of_mem _ h')) z e
theorem nn_rows {g : List Int} (hg : nn g) : ∀ (f : List Int) (k : Nat) (out : List Int), nn f → nn out → nn (rows g f k out)
  | [], _, _, _, h => h
  | a :: f, k, out, hf, h => nn_rows hg f (k + 1) _ (fun z h' => hf z (List.mem_cons_of_mem _ h')) (nn_addAt (hf a List.mem_cons_self) hg k out h)
theorem nn_mulI {f g : List Int} (hf : nn f) (hg : nn g) : nn (mulI f g) := by
  unfold mulI
  split
  · exact fun _ h => by cases h
  · exact nn_rows hg f 0 _ hf fun z hz => by rw [List.eq_of_mem_replicate hz]; exact Int.le_refl _
theorem nn_sum : ∀ {l : List Int}, nn l → 0 ≤ evP 1 l ∧ ∀ a ∈ l, a ≤ evP 1 l
  | [], _ => ⟨Int.le_refl _, fun _ h => by cases h⟩
  | b :: l, h => by
    have h1 := h b List.mem_cons_self
    obtain ⟨h2, h3⟩ := nn_sum (l := l) fun z h' => h z (List.mem_cons_of_mem _ h')
    have e : evP 1 (b :: l) = b + evP 1 l := by show b + 1 * evP 1 l = _; rw [Int.one_mul]
    rw [e]
    refine ⟨by omega, fun a ha => ?_⟩
    rcases List.mem_cons.mp ha with z | z
    · omega
    · have := h3 a z; omega
theorem digits {x : Int} (hx : 0 < x) : ∀ {f g : List Int}, f.length = g.length → nn f → nn g → (∀ a ∈ f, a < x) → (∀ a ∈ g, a < x) → evP x f = evP x g → f = g
  | [], [], _, _, _, _, _, _ => rfl
  | [], _ :: _, h, _, _, _, _, _ => by simp at h
  | _ :: _, [], h, _, _, _, _, _ => by simp at h
  | a :: f, b :: g, hl, hf, hg, bf, bg, e => by
    have e : a + x * evP x f = b + x * evP x g := e
    have ha := hf a List.mem_cons_self
    have hb := hg b List.mem_cons_self
    have ha2 := bf a List.mem_cons_self
    have hb2 := bg b List.mem_cons_self
    have e1 : a = b := by
      have q1 : (a + x * evP x f) % x = a := by rw [Int.add_mul_emod_self_left, Int.emod_eq_of_lt ha ha2]
      have q2 : (b + x * evP x g) % x = b := by rw [Int.add_mul_emod_self_left, Int.emod_eq_of_lt hb hb2]
      rw [← q1, e, q2]
    subst e1
    have e2 : evP x f = evP x g := by
      have := Int.add_left_cancel e
      exact Int.eq_of_mul_eq_mul_left (by omega) this
    rw [digits hx (by simpa using hl) (fun z h' => hf z (List.mem_cons_of_mem _ h')) (fun z h' => hg z (List.mem_cons_of_mem _ h')) (fun z h' => bf z (List.mem_cons_of_mem _ h')) (fun z h' => bg z (List.mem_cons_of_mem _ h')) e2]
def nnB (l : List Int) : Bool := l.all fun a => match a with
  | .ofNat _ => true
  | .negSucc _ => false
theorem nnB_nn {l : List Int} (h : nnB l = true) : nn l := fun a ha => by
  have := List.all_eq_true.mp h a ha
  cases a with
  | ofNat n => exact Int.natCast_nonneg n
  | negSucc n => cases this
def BX : Int := 18446744073709551616
/-- f g = u v, told by one number -/
def sameB (f g u v : List Int) : Bool := nnB f && (nnB g && (nnB u && (nnB v && (!f.isEmpty && (!g.isEmpty && (!u.isEmpty && (!v.isEmpty && (Nat.beq (f.length + g.length) (u.length + v.length) && (decide (evP 1 f * evP 1 g < BX) && (decide (evP 1 u * evP 1 v < BX) && decide (evP BX f * evP BX g = evP BX u * evP BX v)))))))))))
theorem mulI_len {f g : List Int} (hf : f.isEmpty = false) (hg : g.isEmpty = false) : (mulI f g).length = f.length + g.length - 1 := by
  unfold mulI
  rw [hf, hg, if_neg (by decide), rows_len, List.length_replicate]
theorem same_of {f g u v : List Int} (h : sameB f g u v = true) : mulI f g = mulI u v := by
  unfold sameB at h
  simp only [Bool.and_eq_true, Bool.not_eq_true', decide_eq_true_eq, Nat.beq_eq] at h
  obtain ⟨h1, h2, h3, h4, h5, h6, h7, h8, h9, h10, h11, h12⟩ := h
  have n1 := nn_mulI (nnB_nn h1) (nnB_nn h2)
  have n2 := nn_mulI (nnB_nn h3) (nnB_nn h4)
  refine digits (x := BX) (by decide) (by rw [mulI_len h5 h6, mulI_len h7 h8, h9]) n1 n2 (fun a ha => ?_) (fun a ha => ?_) (by rw [evP_mulI, evP_mulI]; exact h12)
  · have := (nn_sum n1).2 a ha
    rw [evP_mulI] at this
    omega
  · have := (nn_sum n2).2 a ha
    rw [evP_mulI] at this
    omega
def okG (d j : Nat) : Bool := sameB (qG d j) (ones (d + j + 1)) (qG d (j + 1)) (ones (j + 1)) && (!(qG d j).isEmpty && Nat.ble (qG d j).length 200)
theorem qG_all : ((List.range 24).all fun d => (List.range (24 - d)).all fun j => okG d j) = true := by kernel_rfl
theorem qG_end : ((List.range 25).all fun d => (!(qG d (24 - d)).isEmpty && Nat.ble (qG d (24 - d)).length 200) && (qG d 0 == [1])) = true := by kernel_rfl
theorem qG_ok {d j : Nat} (h : d + j < 24) : mulI (qG d j) (ones (d + j + 1)) = mulI (qG d (j + 1)) (ones (j + 1)) := by
  have := List.all_eq_true.mp (List.all_eq_true.mp qG_all d (List.mem_range.mpr (by omega))) j (List.mem_range.mpr (by omega))
  unfold okG at this
  rw [Bool.and_eq_true] at this
  exact same_of this.1
theorem qG_len {d j : Nat} (h : d + j ≤ 24) : qG d j ≠ [] ∧ (qG d j).length ≤ 200 := by
  have key : (!(qG d j).isEmpty && Nat.ble (qG d j).length 200) = true := by
    by_cases e : d + j = 24
    · have := List.all_eq_true.mp qG_end d (List.mem_range.mpr (by omega))
      rw [Bool.and_eq_true] at this
      rw [show j = 24 - d by omega]
      exact this.1
    · have := List.all_eq_true.mp (List.all_eq_true.mp qG_all d (List.mem_range.mpr (by omega))) j (List.mem_range.mpr (by omega))
      unfold okG at this
      rw [Bool.and_eq_true] at this
      exact this.2
  rw [Bool.and_eq_true, Nat.ble_eq] at key
  refine ⟨fun z => ?_, key.2⟩
  rw [z] at key
  cases key.1
theorem qG_zero {d : Nat} (h : d ≤ 24) : qG d 0 = [1] := by
  have := List.all_eq_true.mp qG_end d (List.mem_range.mpr (by omega))
  rw [Bool.and_eq_true] at this
  exact beq_iff_eq.mp this.2
theorem qG_step {d j : Nat} (h : d + j < 24) : exI (mulI (qG d j) (ones (d + j + 1))) (ones (j + 1)) = qG d (j + 1) := by
  rw [qG_ok h, ones_succ]
  exact exI_mulI (qG_len (by omega)).1
end CB

set_option maxRecDepth 100000
set_option maxHeartbeats 1000000
namespace CB
open PySem PySem.Spec
open L2

/-! ## numbers, choose, factors -/
def mIsNum : SM :=
  (mRet (mAnd (mUn (pIsi .int) (mV 0)) (mNot (mUn pTru (mUn (pIsi .bool) (mV 0))))))
def mBelow : SM :=
  (mIf (mOr (mNot (mUn pTru (mCall (fnP 1 1 mIsNum) (mCons (mV 0) mNil)))) (mNot (mChain pLe pLe (mC (.int 0)) (mV 0) (mV 1)))) (mRaise "BadCount") mPass)
def mNumber : SM :=
  (mRet (mBin pMul (mTup (mCons (mC (.int 1)) mNil)) (mV 0)))
def mChoose : SM :=
  (mSeq (mIf (mBin pGt (mV 1) (mV 0)) (mRet (mTup mNil)) mPass)
  (mSeq (mSet 2 (mTup (mCons (mC (.int 1)) mNil)))
  (mSeq (mFor (mRng2 (mCons (mC (.int 1)) (mCons (mBin pAdd (mV 1) (mC (.int 1))) mNil))) (bN 3) (mSet 2 (mCall (fnP 2 6 mExact) (mCons (mCall (fnP 2 7 mMultiply) (mCons (mV 2) (mCons (mCall (fnP 1 1 mNumber) (mCons (mBin pAdd (mBin pSub (mV 0) (mV 1)) (mV 3)) mNil)) mNil))) (mCons (mCall (fnP 1 1 mNumber) (mCons (mV 3) mNil)) mNil)))))
  (mRet (mV 2)))))
theorem num_ok {x : Int} {h : Hh} : fnP 1 1 mIsNum [.int x] h = .ok (.bl true) h := rfl
theorem below_ok {x m : Int} {h : Hh} (h0 : 0 ≤ x) (h1 : x ≤ m) : fnP 2 2 mBelow [.int x, .int m] h = .ok .non h := by
  have e : mBelow [some (.int x), some (.int m)] [] = .nx [some (.int x), some (.int m)] [] := by
    unfold mBelow
    refine e_if0 ?_
    have a : mNot (mUn pTru (mCall (fnP 1 1 mIsNum) (mCons (mV 0) mNil))) [some (.int x), some (.int m)] [] = .ok (.bl false) [] := rfl
    rw [e_or a, if_neg (by decide)]
    unfold mNot mChain mC
    dsimp only [R.bind]
    rw [show mV 0 [some (.int x), some (.int m)] [] = .ok (.int x) [] from rfl]
    dsimp only [R.bind]
    rw [show pLe (D.int 0) (.int x) ([] : Hh) = .ok (.bl true) [] from by show R.ok (D.bl (decide (0 ≤ x))) _ = _; rw [decide_eq_true h0]]
    dsimp only
    rw [show mV 1 [some (.int x), some (.int m)] [] = .ok (.int m) [] from rfl]
    dsimp only [R.bind]
    rw [show pLe (D.int x) (.int m) ([] : Hh) = .ok (.bl true) [] from by show R.ok (D.bl (decide (x ≤ m))) _ = _; rw [decide_eq_true h1]]
    rfl
  unfold fnP
  rw [if_pos ⟨rfl, rfl⟩, show startE 2 [D.int x, .int m] = [some (.int x), some (.int m)] from rfl, e]
  rfl
theorem rep_one (n : Nat) : (List.replicate n [D.int 1]).flatten = iD (ones n) := by
  induction n with
  | zero => rfl
  | succ n ih => rw [List.replicate_succ, List.flatten_cons, ih]; rfl
theorem number_ok {n : Nat} {h : Hh} (hn : n ≤ 1000) : fnP 1 1 mNumber [.int (n : Int)] h = .ok (.tup (iD (ones n))) h := by
  have e : fin (mNumber [some (.int (n : Int))] []) = .ok (.tup (iD (ones n))) [] := by
    unfold mNumber
    rw [e_ret (d := .tup (iD (ones n))) (h' := []) (e_bin (dx := .tup [.int 1]) rfl rfl ?_)]
    · rfl
    · dsimp only [pMul]
      rw [if_pos (by refine ⟨by omega, by omega, by decide⟩), Int.toNat_natCast, rep_one]
  exact fnP_ok rfl rfl e (rf_tup _)
theorem for_rng2 {a b : EM} {i : Nat} {m : SM} {env : Env'} {h : Hh} {lo hi : Int} (ha : a env h = .ok (.int lo) h) (hb : b env h = .ok (.int hi) h) (h1 : lo.natAbs < 4611686018427387904) (h2 : hi.natAbs < 4611686018427387904) :
    mFor (mRng2 (mCons a (mCons b mNil))) (bN i) m env h = goF (plR lo 1 (hi - lo).toNat) (bN i) m ((hi - lo).toNat + 1) 0 env h := by
  unfold mFor mRng2 mCons mNil
  rw [ha]
  dsimp only [R.bind, R.bindS]
  rw [hb]
  dsimp only [R.bind, R.bindS]
  rw [if_pos (by unfold rngOk; rw [Bool.and_eq_true, Nat.blt_eq, Nat.blt_eq]; exact ⟨h1, h2⟩)]
theorem rng2_item {lo : Int} {n j : Nat} {h : Hh} (hj : j < n) : plR lo 1 n j h = .item (.int (lo + j)) := by
  unfold plR
  rw [if_pos hj, Int.mul_one]
theorem rng2_stop {lo : Int} {n : Nat} {h : Hh} : plR lo 1 n n h = .stop := by
  unfold plR
  rw [if_neg (by omega)]
def qC (n k : Nat) : List Int := if n < k then [] else qG (n - k) k
theorem e_call2 {env : Env'} {h : Hh} {p : List D → Hh → R D} {a b : EM} {x y : D} {r : R D} (ha : a env h = .ok x h) (hb : b env h = .ok y h) (hp : p [x, y] h = r) : mCall p (mCons a (mCons b mNil)) env h = r := by
  unfold mCall mCons mNil
  rw [ha]
  dsimp only [R.bind]
  rw [hb]
  exact hp
theorem choose_ok {n k : Nat} {h : Hh} (hn : n ≤ 24) (hk : k ≤ 24) : fnP 2 4 mChoose [.int (n : Int), .int (k : Int)] h = .ok (.tup (iD (qC n k))) h := by
  have key : ∃ h', fin (mChoose [some (.int (n : Int)), some (.int (k : Int)), none, none] []) = .ok (.tup (iD (qC n k))) h' := by
    unfold mChoose qC
    have c0 : mBin pGt (mV 1) (mV 0) [some (.int (n : Int)), some (.int (k : Int)), none, none] [] = .ok (.bl (decide ((n : Int) < k))) [] := rfl
    by_cases hz : n < k
    · rw [e_seqR ((e_if c0).trans ((if_pos (decide_eq_true (by omega))).trans (e_ret (d := .tup []) rfl))), if_pos hz]
      exact ⟨_, rfl⟩
    · rw [e_seq (e_if0 (by rw [c0, decide_eq_false (by omega)])), if_neg hz]
      rw [e_seq (e_set (d := .tup (iD [1])) rfl)]
      have e3 : ∃ x3, mFor (mRng2 (mCons (mC (.int 1)) (mCons (mBin pAdd (mV 1) (mC (.int 1))) mNil))) (bN 3) (mSet 2 (mCall (fnP 2 6 mExact) (mCons (mCall (fnP 2 7 mMultiply) (mCons (mV 2) (mCons (mCall (fnP 1 1 mNumber) (mCons (mBin pAdd (mBin pSub (mV 0) (mV 1)) (mV 3)) mNil)) mNil))) (mCons (mCall (fnP 1 1 mNumber) (mCons (mV 3) mNil)) mNil))))
          [some (.int (n : Int)), some (.int (k : Int)), some (.tup (iD [1])), none] [] = .nx [some (.int (n : Int)), some (.int (k : Int)), some (.tup (iD (qG (n - k) k))), x3] [] := by
        rw [for_rng2 (lo := 1) (hi := (k : Int) + 1) rfl rfl (by decide) (by omega), show ((k : Int) + 1 - 1).toNat = k by omega]
        obtain ⟨env', h', e, x3, rfl, rfl⟩ := goF_inv (pl := plR 1 1 k) (b := bN 3) (m := mSet 2 (mCall (fnP 2 6 mExact) (mCons (mCall (fnP 2 7 mMultiply) (mCons (mV 2) (mCons (mCall (fnP 1 1 mNumber) (mCons (mBin pAdd (mBin pSub (mV 0) (mV 1)) (mV 3)) mNil)) mNil))) (mCons (mCall (fnP 1 1 mNumber) (mCons (mV 3) mNil)) mNil)))) (n := k)
          (Inv := fun j env h => ∃ x3, env = [some (.int (n : Int)), some (.int (k : Int)), some (.tup (iD (qG (n - k) j))), x3] ∧ h = [])
          (fun j env h hj ⟨y3, e1, e2⟩ => by
            subst e1; subst e2
            have g1 := qG_len (d := n - k) (j := j) (by omega)
            have m1 : mCall (fnP 1 1 mNumber) (mCons (mBin pAdd (mBin pSub (mV 0) (mV 1)) (mV 3)) mNil) [some (.int (n : Int)), some (.int (k : Int)), some (.tup (iD (qG (n - k) j))), some (.int (1 + (j : Int)))] [] = .ok (.tup (iD (ones (n - k + j + 1)))) [] := by
              refine e_call1 (e_bin (e_bin rfl rfl p_sub) rfl p_add) ?_
              rw [show ((n : Int) - k + (1 + (j : Int))) = ((n - k + j + 1 : Nat) : Int) by omega]
              exact number_ok (by omega)
            have m2 : mCall (fnP 1 1 mNumber) (mCons (mV 3) mNil) [some (.int (n : Int)), some (.int (k : Int)), some (.tup (iD (qG (n - k) j))), some (.int (1 + (j : Int)))] [] = .ok (.tup (iD (ones (j + 1)))) [] := by
              refine e_call1 rfl ?_
              rw [show (1 + (j : Int)) = ((j + 1 : Nat) : Int) by omega]
              exact number_ok (by omega)
            have lo : ∀ t, (ones t).length = t := fun t => List.length_replicate
            have m3 := e_call2 (env := [some (.int (n : Int)), some (.int (k : Int)), some (.tup (iD (qG (n - k) j))), some (.int (1 + (j : Int)))]) (h := []) (a := mV 2) rfl m1 (multiply_ok (ones_small _) (by rw [lo]; omega))
            have lm : (mulI (qG (n - k) j) (ones (n - k + j + 1))).length ≤ 300 := by
              rw [mulI_len (by cases q : qG (n - k) j with | nil => exact absurd q g1.1 | cons a l => rfl) (by rfl), lo]
              omega
            have m4 := e_call2 m3 m2 (exact_ok (f := mulI (qG (n - k) j) (ones (n - k + j + 1))) (g := ones (j + 1)) (h := []) (ones_small _) (by rw [ones_succ]; simp) (by rw [lo]; omega))
            rw [qG_step (by omega)] at m4
            exact ⟨_, _, _, _, _, rng2_item hj, rfl, e_set m4, _, rfl, rfl⟩)
          (fun env h _ => rng2_stop) (k + 1) 0 [some (.int (n : Int)), some (.int (k : Int)), some (.tup (iD [1])), none] [] (by omega) (by omega) ⟨none, by rw [qG_zero (by omega)], rfl⟩
        exact ⟨x3, e⟩
      obtain ⟨x3, e3⟩ := e3
      exact ⟨[], by rw [show List.set [some (D.int (n : Int)), some (.int (k : Int)), none, none] 2 (some (.tup (iD [1]))) = [some (.int (n : Int)), some (.int (k : Int)), some (.tup (iD [1])), none] from rfl, e_seq e3]; rfl⟩
  obtain ⟨h', e⟩ := key
  exact fnP_ok rfl rfl e (rf_tup _)
def mFactors : SM :=
  (mSeq (mSet 1 (mTup (mCons (mC (.int 1)) mNil)))
  (mSeq (mFor (mRng2 (mCons (mC (.int 2)) (mCons (mBin pAdd (mV 0) (mC (.int 1))) mNil))) (bN 2) (mSet 1 (mCall (fnP 2 7 mMultiply) (mCons (mV 1) (mCons (mCall (fnP 1 1 mNumber) (mCons (mV 2) mNil)) mNil)))))
  (mRet (mV 1))))
theorem qF_all : ((List.range 11).all fun m => (mulI (qF.getD (m + 1) []) (ones (m + 2)) == qF.getD (m + 2) []) && Nat.ble (qF.getD (m + 1) []).length 100) = true := by kernel_rfl
theorem qF_step {m : Nat} (h : m < 11) : mulI (qF.getD (m + 1) []) (ones (m + 2)) = qF.getD (m + 2) [] ∧ (qF.getD (m + 1) []).length ≤ 100 := by
  have := List.all_eq_true.mp qF_all m (List.mem_range.mpr h)
  rw [Bool.and_eq_true, Nat.ble_eq] at this
  exact ⟨beq_iff_eq.mp this.1, this.2⟩
theorem factors_ok {n : Nat} {h : Hh} (hn : n ≤ 12) : fnP 1 3 mFactors [.int (n : Int)] h = .ok (.tup (iD (qF.getD n []))) h := by
  have key : ∃ h', fin (mFactors [some (.int (n : Int)), none, none] []) = .ok (.tup (iD (qF.getD n []))) h' := by
    unfold mFactors
    rw [e_seq (e_set (d := .tup (iD [1])) rfl)]
    rw [show List.set [some (D.int (n : Int)), none, none] 1 (some (.tup (iD [1]))) = [some (.int (n : Int)), some (.tup (iD [1])), none] from rfl]
    have e3 : ∃ x2, mFor (mRng2 (mCons (mC (.int 2)) (mCons (mBin pAdd (mV 0) (mC (.int 1))) mNil))) (bN 2) (mSet 1 (mCall (fnP 2 7 mMultiply) (mCons (mV 1) (mCons (mCall (fnP 1 1 mNumber) (mCons (mV 2) mNil)) mNil)))) [some (.int (n : Int)), some (.tup (iD [1])), none] [] = .nx [some (.int (n : Int)), some (.tup (iD (qF.getD n []))), x2] [] := by
      rw [for_rng2 (lo := 2) (hi := (n : Int) + 1) rfl rfl (by decide) (by omega), show ((n : Int) + 1 - 2).toNat = n - 1 by omega]
      obtain ⟨env', h', e, x2, rfl, rfl⟩ := goF_inv (pl := plR 2 1 (n - 1)) (b := bN 2) (m := mSet 1 (mCall (fnP 2 7 mMultiply) (mCons (mV 1) (mCons (mCall (fnP 1 1 mNumber) (mCons (mV 2) mNil)) mNil)))) (n := n - 1)
        (Inv := fun j env h => ∃ x2, env = [some (.int (n : Int)), some (.tup (iD (qF.getD (j + 1) []))), x2] ∧ h = [])
        (fun j env h hj ⟨y2, e1, e2⟩ => by
          subst e1; subst e2
          obtain ⟨g1, g2⟩ := qF_step (m := j) (by omega)
          have m2 : mCall (fnP 1 1 mNumber) (mCons (mV 2) mNil) [some (.int (n : Int)), some (.tup (iD (qF.getD (j + 1) []))), some (.int (2 + (j : Int)))] [] = .ok (.tup (iD (ones (j + 2)))) [] := by
            refine e_call1 rfl ?_
            rw [show (2 + (j : Int)) = ((j + 2 : Nat) : Int) by omega]
            exact number_ok (by omega)
          have lo : ∀ t, (ones t).length = t := fun t => List.length_replicate
          have m3 := e_call2 (env := [some (.int (n : Int)), some (.tup (iD (qF.getD (j + 1) []))), some (.int (2 + (j : Int)))]) (h := []) (a := mV 1) rfl m2 (multiply_ok (ones_small _) (by rw [lo]; omega))
          rw [g1] at m3
          exact ⟨_, _, _, _, _, rng2_item hj, rfl, e_set m3, _, rfl, rfl⟩)
        (fun env h _ => rng2_stop) (n - 1 + 1) 0 [some (.int (n : Int)), some (.tup (iD [1])), none] [] (by omega) (by omega) ⟨none, rfl, rfl⟩
      refine ⟨x2, ?_⟩
      by_cases h0 : n = 0
      · subst h0; exact e
      · rw [show n - 1 + 1 = n by omega] at e
        rw [show n - 1 + 1 = n by omega]
        exact e
    obtain ⟨x2, e3⟩ := e3
    rw [e_seq e3]
    exact ⟨_, rfl⟩
  obtain ⟨h', e⟩ := key
  exact fnP_ok rfl rfl e (rf_tup _)
end CB

set_option maxRecDepth 100000
set_option maxHeartbeats 1000000
namespace CB
open PySem PySem.Spec
open L2

/-! ## worth -/
def mIsPoly : SM :=
  (mRet (mAnd (mUn (pIsi .tuple) (mV 0)) (mAnd (mCall pAll (mCons (mLc (mSeqI (mV 0)) [1] (kN 1) (mC (.bl true)) (mCall (fnP 1 1 mIsNum) (mCons (mV 1) mNil))) mNil)) (mOr (mNot (mUn pTru (mV 0))) (mBin pNe (mBin pIx (mV 0) (mUn pNeg (mC (.int 1)))) (mC (.int 0)))))))
def mWorth : SM :=
  (mSeq (mIf (mOr (mNot (mUn pTru (mCall (fnP 1 2 mIsPoly) (mCons (mV 0) mNil)))) (mNot (mUn pTru (mCall (fnP 1 1 mIsNum) (mCons (mV 1) mNil))))) (mRaise "BadCount") mPass)
  (mSeq (mSet 2 (mC (.int 0)))
  (mSeq (mFor (mSeqI (mUn pRev (mV 0))) (bN 3) (mSet 2 (mBin pAdd (mBin pMul (mV 2) (mV 1)) (mV 3))))
  (mRet (mV 2)))))
def okP (f : List Int) : Prop := ∀ h : f ≠ [], f.getLast h ≠ 0
theorem all_true : ∀ (n : Nat), blsOf (List.replicate n (D.bl true)) = some (List.replicate n true)
  | 0 => rfl
  | n + 1 => by
    rw [List.replicate_succ, List.replicate_succ]
    show (blsOf (List.replicate n (D.bl true))).map (true :: ·) = _
    rw [all_true n]
    rfl
theorem isPoly_ok {f : List Int} {h : Hh} (hf : okP f) (hl : f.length ≤ 1000) : fnP 1 2 mIsPoly [.tup (iD f)] h = .ok (.bl true) h := by
  have key : ∃ h', fin (mIsPoly [some (.tup (iD f)), none] []) = .ok (.bl true) h' := by
    have k := goC_map (pl := plV (iD f)) (env := [some (.tup (iD f)), none]) (b := kN 1) (m := mCall (fnP 1 1 mIsNum) (mCons (mV 1) mNil)) (h := []) (n := f.length) (f := fun i => .int (f.getD i 0)) (g := fun i => .bl true)
      (as := fun i => [(1, .int (f.getD i 0))]) (fun i hi => plV_item hi) plV_stop (fun i hi => rfl) (fun i hi => rfl) (f.length + 1) 0 [] (by omega) (by omega) (by show 0 + _ ≤ 16777216; omega)
    have e : (List.range' 0 (f.length - 0)).map (fun i => D.bl true) = List.replicate f.length (D.bl true) := by
      apply List.ext_getElem
      · simp
      · intro i h1 h2; simp
    rw [e, List.nil_append] at k
    have e1 : mCall pAll (mCons (mLc (mSeqI (mV 0)) [1] (kN 1) (mC (.bl true)) (mCall (fnP 1 1 mIsNum) (mCons (mV 1) mNil))) mNil) [some (.tup (iD f)), none] [] = .ok (.bl true) [.lst (List.replicate f.length (D.bl true))] := by
      unfold mCall mCons mNil
      have e2 : mLc (mSeqI (mV 0)) [1] (kN 1) (mC (.bl true)) (mCall (fnP 1 1 mIsNum) (mCons (mV 1) mNil)) [some (.tup (iD f)), none] [] = .ok (.ref 0) [.lst (List.replicate f.length (D.bl true))] := by
        show goC (plV (iD f)) [some (.tup (iD f)), none] (kN 1) (mC (.bl true)) _ ((iD f).length + 1) 0 [] [] = _
        rw [List.length_map]
        exact k
      unfold mCall mCons mNil at e2
      rw [e2]
      dsimp only [R.bind, pAll]
      rw [show getL [Ob.lst (List.replicate f.length (D.bl true))] 0 = some (List.replicate f.length (D.bl true)) from rfl]
      dsimp only
      rw [all_true]
      dsimp only
      rw [show (List.replicate f.length true).all id = true from by rw [List.all_eq_true]; intro b hb; exact List.eq_of_mem_replicate hb]
    have e2 : mOr (mNot (mUn pTru (mV 0))) (mBin pNe (mBin pIx (mV 0) (mUn pNeg (mC (.int 1)))) (mC (.int 0))) [some (.tup (iD f)), none] [.lst (List.replicate f.length (D.bl true))] = .ok (.bl true) [.lst (List.replicate f.length (D.bl true))] := by
      have t1 : mNot (mUn pTru (mV 0)) [some (.tup (iD f)), none] [.lst (List.replicate f.length (D.bl true))] = .ok (.bl f.isEmpty) [.lst (List.replicate f.length (D.bl true))] := by
        cases f <;> rfl
      rw [e_or t1]
      by_cases hz : f = []
      · subst hz; rfl
      · rw [if_neg (by cases f with | nil => exact absurd rfl hz | cons a f => simp)]
        refine e_bin (dx := .int (f.getLast hz)) (dy := .int 0) (e_bin (dy := .int (-1)) rfl rfl ?_) rfl ?_
        · show (match atI (iD f) (-1) with | some d => R.ok d _ | none => .no) = _
          rw [atI_last hz]
        · show R.ok (D.bl (!(f.getLast hz == 0))) _ = _
          rw [beq_eq_false_iff_ne.mpr (hf hz)]
          rfl
    unfold mIsPoly
    refine ⟨[.lst (List.replicate f.length (D.bl true))], ?_⟩
    rw [e_ret (d := .bl true) (h' := [.lst (List.replicate f.length (D.bl true))]) ?_]
    · rfl
    · rw [e_and (k := true) rfl, if_pos rfl]
      unfold mAnd
      rw [e1]
      exact e2
  obtain ⟨h', e⟩ := key
  exact fnP_ok rfl (by show (D.rf (.tup (iD f)) && true) = true; rw [rf_tup]; rfl) e rfl
def hor (q : Int) : List Int → Int → Int
  | [], a => a
  | b :: l, a => hor q l (a * q + b)
theorem hor_snoc (q b : Int) : ∀ (l : List Int) (a : Int), hor q (l ++ [b]) a = hor q l a * q + b
  | [], a => rfl
  | c :: l, a => hor_snoc q b l (a * q + c)
theorem hor_rev (q : Int) : ∀ l : List Int, hor q l.reverse 0 = evP q l
  | [] => rfl
  | a :: l => by
    rw [List.reverse_cons, hor_snoc, hor_rev q l]
    show evP q l * q + a = a + q * evP q l
    rw [Int.mul_comm, Int.add_comm]
theorem hor_take (q : Int) (l : List Int) {j : Nat} (hj : j < l.length) : hor q (l.take (j + 1)) 0 = hor q (l.take j) 0 * q + l.getD j 0 := by
  rw [List.take_add_one, List.getElem?_eq_getElem hj]
  show hor q (l.take j ++ [l[j]]) 0 = _
  rw [hor_snoc, List.getD_eq_getElem?_getD, List.getElem?_eq_getElem hj]
  rfl
theorem worth_ok {f : List Int} {q : Int} {h : Hh} (hf : okP f) (hl : f.length ≤ 1000) (hq : q.natAbs < 18446744073709551616) : fnP 2 4 mWorth [.tup (iD f), .int q] h = .ok (.int (evP q f)) h := by
  have key : ∃ h', fin (mWorth [some (.tup (iD f)), some (.int q), none, none] []) = .ok (.int (evP q f)) h' := by
    have c1 : mNot (mUn pTru (mCall (fnP 1 2 mIsPoly) (mCons (mV 0) mNil))) [some (.tup (iD f)), some (.int q), none, none] [] = .ok (.bl false) [] := by
      have := e_call1 (env := [some (.tup (iD f)), some (.int q), none, none]) (h := []) (e := mV 0) (d := .tup (iD f)) rfl (isPoly_ok (h := []) hf hl)
      unfold mNot mUn
      rw [this]
      rfl
    have c2 : mOr (mNot (mUn pTru (mCall (fnP 1 2 mIsPoly) (mCons (mV 0) mNil)))) (mNot (mUn pTru (mCall (fnP 1 1 mIsNum) (mCons (mV 1) mNil)))) [some (.tup (iD f)), some (.int q), none, none] [] = .ok (.bl false) [] := by
      rw [e_or c1, if_neg (by decide)]
      rfl
    unfold mWorth
    rw [e_seq (e_if0 c2), e_seq (e_set (d := .int 0) rfl)]
    rw [show List.set [some (D.tup (iD f)), some (.int q), none, none] 2 (some (.int 0)) = [some (.tup (iD f)), some (.int q), some (.int 0), none] from rfl]
    have e3 : ∃ x3, mFor (mSeqI (mUn pRev (mV 0))) (bN 3) (mSet 2 (mBin pAdd (mBin pMul (mV 2) (mV 1)) (mV 3))) [some (.tup (iD f)), some (.int q), some (.int 0), none] [] = .nx [some (.tup (iD f)), some (.int q), some (.int (evP q f)), x3] [] := by
      obtain ⟨env', h', e, x3, rfl, rfl⟩ := goF_inv (pl := plV (iD f.reverse)) (b := bN 3) (m := mSet 2 (mBin pAdd (mBin pMul (mV 2) (mV 1)) (mV 3))) (n := f.reverse.length)
        (Inv := fun j env h => ∃ x3, env = [some (.tup (iD f)), some (.int q), some (.int (hor q (f.reverse.take j) 0)), x3] ∧ h = [])
        (fun j env h hj ⟨y3, e1, e2⟩ => by
          subst e1; subst e2
          refine ⟨_, _, _, _, _, plV_item hj, rfl, e_set (e_bin (e_bin rfl rfl (p_mul (mul_small hq))) rfl p_add), some (.int (f.reverse.getD j 0)), ?_, rfl⟩
          rw [hor_take q _ hj]
          rfl)
        (fun env h _ => plV_stop) (f.reverse.length + 1) 0 [some (.tup (iD f)), some (.int q), some (.int 0), none] [] (by omega) (by omega) ⟨none, rfl, rfl⟩
      refine ⟨x3, ?_⟩
      rw [List.take_length, hor_rev] at e
      have ep : mSeqI (mUn pRev (mV 0)) [some (.tup (iD f)), some (.int q), some (.int 0), none] [] = .ok (plV (iD f.reverse), f.reverse.length) [] := by
        show (R.ok (plV (iD f).reverse, (iD f).reverse.length) [] : R (Plan × Nat)) = _
        rw [show (iD f).reverse = iD f.reverse from List.map_reverse.symm, List.length_map]
      unfold mFor
      rw [ep]
      exact e
    obtain ⟨x3, e3⟩ := e3
    rw [e_seq e3]
    exact ⟨_, rfl⟩
  obtain ⟨h', e⟩ := key
  exact fnP_ok rfl (by show (D.rf (.tup (iD f)) && (D.rf (.int q) && true)) = true; rw [rf_tup]; rfl) e rfl
end CB

set_option maxRecDepth 100000
set_option maxHeartbeats 1000000
namespace CB
open PySem PySem.Spec
open L2

/-! ## running a law's statements -/
theorem Fgt.nil : Fgt [] [] := ⟨rfl, fun i d e => by simp at e⟩
theorem Fgt.drop {x : Option D} {e1 e2 : Env'} (h : Fgt e1 e2) : Fgt (x :: e1) (none :: e2) := by
  refine ⟨by rw [List.length_cons, List.length_cons, h.1], fun i d e => ?_⟩
  match i, e with
  | 0, e => cases e
  | i + 1, e => exact h.2 i d e
theorem Fgt.keep {d : D} {e1 e2 : Env'} (hd : D.rf d = true) (h : Fgt e1 e2) : Fgt (some d :: e1) (some d :: e2) := by
  refine ⟨by rw [List.length_cons, List.length_cons, h.1], fun i d' e => ?_⟩
  match i, e with
  | 0, e => cases e; exact ⟨rfl, .inl hd⟩
  | i + 1, e => exact h.2 i d' e
theorem Fgt.box {e1 e2 : Env'} (h : Fgt e1 e2) : Fgt (some (.ref 1) :: e1) (some (.ref 1) :: e2) := by
  refine ⟨by rw [List.length_cons, List.length_cons, h.1], fun i d' e => ?_⟩
  match i, e with
  | 0, e => cases e; exact ⟨rfl, .inr rfl⟩
  | i + 1, e => exact h.2 i d' e
theorem LR.fg {m : SM} {ms : List SM} {env env1 env2 : Env'} {h : Hh} {xs : List Int} {c md sp : Int} {g : Hh} (e : m env h = .nx env1 (bxH xs c md sp g)) (hf : Fgt env1 env2) (r : LR ms env2 (bxH xs c md sp [])) : LR (m :: ms) env h :=
  .inr ⟨_, _, e, .inr ⟨xs, c, md, sp, g, env2, rfl, hf, r⟩⟩
theorem LR.go {m : SM} {ms : List SM} {env env1 : Env'} {h h1 : Hh} (e : m env h = .nx env1 h1) (r : LR ms env1 h1) : LR (m :: ms) env h := .inr ⟨_, _, e, .inl r⟩
theorem LR.fin {m : SM} {ms : List SM} {env : Env'} {h h1 : Hh} (e : m env h = .rt (.bl true) h1) : LR (m :: ms) env h := .inl ⟨_, e⟩
/-- a state of the box -/
structure Bs where
  xs : List Int
  c : Int
  md : Int
  sp : Int
def Bs.ok (b : Bs) : Prop := 0 ≤ b.sp
def Bs.h (b : Bs) (g : Hh) : Hh := bxH b.xs b.c b.md b.sp g
abbrev fTake : List D → Hh → R D := fnG 2 5 mTake
theorem take_b (b : Bs) (hb : b.ok) {m : Int} (hm : 1 ≤ m) (hm2 : m < 1073741824) : ∃ (t : Nat) (b' : Bs), (t : Int) < m ∧ b'.ok ∧ ∀ g, fTake [.ref 1, .int m] (b.h g) = .ok (.int (t : Int)) (b'.h g) := by
  obtain ⟨t, c', md', sp', h0, h1, h2, h3⟩ := take_run (xs := b.xs) (c := b.c) (md := b.md) (sp := b.sp) hb hm hm2
  refine ⟨t.toNat, ⟨b.xs, c', md', sp'⟩, by omega, h2, fun g => ?_⟩
  rw [show ((t.toNat : Nat) : Int) = t by omega]
  exact h3 g
theorem LR.fgb {m : SM} {ms : List SM} {env env1 env2 : Env'} {h : Hh} {b : Bs} {g : Hh} (e : m env h = .nx env1 (b.h g)) (hf : Fgt env1 env2) (r : LR ms env2 (b.h [])) : LR (m :: ms) env h := LR.fg e hf r
section
variable {env : Env'} {h h1 h2 : Hh} {a b c : EM} {d e : D} {ds : List D}
theorem c_nil : mNil env h = .ok [] h := rfl
theorem c_cons {r : AM} (ha : a env h = .ok d h1) (hr : r env h1 = .ok ds h2) : mCons a r env h = .ok (d :: ds) h2 := by
  unfold mCons
  rw [ha]
  dsimp only [R.bind]
  rw [hr]
theorem c_call {p : List D → Hh → R D} {ms : AM} {r : R D} (ha : ms env h = .ok ds h1) (hp : p ds h1 = r) : mCall p ms env h = r := by
  unfold mCall
  rw [ha]
  exact hp
theorem c_par {is : List Nat} {ms : AM} (ha : ms env h = .ok ds h1) (hl : ds.length = is.length) : mPar is ms env h = .nx ((is.zip ds).foldl (fun env p => env.set p.1 (some p.2)) env) h1 := by
  unfold mPar
  rw [ha]
  exact if_pos hl
theorem c_bin {p : D → D → Hh → R D} {r : R D} {dx dy : D} (ha : a env h = .ok dx h1) (hb : b env h1 = .ok dy h2) (hp : p dx dy h2 = r) : mBin p a b env h = r := by
  unfold mBin
  rw [ha]
  dsimp only [R.bind]
  rw [hb]
  exact hp
/-- box taken from: _law_take(box, e) -/
theorem c_take {bs b' : Bs} {i : Nat} {m t : Int} {em : EM} {g : Hh} (h0 : env[i]? = some (some (.ref 1))) (hm : em env (bs.h g) = .ok (.int m) (bs.h g)) (ht : ∀ g, fTake [.ref 1, .int m] (bs.h g) = .ok (.int t) (b'.h g)) : mCall fTake (mCons (mV i) (mCons em mNil)) env (bs.h g) = .ok (.int t) (b'.h g) :=
  c_call (c_cons (e_v h0) (c_cons hm c_nil)) (ht g)
end
def mPick : SM :=
  (mRet (mBin pIx (mV 1) (mCall fTake (mCons (mV 0) (mCons (mCall pLen (mCons (mV 1) mNil)) mNil)))))
abbrev fPick : List D → Hh → R D := fnG 2 2 mPick
/-- _law_pick(box, [..]), the menu just made -/
theorem pick_b (b : Bs) (hb : b.ok) (g : Hh) (menu : List D) (h1 : 1 ≤ menu.length) (h2 : menu.length ≤ 1000) : ∃ (t : Nat) (b' : Bs) (d : D), t < menu.length ∧ menu[t]? = some d ∧ b'.ok ∧ fPick [.ref 1, .ref (g.length + 2)] (b.h (g ++ [.lst menu])) = .ok d (b'.h (g ++ [.lst menu])) := by
  obtain ⟨t, b', ht, hb', et⟩ := take_b b hb (m := (menu.length : Nat)) (by omega) (by omega)
  have hg : ∀ b : Bs, getL (b.h (g ++ [.lst menu])) (g.length + 2) = some menu := fun b => by
    unfold getL Bs.h bxH
    simp
  have ht2 : t < menu.length := by omega
  refine ⟨t, b', menu[t], ht2, List.getElem?_eq_getElem ht2, hb', ?_⟩
  show fin (mPick [some (.ref 1), some (.ref (g.length + 2))] (b.h (g ++ [.lst menu]))) = _
  have e1 : mCall pLen (mCons (mV 1) mNil) [some (.ref 1), some (.ref (g.length + 2))] (b.h (g ++ [.lst menu])) = .ok (.int (menu.length : Nat)) (b.h (g ++ [.lst menu])) := by
    refine e_call1 rfl ?_
    show (match seqOf (b.h (g ++ [.lst menu])) (.ref (g.length + 2)) with | some ds => R.ok (D.int (ds.length : Nat)) _ | none => .no) = _
    rw [show seqOf (b.h (g ++ [.lst menu])) (.ref (g.length + 2)) = some menu from hg b]
  have e2 := c_take (env := [some (.ref 1), some (.ref (g.length + 2))]) (i := 0) rfl e1 et
  unfold mPick
  rw [e_ret (d := menu[t]) (h' := b'.h (g ++ [.lst menu])) (c_bin rfl e2 ?_)]
  · rfl
  · show (match getL (b'.h (g ++ [.lst menu])) (g.length + 2) with | some xs => (match atI xs (t : Int) with | some d => R.ok d _ | none => .no) | none => .no) = _
    rw [hg b']
    dsimp only
    rw [show atI menu (t : Int) = some menu[t] from by
      unfold atI ixN
      rw [if_pos (by omega), if_pos (by omega)]
      simp [ht2]]
def isNx : RS → Bool
  | .nx _ _ => true
  | _ => false
def envOf : RS → Env'
  | .nx e _ => e
  | _ => []
def hpOf : RS → Hh
  | .nx _ h => h
  | _ => []
def isTT : RS → Bool
  | .rt (.bl true) _ => true
  | _ => false
theorem nx_of {r : RS} (h : isNx r = true) : r = .nx (envOf r) (hpOf r) := by cases r <;> first | rfl | cases h
theorem LR.go' {m : SM} {ms : List SM} {env : Env'} {h : Hh} (e : isNx (m env h) = true) (r : LR ms (envOf (m env h)) (hpOf (m env h))) : LR (m :: ms) env h := LR.go (nx_of e) r
theorem LR.fin' {m : SM} {ms : List SM} {env : Env'} {h : Hh} (e : isTT (m env h) = true) : LR (m :: ms) env h := by
  cases q : m env h with
  | rt d h1 =>
    rw [q] at e
    cases d with
    | bl b =>
      cases b with
      | true => exact LR.fin q
      | false => cases e
    | _ => cases e
  | _ => rw [q] at e; cases e
theorem fgt_none : ∀ {e : Env'}, Fgt e (List.replicate e.length none)
  | [] => .nil
  | _ :: e => .drop fgt_none
theorem fgt_one {e : Env'} {n : Nat} (h1 : e.length = n + 2) (h2 : e[1]? = some (some (.ref 1))) : Fgt e (none :: some (.ref 1) :: List.replicate n none) := by
  match e, h1, h2 with
  | x :: y :: e, h1, h2 =>
    cases h2
    have hl : e.length = n := by simpa using h1
    rw [← hl]
    exact .drop (.box fgt_none)
theorem LR.cut' {m : SM} {ms : List SM} {env : Env'} {h : Hh} {b : Bs} {g : Hh} {n : Nat} (e : isNx (m env h) = true) (e1 : (envOf (m env h)).length = n + 2) (e2 : (envOf (m env h))[1]? = some (some (.ref 1))) (e3 : hpOf (m env h) = b.h g)
    (r : LR ms (none :: some (.ref 1) :: List.replicate n none) (b.h [])) : LR (m :: ms) env h := LR.fgb ((nx_of e).trans (by rw [e3])) (fgt_one e1 e2) r
/-- a plain def's value does not hang on the heap -/
theorem fnP_h {n N : Nat} {m : SM} {ds : List D} {d : D} (h : Hh) (c : ds.length = n ∧ D.rfs ds = true) (e : fnP n N m ds [] = .ok d []) : fnP n N m ds h = .ok d h := by
  unfold fnP at e ⊢
  rw [if_pos c] at e ⊢
  cases q : fin (m (startE N ds) []) with
  | ok d' h' =>
    rw [q] at e
    dsimp only at e ⊢
    by_cases r : D.rf d' = true
    · rw [if_pos r] at e ⊢
      cases e
      rfl
    · rw [if_neg r] at e; cases e
  | ex x h' => rw [q] at e; cases e
  | no => rw [q] at e; cases e
def isInt (z : Int) : R D → Bool
  | .ok (.int i) [] => match decEq i z with
    | .isTrue _ => true
    | .isFalse _ => false
  | _ => false
theorem isInt_ok {z : Int} {r : R D} (h : isInt z r = true) : r = .ok (.int z) [] := by
  unfold isInt at h
  split at h
  · split at h
    · rename_i i _ e _; rw [e]
    · cases h
  · cases h
end CB

set_option maxRecDepth 100000
set_option maxHeartbeats 4000000
namespace CB
open PySem PySem.Spec
open L2

def topS (i : Nat) : Stmt := PySem.Challenge.pw_countbook_k86_numbers_in_q_and_spaces.main.body.getD i (.Pass ⟨0, 0, 0, 0⟩)
abbrev s_is_number : Stmt := topS 6
theorem S_is_number : FnScope ["x"] ["x"] (defScope s_is_number) := ⟨rfl, rfl, rfl, by decide +kernel, rfl, by decide +kernel, by decide +kernel⟩
abbrev s_is_poly : Stmt := topS 10
theorem S_is_poly : FnScope ["x", "one"] ["x"] (defScope s_is_poly) := ⟨rfl, rfl, rfl, by decide +kernel, rfl, by decide +kernel, by decide +kernel⟩
abbrev s_check_below : Stmt := topS 11
theorem S_check_below : FnScope ["x", "most"] ["x", "most"] (defScope s_check_below) := ⟨rfl, rfl, rfl, by decide +kernel, rfl, by decide +kernel, by decide +kernel⟩
abbrev s_multiply : Stmt := topS 12
theorem S_multiply : FnScope ["f", "g", "out", "k", "a", "j", "b"] ["f", "g"] (defScope s_multiply) := ⟨rfl, rfl, rfl, by decide +kernel, rfl, by decide +kernel, by decide +kernel⟩
abbrev s_exact : Stmt := topS 13
theorem S_exact : FnScope ["f", "g", "left", "out", "by", "k"] ["f", "g"] (defScope s_exact) := ⟨rfl, rfl, rfl, by decide +kernel, rfl, by decide +kernel, by decide +kernel⟩
abbrev s_number : Stmt := topS 14
theorem S_number : FnScope ["n"] ["n"] (defScope s_number) := ⟨rfl, rfl, rfl, by decide +kernel, rfl, by decide +kernel, by decide +kernel⟩
abbrev s_q_number : Stmt := topS 15
theorem S_q_number : FnScope ["n"] ["n"] (defScope s_q_number) := ⟨rfl, rfl, rfl, by decide +kernel, rfl, by decide +kernel, by decide +kernel⟩
abbrev s_factors : Stmt := topS 16
theorem S_factors : FnScope ["n", "out", "k"] ["n"] (defScope s_factors) := ⟨rfl, rfl, rfl, by decide +kernel, rfl, by decide +kernel, by decide +kernel⟩
abbrev s_q_factorial : Stmt := topS 17
theorem S_q_factorial : FnScope ["n"] ["n"] (defScope s_q_factorial) := ⟨rfl, rfl, rfl, by decide +kernel, rfl, by decide +kernel, by decide +kernel⟩
abbrev s_choose : Stmt := topS 18
theorem S_choose : FnScope ["n", "k", "out", "j"] ["n", "k"] (defScope s_choose) := ⟨rfl, rfl, rfl, by decide +kernel, rfl, by decide +kernel, by decide +kernel⟩
abbrev s_q_choose : Stmt := topS 19
theorem S_q_choose : FnScope ["n", "k"] ["n", "k"] (defScope s_q_choose) := ⟨rfl, rfl, rfl, by decide +kernel, rfl, by decide +kernel, by decide +kernel⟩
abbrev s_q_worth : Stmt := topS 20
theorem S_q_worth : FnScope ["f", "q", "out", "one"] ["f", "q"] (defScope s_q_worth) := ⟨rfl, rfl, rfl, by decide +kernel, rfl, by decide +kernel, by decide +kernel⟩
abbrev s_spaces : Stmt := topS 21
theorem S_spaces : FnScope ["n", "k", "q"] ["n", "k", "q"] (defScope s_spaces) := ⟨rfl, rfl, rfl, by decide +kernel, rfl, by decide +kernel, by decide +kernel⟩
abbrev s__law_box : Stmt := topS 23
theorem S__law_box : FnScope ["script", "x"] ["script"] (defScope s__law_box) := ⟨rfl, rfl, rfl, by decide +kernel, rfl, by decide +kernel, by decide +kernel⟩
abbrev s__law_take : Stmt := topS 24
theorem S__law_take : FnScope ["box", "m", "spot", "cell", "told"] ["box", "m"] (defScope s__law_take) := ⟨rfl, rfl, rfl, by decide +kernel, rfl, by decide +kernel, by decide +kernel⟩
abbrev s__law_pick : Stmt := topS 25
theorem S__law_pick : FnScope ["box", "menu"] ["box", "menu"] (defScope s__law_pick) := ⟨rfl, rfl, rfl, by decide +kernel, rfl, by decide +kernel, by decide +kernel⟩
abbrev s__law_refusal : Stmt := topS 26
theorem S__law_refusal : FnScope ["call"] ["call"] (defScope s__law_refusal) := ⟨rfl, rfl, rfl, by decide +kernel, rfl, by decide +kernel, by decide +kernel⟩
abbrev s__law_sum : Stmt := topS 27
theorem S__law_sum : FnScope ["f", "g", "out", "k"] ["f", "g"] (defScope s__law_sum) := ⟨rfl, rfl, rfl, by decide +kernel, rfl, by decide +kernel, by decide +kernel⟩
abbrev s__law_times : Stmt := topS 28
theorem S__law_times : FnScope ["f", "g", "out", "i", "j"] ["f", "g"] (defScope s__law_times) := ⟨rfl, rfl, rfl, by decide +kernel, rfl, by decide +kernel, by decide +kernel⟩
abbrev s__law_choose_q : Stmt := topS 29
theorem S__law_choose_q : FnScope ["n", "rows", "m", "row", "k"] ["n"] (defScope s__law_choose_q) := ⟨rfl, rfl, rfl, by decide +kernel, rfl, by decide +kernel, by decide +kernel⟩
abbrev s__law_choose : Stmt := topS 30
theorem S__law_choose : FnScope ["n", "k", "out", "j"] ["n", "k"] (defScope s__law_choose) := ⟨rfl, rfl, rfl, by decide +kernel, rfl, by decide +kernel, by decide +kernel⟩
abbrev s__law_first : Stmt := topS 31
theorem S__law_first : FnScope ["script", "box", "n", "k", "long", "rows", "product", "m", "big", "some", "due", "q", "f", "worth", "power", "one", "bad", "turn"] ["script"] (defScope s__law_first) := ⟨rfl, rfl, rfl, by decide +kernel, rfl, by decide +kernel, by decide +kernel⟩
abbrev s__law_stairs : Stmt := topS 32
theorem S__law_stairs : FnScope ["n", "k", "q", "known", "place", "total", "one", "free", "i", "ways", "turn"] ["n", "k", "q"] (defScope s__law_stairs) := ⟨rfl, rfl, rfl, by decide +kernel, rfl, by decide +kernel, by decide +kernel⟩
abbrev s__law_rows : Stmt := topS 33
theorem S__law_rows : FnScope ["n", "q", "rows", "turn", "longer", "row", "x"] ["n", "q"] (defScope s__law_rows) := ⟨rfl, rfl, rfl, by decide +kernel, rfl, by decide +kernel, by decide +kernel⟩
abbrev s__law_spanned : Stmt := topS 34
theorem S__law_spanned : FnScope ["rows", "q", "n", "out", "row", "longer", "one", "times", "new", "k"] ["rows", "q"] (defScope s__law_spanned) := ⟨rfl, rfl, rfl, by decide +kernel, rfl, by decide +kernel, by decide +kernel⟩
abbrev s__law_second : Stmt := topS 35
theorem S__law_second : FnScope ["script", "box", "q", "n", "k", "small", "rows", "one", "two", "row", "other", "span", "bad"] ["script"] (defScope s__law_second) := ⟨rfl, rfl, rfl, by decide +kernel, rfl, by decide +kernel, by decide +kernel⟩
abbrev s_law : Stmt := topS 36
theorem S_law : FnScope ["script"] ["script"] (defScope s_law) := ⟨rfl, rfl, rfl, by decide +kernel, rfl, by decide +kernel, by decide +kernel⟩
structure Fx (K : PySem.W.Frag) (mg : Str → Option Value) where
  f_is_number : Addr
  d_is_number : FuncData
  F_is_number : Fun K "is_number" "is_number" s_is_number f_is_number d_is_number
  B_is_number : Binds K d_is_number ["x"] []
  G_is_number : mg "is_number" = some (.ref f_is_number)
  f_is_poly : Addr
  d_is_poly : FuncData
  F_is_poly : Fun K "is_poly" "is_poly" s_is_poly f_is_poly d_is_poly
  B_is_poly : Binds K d_is_poly ["x"] []
  G_is_poly : mg "is_poly" = some (.ref f_is_poly)
  f_check_below : Addr
  d_check_below : FuncData
  F_check_below : Fun K "check_below" "check_below" s_check_below f_check_below d_check_below
  B_check_below : Binds K d_check_below ["x", "most"] []
  G_check_below : mg "check_below" = some (.ref f_check_below)
  f_multiply : Addr
  d_multiply : FuncData
  F_multiply : Fun K "multiply" "multiply" s_multiply f_multiply d_multiply
  B_multiply : Binds K d_multiply ["f", "g"] []
  G_multiply : mg "multiply" = some (.ref f_multiply)
  f_exact : Addr
  d_exact : FuncData
  F_exact : Fun K "exact" "exact" s_exact f_exact d_exact
  B_exact : Binds K d_exact ["f", "g"] []
  G_exact : mg "exact" = some (.ref f_exact)
  f_number : Addr
  d_number : FuncData
  F_number : Fun K "number" "number" s_number f_number d_number
  B_number : Binds K d_number ["n"] []
  G_number : mg "number" = some (.ref f_number)
  f_q_number : Addr
  d_q_number : FuncData
  F_q_number : Fun K "q_number" "q_number" s_q_number f_q_number d_q_number
  B_q_number : Binds K d_q_number ["n"] []
  G_q_number : mg "q_number" = some (.ref f_q_number)
  f_factors : Addr
  d_factors : FuncData
  F_factors : Fun K "factors" "factors" s_factors f_factors d_factors
  B_factors : Binds K d_factors ["n"] []
  G_factors : mg "factors" = some (.ref f_factors)
  f_q_factorial : Addr
  d_q_factorial : FuncData
  F_q_factorial : Fun K "q_factorial" "q_factorial" s_q_factorial f_q_factorial d_q_factorial
  B_q_factorial : Binds K d_q_factorial ["n"] []
  G_q_factorial : mg "q_factorial" = some (.ref f_q_factorial)
  f_choose : Addr
  d_choose : FuncData
  F_choose : Fun K "choose" "choose" s_choose f_choose d_choose
  B_choose : Binds K d_choose ["n", "k"] []
  G_choose : mg "choose" = some (.ref f_choose)
  f_q_choose : Addr
  d_q_choose : FuncData
  F_q_choose : Fun K "q_choose" "q_choose" s_q_choose f_q_choose d_q_choose
  B_q_choose : Binds K d_q_choose ["n", "k"] []
  G_q_choose : mg "q_choose" = some (.ref f_q_choose)
  f_q_worth : Addr
  d_q_worth : FuncData
  F_q_worth : Fun K "q_worth" "q_worth" s_q_worth f_q_worth d_q_worth
  B_q_worth : Binds K d_q_worth ["f", "q"] []
  G_q_worth : mg "q_worth" = some (.ref f_q_worth)
  f_spaces : Addr
  d_spaces : FuncData
  F_spaces : Fun K "spaces" "spaces" s_spaces f_spaces d_spaces
  B_spaces : Binds K d_spaces ["n", "k", "q"] []
  G_spaces : mg "spaces" = some (.ref f_spaces)
  f__law_box : Addr
  d__law_box : FuncData
  F__law_box : Fun K "_law_box" "_law_box" s__law_box f__law_box d__law_box
  B__law_box : Binds K d__law_box ["script"] []
  G__law_box : mg "_law_box" = some (.ref f__law_box)
  f__law_take : Addr
  d__law_take : FuncData
  F__law_take : Fun K "_law_take" "_law_take" s__law_take f__law_take d__law_take
  B__law_take : Binds K d__law_take ["box", "m"] []
  G__law_take : mg "_law_take" = some (.ref f__law_take)
  f__law_pick : Addr
  d__law_pick : FuncData
  F__law_pick : Fun K "_law_pick" "_law_pick" s__law_pick f__law_pick d__law_pick
  B__law_pick : Binds K d__law_pick ["box", "menu"] []
  G__law_pick : mg "_law_pick" = some (.ref f__law_pick)
  f__law_refusal : Addr
  d__law_refusal : FuncData
  F__law_refusal : Fun K "_law_refusal" "_law_refusal" s__law_refusal f__law_refusal d__law_refusal
  B__law_refusal : Binds K d__law_refusal ["call"] []
  G__law_refusal : mg "_law_refusal" = some (.ref f__law_refusal)
  f__law_sum : Addr
  d__law_sum : FuncData
  F__law_sum : Fun K "_law_sum" "_law_sum" s__law_sum f__law_sum d__law_sum
  B__law_sum : Binds K d__law_sum ["f", "g"] []
  G__law_sum : mg "_law_sum" = some (.ref f__law_sum)
  f__law_times : Addr
  d__law_times : FuncData
  F__law_times : Fun K "_law_times" "_law_times" s__law_times f__law_times d__law_times
  B__law_times : Binds K d__law_times ["f", "g"] []
  G__law_times : mg "_law_times" = some (.ref f__law_times)
  f__law_choose_q : Addr
  d__law_choose_q : FuncData
  F__law_choose_q : Fun K "_law_choose_q" "_law_choose_q" s__law_choose_q f__law_choose_q d__law_choose_q
  B__law_choose_q : Binds K d__law_choose_q ["n"] []
  G__law_choose_q : mg "_law_choose_q" = some (.ref f__law_choose_q)
  f__law_choose : Addr
  d__law_choose : FuncData
  F__law_choose : Fun K "_law_choose" "_law_choose" s__law_choose f__law_choose d__law_choose
  B__law_choose : Binds K d__law_choose ["n", "k"] []
  G__law_choose : mg "_law_choose" = some (.ref f__law_choose)
  f__law_first : Addr
  d__law_first : FuncData
  F__law_first : Fun K "_law_first" "_law_first" s__law_first f__law_first d__law_first
  B__law_first : Binds K d__law_first ["script"] []
  G__law_first : mg "_law_first" = some (.ref f__law_first)
  f__law_stairs : Addr
  d__law_stairs : FuncData
  F__law_stairs : Fun K "_law_stairs" "_law_stairs" s__law_stairs f__law_stairs d__law_stairs
  B__law_stairs : Binds K d__law_stairs ["n", "k", "q"] []
  G__law_stairs : mg "_law_stairs" = some (.ref f__law_stairs)
  f__law_rows : Addr
  d__law_rows : FuncData
  F__law_rows : Fun K "_law_rows" "_law_rows" s__law_rows f__law_rows d__law_rows
  B__law_rows : Binds K d__law_rows ["n", "q"] []
  G__law_rows : mg "_law_rows" = some (.ref f__law_rows)
  f__law_spanned : Addr
  d__law_spanned : FuncData
  F__law_spanned : Fun K "_law_spanned" "_law_spanned" s__law_spanned f__law_spanned d__law_spanned
  B__law_spanned : Binds K d__law_spanned ["rows", "q"] []
  G__law_spanned : mg "_law_spanned" = some (.ref f__law_spanned)
  f__law_second : Addr
  d__law_second : FuncData
  F__law_second : Fun K "_law_second" "_law_second" s__law_second f__law_second d__law_second
  B__law_second : Binds K d__law_second ["script"] []
  G__law_second : mg "_law_second" = some (.ref f__law_second)
  f_law : Addr
  d_law : FuncData
  F_law : Fun K "law" "law" s_law f_law d_law
  B_law : Binds K d_law ["script"] []
  G_law : mg "law" = some (.ref f_law)
  C_BadCount : Addr
  O_BadCount : Own K mg "BadCount" C_BadCount "ValueError" "ValueError.__new__" "ValueError.__init__" [.type "ValueError", .type "Exception", .type "BaseException", .type "object"]
  t_MOST_CHOSEN : Tok
  c_MOST_CHOSEN : mg "MOST_CHOSEN" = some (.int 24 t_MOST_CHOSEN)
  t_MOST_FACTORS : Tok
  c_MOST_FACTORS : mg "MOST_FACTORS" = some (.int 12 t_MOST_FACTORS)
  m_abs : mg "abs" = none
  m_all : mg "all" = none
  m_bool : mg "bool" = none
  m_enumerate : mg "enumerate" = none
  m_int : mg "int" = none
  m_isinstance : mg "isinstance" = none
  m_len : mg "len" = none
  m_list : mg "list" = none
  m_max : mg "max" = none
  m_range : mg "range" = none
  m_sorted : mg "sorted" = none
  m_tuple : mg "tuple" = none
  M : Exm K mg
  c__law_first : Addr
  P__law_first : Addr
  c__law_second : Addr
  P__law_second : Addr
structure Ls {K : PySem.W.Frag} {mg : Str → Option Value} (base : Heap) (T : List (Addr × Str)) (d : Fx K mg) : Prop where
  L__law_first : Lm base mg T d.d__law_first (("_law_first" : Str) ++ ".<locals>.") d.c__law_first d.P__law_first
  L__law_second : Lm base mg T d.d__law_second (("_law_second" : Str) ++ ".<locals>.") d.c__law_second d.P__law_second
section
variable {P : Program} {w : World} {K : PySem.W.Frag} {mg : Str → Option Value} {base : Heap} {T : List (Addr × Str)}
def m_is_number : SM :=
  (mRet (mAnd (mUn (pIsi .int) (mV 0)) (mNot (mUn pTru (mUn (pIsi .bool) (mV 0))))))
def phi_is_number : List D → Hh → R D := fnP 1 1 m_is_number
theorem ok_is_number (d : Fx K mg) : FnOk P w K mg base (L2.CX P w) 1 d.f_is_number d.d_is_number ["x"] (spM K T mg 1 phi_is_number) :=
  fn_pure (fn_bodyG (k := 0) d.F_is_number S_is_number rfl fun cdv A outer s H E hr =>
  (B_one (S_ret (T_and (T_isi .int (T_v 0) (by rfl) d.m_isinstance (by rfl) d.m_int (by decide +kernel)) (T_one (T_not (T_isi .bool (T_v 0) (by rfl) d.m_isinstance (by rfl) d.m_bool (by decide +kernel))))))))
def m_is_poly : SM :=
  (mRet (mAnd (mUn (pIsi .tuple) (mV 0)) (mAnd (mCall pAll (mCons (mLc (mSeqI (mV 0)) [1] (kN 1) (mC (.bl true)) (mCall phi_is_number (mCons (mV 1) mNil))) mNil)) (mOr (mNot (mUn pTru (mV 0))) (mBin pNe (mBin pIx (mV 0) (mUn pNeg (mC (.int 1)))) (mC (.int 0)))))))
def phi_is_poly : List D → Hh → R D := fnP 1 2 m_is_poly
theorem ok_is_poly (d : Fx K mg) : FnOk P w K mg base (L2.CX P w) 2 d.f_is_poly d.d_is_poly ["x"] (spM K T mg 1 phi_is_poly) :=
  fn_pure (fn_bodyG (k := 1) d.F_is_poly S_is_poly rfl fun cdv A outer s H E hr =>
  (B_one (S_ret (T_and (T_isi .tuple (T_v 0) (by rfl) d.m_isinstance (by rfl) d.m_tuple (by decide +kernel)) (T_and (T_blt (c_all rfl) (by rfl) d.m_all (by decide +kernel) (T_cons (T_lc (own := [("one", 1)]) rfl S_is_poly.nd (I_sq (T_v 0)) (blkOk_by (by kernel_rfl)) (kIn_nm) (fun _ _ _ _ _ => (K_nm 1 S_is_poly.nd)) (fun _ _ _ _ _ => PT_nil) (fun _ _ _ _ _ => (T_call (ok_is_number d) (hr.mono (by decide)) (by rfl) d.G_is_number d.F_is_number.kp d.B_is_number takes0 (T_cons (T_v 1) T_nil) rfl (mCons_len mNil_len)))) T_nil)) (T_one (T_or (T_not (T_v 0)) (T_one (T_cmp (o_ne (hu64 hr)) (T_ix (T_v 0) (T_un u_neg T_int)) T_int)))))))))
def m_check_below : SM :=
  (mIf (mOr (mNot (mUn pTru (mCall phi_is_number (mCons (mV 0) mNil)))) (mNot (mChain pLe pLe (mC (.int 0)) (mV 0) (mV 1)))) (mRaise "BadCount") mPass)
def phi_check_below : List D → Hh → R D := fnP 2 2 m_check_below
theorem ok_check_below (d : Fx K mg) : FnOk P w K mg base (L2.CX P w) 2 d.f_check_below d.d_check_below ["x", "most"] (spM K T mg 2 phi_check_below) :=
  fn_pure (fn_bodyG (k := 1) d.F_check_below S_check_below rfl fun cdv A outer s H E hr =>
  (B_one (S_if (TT_or (TT_not (TT_tru (T_call (ok_is_number d) (hr.mono (by decide)) (by rfl) d.G_is_number d.F_is_number.kp d.B_is_number (takes_of rfl rfl rfl rfl) (T_cons (T_v 0) T_nil) rfl (mCons_len mNil_len)))) (TT_or1 (TT_not (TT_chain o_le o_le T_int (T_v 0) (T_v 1))))).pt (B_one (S_rs rfl (takes_of rfl rfl rfl rfl) d.O_BadCount (by rfl))) B_nil)))
def m_multiply : SM :=
  (mSeq (mIf (mOr (mNot (mUn pTru (mV 0))) (mNot (mUn pTru (mV 1)))) (mRet (mTup mNil)) mPass)
  (mSeq (mSet 2 (mBin pMul (mLst (mCons (mC (.int 0)) mNil)) (mBin pSub (mBin pAdd (mCall pLen (mCons (mV 0) mNil)) (mCall pLen (mCons (mV 1) mNil))) (mC (.int 1)))))
  (mSeq (mFor (mEnumI (mCons (mV 0) mNil)) (bT 2 (bsCons (bN 3) (bsCons (bN 4) bsNil))) (mFor (mEnumI (mCons (mV 1) mNil)) (bT 2 (bsCons (bN 5) (bsCons (bN 6) bsNil))) (mAugS (mV 2) (mBin pAdd (mV 3) (mV 5)) pIadd (mBin pMul (mV 4) (mV 6)))))
  (mRet (mCall pTuple (mCons (mV 2) mNil))))))
def phi_multiply : List D → Hh → R D := fnP 2 7 m_multiply
theorem ok_multiply (d : Fx K mg) : FnOk P w K mg base (L2.CX P w) 1 d.f_multiply d.d_multiply ["f", "g"] (spM K T mg 2 phi_multiply) :=
  fn_pure (fn_bodyG (k := 0) d.F_multiply S_multiply rfl fun cdv A outer s H E hr =>
  (B_cons (S_if (TT_or (TT_not (TT_tru (T_v 0))) (TT_or1 (TT_not (TT_tru (T_v 1))))).pt (B_one (S_ret (T_tup T_nil))) B_nil)
  (B_cons (S_set 2 S_multiply.nd (T_bin o_mul (T_lst (T_cons T_int T_nil)) (T_bin o_sub (T_bin o_add (T_blt c_len (by rfl) d.m_len (by decide +kernel) (T_cons (T_v 0) T_nil)) (T_blt c_len (by rfl) d.m_len (by decide +kernel) (T_cons (T_v 1) T_nil))) T_int)))
  (B_cons (S_for (passes_of rfl) rfl (I_enum (by rfl) d.m_enumerate (T_cons (T_v 0) T_nil)) (G_tup rfl (Gs_cons (G_nm 3 S_multiply.nd) (Gs_cons (G_nm 4 S_multiply.nd) Gs_nil))) (B_one (S_for (passes_of rfl) rfl (I_enum (by rfl) d.m_enumerate (T_cons (T_v 1) T_nil)) (G_tup rfl (Gs_cons (G_nm 5 S_multiply.nd) (Gs_cons (G_nm 6 S_multiply.nd) Gs_nil))) (B_one (S_augS i_add (T_v 2) (T_bin o_add (T_v 3) (T_v 5)) (T_bin o_mul (T_v 4) (T_v 6)))))))
  (B_one (S_ret (T_ty c_tuple (by rfl) d.m_tuple (by decide +kernel) (T_cons (T_v 2) T_nil))))))))
def m_exact : SM :=
  (mSeq (mPar [2, 3] (mCons (mCall pList (mCons (mV 0) mNil)) (mCons (mLst mNil) mNil)))
  (mSeq (mWhile 1000000 (mBin pGe (mCall pLen (mCons (mV 2) mNil)) (mCall pLen (mCons (mV 1) mNil))) (mSeq (mSet 4 (mBin pIx (mV 2) (mUn pNeg (mC (.int 1)))))
  (mSeq (mDo (mMtL pAppend (mV 3) (mCons (mV 4) mNil)))
  (mSeq (mFor (mRng1 (mCons (mCall pLen (mCons (mV 1) mNil)) mNil)) (bN 5) (mAugS (mV 2) (mBin pAdd (mBin pSub (mCall pLen (mCons (mV 2) mNil)) (mCall pLen (mCons (mV 1) mNil))) (mV 5)) pSub (mBin pMul (mV 4) (mBin pIx (mV 1) (mV 5)))))
  (mDo (mMtL pPop (mV 2) mNil))))))
  (mRet (mCall pTuple (mCons (mUn pRev (mV 3)) mNil)))))
def phi_exact : List D → Hh → R D := fnP 2 6 m_exact
theorem ok_exact (d : Fx K mg) : FnOk P w K mg base (L2.CX P w) 1 d.f_exact d.d_exact ["f", "g"] (spM K T mg 2 phi_exact) :=
  fn_pure (fn_bodyG (k := 0) d.F_exact S_exact rfl fun cdv A outer s H E hr =>
  (B_cons (S_par (i := 2) (j := 3) rfl S_exact.nd (by decide) (T_cons (T_ty c_list (by rfl) d.m_list (by decide +kernel) (T_cons (T_v 0) T_nil)) (T_cons (T_lst T_nil) T_nil)))
  (B_cons (S_while 1000000 (passes_of rfl) (TT_cmp o_ge (T_blt c_len (by rfl) d.m_len (by decide +kernel) (T_cons (T_v 2) T_nil)) (T_blt c_len (by rfl) d.m_len (by decide +kernel) (T_cons (T_v 1) T_nil))) (B_cons (S_set 4 S_exact.nd (T_ix (T_v 2) (T_un u_neg T_int)))
  (B_cons (S_do (T_mtL PySem.F.plainAttrs_list PySem.F.slot_list_append PySem.F.type_list_append m_append (T_v 3) (T_cons (T_v 4) T_nil)))
  (B_cons (S_for (passes_of rfl) rfl (I_rng1 (by rfl) d.m_range (T_cons (T_blt c_len (by rfl) d.m_len (by decide +kernel) (T_cons (T_v 1) T_nil)) T_nil)) (G_nm 5 S_exact.nd) (B_one (S_augS i_sub (T_v 2) (T_bin o_add (T_bin o_sub (T_blt c_len (by rfl) d.m_len (by decide +kernel) (T_cons (T_v 2) T_nil)) (T_blt c_len (by rfl) d.m_len (by decide +kernel) (T_cons (T_v 1) T_nil))) (T_v 5)) (T_bin o_mul (T_v 4) (T_ix (T_v 1) (T_v 5))))))
  (B_one (S_do (T_mtL0 PySem.F.plainAttrs_list PySem.F.slot_list_pop PySem.F.type_list_pop m_pop (T_v 2))))))))
  (B_one (S_ret (T_ty c_tuple (by rfl) d.m_tuple (by decide +kernel) (T_cons (T_rev (T_v 3)) T_nil)))))))
def m_number : SM :=
  (mRet (mBin pMul (mTup (mCons (mC (.int 1)) mNil)) (mV 0)))
def phi_number : List D → Hh → R D := fnP 1 1 m_number
theorem ok_number (d : Fx K mg) : FnOk P w K mg base (L2.CX P w) 1 d.f_number d.d_number ["n"] (spM K T mg 1 phi_number) :=
  fn_pure (fn_bodyG (k := 0) d.F_number S_number rfl fun cdv A outer s H E hr =>
  (B_one (S_ret (T_bin o_mul (T_tup (T_cons T_int T_nil)) (T_v 0)))))
def m_q_number : SM :=
  (mSeq (mDo (mCall phi_check_below (mCons (mV 0) (mCons (mC (.int 60)) mNil))))
  (mRet (mCall phi_number (mCons (mV 0) mNil))))
def phi_q_number : List D → Hh → R D := fnP 1 1 m_q_number
theorem ok_q_number (d : Fx K mg) : FnOk P w K mg base (L2.CX P w) 3 d.f_q_number d.d_q_number ["n"] (spM K T mg 1 phi_q_number) :=
  fn_pure (fn_bodyG (k := 2) d.F_q_number S_q_number rfl fun cdv A outer s H E hr =>
  (B_cons (S_do (T_call (ok_check_below d) (hr.mono (by decide)) (by rfl) d.G_check_below d.F_check_below.kp d.B_check_below (takes_of rfl rfl rfl rfl) (T_cons (T_v 0) (T_cons T_int T_nil)) rfl (mCons_len (mCons_len mNil_len))))
  (B_one (S_ret (T_call (ok_number d) (hr.mono (by decide)) (by rfl) d.G_number d.F_number.kp d.B_number (takes_of rfl rfl rfl rfl) (T_cons (T_v 0) T_nil) rfl (mCons_len mNil_len))))))
def m_factors : SM :=
  (mSeq (mSet 1 (mTup (mCons (mC (.int 1)) mNil)))
  (mSeq (mFor (mRng2 (mCons (mC (.int 2)) (mCons (mBin pAdd (mV 0) (mC (.int 1))) mNil))) (bN 2) (mSet 1 (mCall phi_multiply (mCons (mV 1) (mCons (mCall phi_number (mCons (mV 2) mNil)) mNil)))))
  (mRet (mV 1))))
def phi_factors : List D → Hh → R D := fnP 1 3 m_factors
theorem ok_factors (d : Fx K mg) : FnOk P w K mg base (L2.CX P w) 2 d.f_factors d.d_factors ["n"] (spM K T mg 1 phi_factors) :=
  fn_pure (fn_bodyG (k := 1) d.F_factors S_factors rfl fun cdv A outer s H E hr =>
  (B_cons (S_set 1 S_factors.nd (T_tup (T_cons T_int T_nil)))
  (B_cons (S_for (passes_of rfl) rfl (I_rng2 (by rfl) d.m_range (T_cons T_int (T_cons (T_bin o_add (T_v 0) T_int) T_nil))) (G_nm 2 S_factors.nd) (B_one (S_set 1 S_factors.nd (T_call (ok_multiply d) (hr.mono (by decide)) (by rfl) d.G_multiply d.F_multiply.kp d.B_multiply (takes_of rfl rfl rfl rfl) (T_cons (T_v 1) (T_cons (T_call (ok_number d) (hr.mono (by decide)) (by rfl) d.G_number d.F_number.kp d.B_number (takes_of rfl rfl rfl rfl) (T_cons (T_v 2) T_nil) rfl (mCons_len mNil_len)) T_nil)) rfl (mCons_len (mCons_len mNil_len))))))
  (B_one (S_ret (T_v 1))))))
def m_q_factorial : SM :=
  (mSeq (mDo (mCall phi_check_below (mCons (mV 0) (mCons (mC (.int 12)) mNil))))
  (mRet (mCall phi_factors (mCons (mV 0) mNil))))
def phi_q_factorial : List D → Hh → R D := fnP 1 1 m_q_factorial
theorem ok_q_factorial (d : Fx K mg) : FnOk P w K mg base (L2.CX P w) 3 d.f_q_factorial d.d_q_factorial ["n"] (spM K T mg 1 phi_q_factorial) :=
  fn_pure (fn_bodyG (k := 2) d.F_q_factorial S_q_factorial rfl fun cdv A outer s H E hr =>
  (B_cons (S_do (T_call (ok_check_below d) (hr.mono (by decide)) (by rfl) d.G_check_below d.F_check_below.kp d.B_check_below (takes_of rfl rfl rfl rfl) (T_cons (T_v 0) (T_cons (T_glI (by rfl) d.c_MOST_FACTORS) T_nil)) rfl (mCons_len (mCons_len mNil_len))))
  (B_one (S_ret (T_call (ok_factors d) (hr.mono (by decide)) (by rfl) d.G_factors d.F_factors.kp d.B_factors (takes_of rfl rfl rfl rfl) (T_cons (T_v 0) T_nil) rfl (mCons_len mNil_len))))))
def m_choose : SM :=
  (mSeq (mIf (mBin pGt (mV 1) (mV 0)) (mRet (mTup mNil)) mPass)
  (mSeq (mSet 2 (mTup (mCons (mC (.int 1)) mNil)))
  (mSeq (mFor (mRng2 (mCons (mC (.int 1)) (mCons (mBin pAdd (mV 1) (mC (.int 1))) mNil))) (bN 3) (mSet 2 (mCall phi_exact (mCons (mCall phi_multiply (mCons (mV 2) (mCons (mCall phi_number (mCons (mBin pAdd (mBin pSub (mV 0) (mV 1)) (mV 3)) mNil)) mNil))) (mCons (mCall phi_number (mCons (mV 3) mNil)) mNil)))))
  (mRet (mV 2)))))
def phi_choose : List D → Hh → R D := fnP 2 4 m_choose
theorem ok_choose (d : Fx K mg) : FnOk P w K mg base (L2.CX P w) 2 d.f_choose d.d_choose ["n", "k"] (spM K T mg 2 phi_choose) :=
  fn_pure (fn_bodyG (k := 1) d.F_choose S_choose rfl fun cdv A outer s H E hr =>
  (B_cons (S_if (TT_cmp o_gt (T_v 1) (T_v 0)) (B_one (S_ret (T_tup T_nil))) B_nil)
  (B_cons (S_set 2 S_choose.nd (T_tup (T_cons T_int T_nil)))
  (B_cons (S_for (passes_of rfl) rfl (I_rng2 (by rfl) d.m_range (T_cons T_int (T_cons (T_bin o_add (T_v 1) T_int) T_nil))) (G_nm 3 S_choose.nd) (B_one (S_set 2 S_choose.nd (T_call (ok_exact d) (hr.mono (by decide)) (by rfl) d.G_exact d.F_exact.kp d.B_exact (takes_of rfl rfl rfl rfl) (T_cons (T_call (ok_multiply d) (hr.mono (by decide)) (by rfl) d.G_multiply d.F_multiply.kp d.B_multiply (takes_of rfl rfl rfl rfl) (T_cons (T_v 2) (T_cons (T_call (ok_number d) (hr.mono (by decide)) (by rfl) d.G_number d.F_number.kp d.B_number (takes_of rfl rfl rfl rfl) (T_cons (T_bin o_add (T_bin o_sub (T_v 0) (T_v 1)) (T_v 3)) T_nil) rfl (mCons_len mNil_len)) T_nil)) rfl (mCons_len (mCons_len mNil_len))) (T_cons (T_call (ok_number d) (hr.mono (by decide)) (by rfl) d.G_number d.F_number.kp d.B_number (takes_of rfl rfl rfl rfl) (T_cons (T_v 3) T_nil) rfl (mCons_len mNil_len)) T_nil)) rfl (mCons_len (mCons_len mNil_len))))))
  (B_one (S_ret (T_v 2)))))))
def m_q_choose : SM :=
  (mSeq (mDo (mCall phi_check_below (mCons (mV 0) (mCons (mC (.int 24)) mNil))))
  (mSeq (mDo (mCall phi_check_below (mCons (mV 1) (mCons (mC (.int 24)) mNil))))
  (mRet (mCall phi_choose (mCons (mV 0) (mCons (mV 1) mNil))))))
def phi_q_choose : List D → Hh → R D := fnP 2 2 m_q_choose
theorem ok_q_choose (d : Fx K mg) : FnOk P w K mg base (L2.CX P w) 3 d.f_q_choose d.d_q_choose ["n", "k"] (spM K T mg 2 phi_q_choose) :=
  fn_pure (fn_bodyG (k := 2) d.F_q_choose S_q_choose rfl fun cdv A outer s H E hr =>
  (B_cons (S_do (T_call (ok_check_below d) (hr.mono (by decide)) (by rfl) d.G_check_below d.F_check_below.kp d.B_check_below (takes_of rfl rfl rfl rfl) (T_cons (T_v 0) (T_cons (T_glI (by rfl) d.c_MOST_CHOSEN) T_nil)) rfl (mCons_len (mCons_len mNil_len))))
  (B_cons (S_do (T_call (ok_check_below d) (hr.mono (by decide)) (by rfl) d.G_check_below d.F_check_below.kp d.B_check_below (takes_of rfl rfl rfl rfl) (T_cons (T_v 1) (T_cons (T_glI (by rfl) d.c_MOST_CHOSEN) T_nil)) rfl (mCons_len (mCons_len mNil_len))))
  (B_one (S_ret (T_call (ok_choose d) (hr.mono (by decide)) (by rfl) d.G_choose d.F_choose.kp d.B_choose (takes_of rfl rfl rfl rfl) (T_cons (T_v 0) (T_cons (T_v 1) T_nil)) rfl (mCons_len (mCons_len mNil_len))))))))
def m_q_worth : SM :=
  (mSeq (mIf (mOr (mNot (mUn pTru (mCall phi_is_poly (mCons (mV 0) mNil)))) (mNot (mUn pTru (mCall phi_is_number (mCons (mV 1) mNil))))) (mRaise "BadCount") mPass)
  (mSeq (mSet 2 (mC (.int 0)))
  (mSeq (mFor (mSeqI (mUn pRev (mV 0))) (bN 3) (mSet 2 (mBin pAdd (mBin pMul (mV 2) (mV 1)) (mV 3))))
  (mRet (mV 2)))))
def phi_q_worth : List D → Hh → R D := fnP 2 4 m_q_worth
theorem ok_q_worth (d : Fx K mg) : FnOk P w K mg base (L2.CX P w) 3 d.f_q_worth d.d_q_worth ["f", "q"] (spM K T mg 2 phi_q_worth) :=
  fn_pure (fn_bodyG (k := 2) d.F_q_worth S_q_worth rfl fun cdv A outer s H E hr =>
  (B_cons (S_if (TT_or (TT_not (TT_tru (T_call (ok_is_poly d) (hr.mono (by decide)) (by rfl) d.G_is_poly d.F_is_poly.kp d.B_is_poly (takes_of rfl rfl rfl rfl) (T_cons (T_v 0) T_nil) rfl (mCons_len mNil_len)))) (TT_or1 (TT_not (TT_tru (T_call (ok_is_number d) (hr.mono (by decide)) (by rfl) d.G_is_number d.F_is_number.kp d.B_is_number (takes_of rfl rfl rfl rfl) (T_cons (T_v 1) T_nil) rfl (mCons_len mNil_len)))))).pt (B_one (S_rs rfl (takes_of rfl rfl rfl rfl) d.O_BadCount (by rfl))) B_nil)
  (B_cons (S_set 2 S_q_worth.nd T_int)
  (B_cons (S_for (passes_of rfl) rfl (I_sq (T_rev (T_v 0))) (G_nm 3 S_q_worth.nd) (B_one (S_set 2 S_q_worth.nd (T_bin o_add (T_bin o_mul (T_v 2) (T_v 1)) (T_v 3)))))
  (B_one (S_ret (T_v 2)))))))
def m_spaces : SM :=
  (mSeq (mDo (mCall phi_check_below (mCons (mV 0) (mCons (mC (.int 12)) mNil))))
  (mSeq (mDo (mCall phi_check_below (mCons (mV 1) (mCons (mC (.int 12)) mNil))))
  (mSeq (mIf (mOr (mBin pNin2 (mV 2) (mTup (mCons (mC (.int 2)) (mCons (mC (.int 3)) (mCons (mC (.int 5)) (mCons (mC (.int 7)) mNil)))))) (mNot (mUn pTru (mCall phi_is_number (mCons (mV 2) mNil))))) (mRaise "BadCount") mPass)
  (mRet (mCall phi_q_worth (mCons (mCall phi_choose (mCons (mV 0) (mCons (mV 1) mNil))) (mCons (mV 2) mNil)))))))
def phi_spaces : List D → Hh → R D := fnP 3 3 m_spaces
theorem ok_spaces (d : Fx K mg) : FnOk P w K mg base (L2.CX P w) 4 d.f_spaces d.d_spaces ["n", "k", "q"] (spM K T mg 3 phi_spaces) :=
  fn_pure (fn_bodyG (k := 3) d.F_spaces S_spaces rfl fun cdv A outer s H E hr =>
  (B_cons (S_do (T_call (ok_check_below d) (hr.mono (by decide)) (by rfl) d.G_check_below d.F_check_below.kp d.B_check_below (takes_of rfl rfl rfl rfl) (T_cons (T_v 0) (T_cons (T_glI (by rfl) d.c_MOST_FACTORS) T_nil)) rfl (mCons_len (mCons_len mNil_len))))
  (B_cons (S_do (T_call (ok_check_below d) (hr.mono (by decide)) (by rfl) d.G_check_below d.F_check_below.kp d.B_check_below (takes_of rfl rfl rfl rfl) (T_cons (T_v 1) (T_cons (T_glI (by rfl) d.c_MOST_FACTORS) T_nil)) rfl (mCons_len (mCons_len mNil_len))))
  (B_cons (S_if (TT_or (TT_cmp (o_nin2 (hu65 hr)) (T_v 2) (T_tup (T_cons T_int (T_cons T_int (T_cons T_int (T_cons T_int T_nil)))))) (TT_or1 (TT_not (TT_tru (T_call (ok_is_number d) (hr.mono (by decide)) (by rfl) d.G_is_number d.F_is_number.kp d.B_is_number (takes_of rfl rfl rfl rfl) (T_cons (T_v 2) T_nil) rfl (mCons_len mNil_len)))))).pt (B_one (S_rs rfl (takes_of rfl rfl rfl rfl) d.O_BadCount (by rfl))) B_nil)
  (B_one (S_ret (T_call (ok_q_worth d) (hr.mono (by decide)) (by rfl) d.G_q_worth d.F_q_worth.kp d.B_q_worth (takes_of rfl rfl rfl rfl) (T_cons (T_call (ok_choose d) (hr.mono (by decide)) (by rfl) d.G_choose d.F_choose.kp d.B_choose (takes_of rfl rfl rfl rfl) (T_cons (T_v 0) (T_cons (T_v 1) T_nil)) rfl (mCons_len (mCons_len mNil_len))) (T_cons (T_v 2) T_nil)) rfl (mCons_len (mCons_len mNil_len)))))))))
def m__law_box : SM :=
  (mRet (mLst (mCons (mC (.int 0)) (mCons (mC (.int 0)) (mCons (mC (.int 0)) (mCons (mLc (mSeqI (mV 0)) [1] (kN 1) (mC (.bl true)) (mCall pAbs (mCons (mCall pInt (mCons (mV 1) mNil)) mNil))) mNil))))))
def phi__law_box : List D → Hh → R D := fnG 1 2 m__law_box
theorem ok__law_box (d : Fx K mg) : FnOk P w K mg base (L2.CX P w) 1 d.f__law_box d.d__law_box ["script"] (spM K T mg 1 phi__law_box) :=
  fn_bodyG (k := 0) d.F__law_box S__law_box rfl fun cdv A outer s H E hr =>
  (B_one (S_ret (T_lst (T_cons T_int (T_cons T_int (T_cons T_int (T_cons (T_lc (own := [("x", 1)]) rfl S__law_box.nd (I_sq (T_v 0)) (blkOk_by (by kernel_rfl)) (kIn_nm) (fun _ _ _ _ _ => (K_nm 1 S__law_box.nd)) (fun _ _ _ _ _ => PT_nil) (fun _ _ _ _ _ => (T_blt c_abs (by rfl) d.m_abs (by decide +kernel) (T_cons (T_ty c_int (by rfl) d.m_int (by decide +kernel) (T_cons (T_v 1) T_nil)) T_nil)))) T_nil)))))))
def m__law_take : SM :=
  (mSeq (mIf (mBin pEq (mBin pIx (mV 0) (mC (.int 1))) (mC (.int 0))) (mSeq (mSet 2 (mBin pIx (mV 0) (mC (.int 2))))
  (mSeq (mSet 3 (mC (.int 0)))
  (mSeq (mIf (mBin pLt (mV 2) (mCall pLen (mCons (mBin pIx (mV 0) (mC (.int 3))) mNil))) (mSeq (mSet 3 (mBin pIx (mBin pIx (mV 0) (mC (.int 3))) (mV 2)))
  (mPutS (mV 0) (mC (.int 1)) (mIte (mBin pGe (mV 3) (mBin pPow (mC (.int 10)) (mC (.int 18)))) (mC (.int 60)) (mUn pNeg (mC (.int 9)))))) mPass)
  (mSeq (mPutS (mV 0) (mC (.int 2)) (mBin pAdd (mV 2) (mC (.int 1))))
  (mSeq (mPutS (mV 0) (mC (.int 0)) (mV 3))
  (mIf (mBin pEq (mBin pIx (mV 0) (mC (.int 1))) (mC (.int 0))) (mRet (mC (.int 0))) mPass)))))) mPass)
  (mSeq (mIf (mBin pGt (mBin pIx (mV 0) (mC (.int 1))) (mC (.int 0))) (mSeq (mSet 4 (mBin pMod (mCall pInt (mCons (mBin pIx (mV 0) (mC (.int 0))) mNil)) (mV 1)))
  (mSeq (mPutS (mV 0) (mC (.int 0)) (mBin pDiv (mBin pIx (mV 0) (mC (.int 0))) (mV 1)))
  (mSeq (mPutS (mV 0) (mC (.int 1)) (mIte (mBin pGt (mBin pIx (mV 0) (mC (.int 0))) (mC (.int 0))) (mBin pSub (mBin pIx (mV 0) (mC (.int 1))) (mC (.int 1))) (mC (.int 0))))
  (mRet (mV 4))))) mPass)
  (mSeq (mPutS (mV 0) (mC (.int 1)) (mBin pAdd (mBin pIx (mV 0) (mC (.int 1))) (mC (.int 1))))
  (mSeq (mPutS (mV 0) (mC (.int 0)) (mBin pMod (mCall pInt (mCons (mBin pAdd (mBin pMul (mBin pIx (mV 0) (mC (.int 0))) (mC (.int 48271))) (mBin pMul (mC (.int 69621)) (mBin pAdd (mBin pIx (mV 0) (mC (.int 1))) (mC (.int 20))))) mNil)) (mC (.int 2147483647))))
  (mRet (mBin pMod (mBin pMod (mCall pInt (mCons (mBin pAdd (mBin pDiv (mBin pIx (mV 0) (mC (.int 0))) (mC (.int 7))) (mBin pIx (mV 0) (mC (.int 0)))) mNil)) (mC (.int 1000003))) (mV 1)))))))
def phi__law_take : List D → Hh → R D := fnG 2 5 m__law_take
theorem ok__law_take (d : Fx K mg) : FnOk P w K mg base (L2.CX P w) 1 d.f__law_take d.d__law_take ["box", "m"] (spM K T mg 2 phi__law_take) :=
  fn_bodyG (k := 0) d.F__law_take S__law_take rfl fun cdv A outer s H E hr =>
  (B_cons (S_if (TT_cmp (o_eq (hu64 hr)) (T_ix (T_v 0) T_int) T_int) (B_cons (S_set 2 S__law_take.nd (T_ix (T_v 0) T_int))
  (B_cons (S_set 3 S__law_take.nd T_int)
  (B_cons (S_if (TT_cmp (o_lt (hu0 hr)) (T_v 2) (T_blt c_len (by rfl) d.m_len (by decide +kernel) (T_cons (T_ix (T_v 0) T_int) T_nil))) (B_cons (S_set 3 S__law_take.nd (T_ix (T_ix (T_v 0) T_int) (T_v 2)))
  (B_one (S_putS (T_v 0) T_int (T_ite (TT_cmp o_ge (T_v 3) (T_bin o_pow T_int T_int)) T_int (T_un u_neg T_int))))) B_nil)
  (B_cons (S_putS (T_v 0) T_int (T_bin o_add (T_v 2) T_int))
  (B_cons (S_putS (T_v 0) T_int (T_v 3))
  (B_one (S_if (TT_cmp (o_eq (hu64 hr)) (T_ix (T_v 0) T_int) T_int) (B_one (S_ret T_int)) B_nil))))))) B_nil)
  (B_cons (S_if (TT_cmp o_gt (T_ix (T_v 0) T_int) T_int) (B_cons (S_set 4 S__law_take.nd (T_bin o_mod (T_ty c_int (by rfl) d.m_int (by decide +kernel) (T_cons (T_ix (T_v 0) T_int) T_nil)) (T_v 1)))
  (B_cons (S_putS (T_v 0) T_int (T_bin o_div (T_ix (T_v 0) T_int) (T_v 1)))
  (B_cons (S_putS (T_v 0) T_int (T_ite (TT_cmp o_gt (T_ix (T_v 0) T_int) T_int) (T_bin o_sub (T_ix (T_v 0) T_int) T_int) T_int))
  (B_one (S_ret (T_v 4)))))) B_nil)
  (B_cons (S_putS (T_v 0) T_int (T_bin o_add (T_ix (T_v 0) T_int) T_int))
  (B_cons (S_putS (T_v 0) T_int (T_bin o_mod (T_ty c_int (by rfl) d.m_int (by decide +kernel) (T_cons (T_bin o_add (T_bin o_mul (T_ix (T_v 0) T_int) T_int) (T_bin o_mul T_int (T_bin o_add (T_ix (T_v 0) T_int) T_int))) T_nil)) T_int))
  (B_one (S_ret (T_bin o_mod (T_bin o_mod (T_ty c_int (by rfl) d.m_int (by decide +kernel) (T_cons (T_bin o_add (T_bin o_div (T_ix (T_v 0) T_int) T_int) (T_ix (T_v 0) T_int)) T_nil)) T_int) (T_v 1))))))))
def m__law_pick : SM :=
  (mRet (mBin pIx (mV 1) (mCall phi__law_take (mCons (mV 0) (mCons (mCall pLen (mCons (mV 1) mNil)) mNil)))))
def phi__law_pick : List D → Hh → R D := fnG 2 2 m__law_pick
theorem ok__law_pick (d : Fx K mg) : FnOk P w K mg base (L2.CX P w) 2 d.f__law_pick d.d__law_pick ["box", "menu"] (spM K T mg 2 phi__law_pick) :=
  fn_bodyG (k := 1) d.F__law_pick S__law_pick rfl fun cdv A outer s H E hr =>
  (B_one (S_ret (T_ix (T_v 1) (T_call (ok__law_take d) (hr.mono (by decide)) (by rfl) d.G__law_take d.F__law_take.kp d.B__law_take (takes_of rfl rfl rfl rfl) (T_cons (T_v 0) (T_cons (T_blt c_len (by rfl) d.m_len (by decide +kernel) (T_cons (T_v 1) T_nil)) T_nil)) rfl (mCons_len (mCons_len mNil_len))))))
def m__law_sum : SM :=
  (mSeq (mSet 2 (mBin pMul (mLst (mCons (mC (.int 0)) mNil)) (mCall pMax (mCons (mCall pLen (mCons (mV 0) mNil)) (mCons (mCall pLen (mCons (mV 1) mNil)) mNil)))))
  (mSeq (mFor (mRng1 (mCons (mCall pLen (mCons (mV 0) mNil)) mNil)) (bN 3) (mPutS (mV 2) (mV 3) (mBin pAdd (mBin pIx (mV 2) (mV 3)) (mBin pIx (mV 0) (mV 3)))))
  (mSeq (mFor (mRng1 (mCons (mCall pLen (mCons (mV 1) mNil)) mNil)) (bN 3) (mPutS (mV 2) (mV 3) (mBin pAdd (mBin pIx (mV 2) (mV 3)) (mBin pIx (mV 1) (mV 3)))))
  (mSeq (mWhile 1000000 (mAnd (mUn pTru (mV 2)) (mBin pEq (mBin pIx (mV 2) (mUn pNeg (mC (.int 1)))) (mC (.int 0)))) (mDo (mMtL pPop (mV 2) mNil)))
  (mRet (mCall pTuple (mCons (mV 2) mNil)))))))
def phi__law_sum : List D → Hh → R D := fnP 2 4 m__law_sum
theorem ok__law_sum (d : Fx K mg) : FnOk P w K mg base (L2.CX P w) 1 d.f__law_sum d.d__law_sum ["f", "g"] (spM K T mg 2 phi__law_sum) :=
  fn_pure (fn_bodyG (k := 0) d.F__law_sum S__law_sum rfl fun cdv A outer s H E hr =>
  (B_cons (S_set 2 S__law_sum.nd (T_bin o_mul (T_lst (T_cons T_int T_nil)) (T_blt (c_max rfl) (by rfl) d.m_max (by decide +kernel) (T_cons (T_blt c_len (by rfl) d.m_len (by decide +kernel) (T_cons (T_v 0) T_nil)) (T_cons (T_blt c_len (by rfl) d.m_len (by decide +kernel) (T_cons (T_v 1) T_nil)) T_nil)))))
  (B_cons (S_for (passes_of rfl) rfl (I_rng1 (by rfl) d.m_range (T_cons (T_blt c_len (by rfl) d.m_len (by decide +kernel) (T_cons (T_v 0) T_nil)) T_nil)) (G_nm 3 S__law_sum.nd) (B_one (S_putS (T_v 2) (T_v 3) (T_bin o_add (T_ix (T_v 2) (T_v 3)) (T_ix (T_v 0) (T_v 3))))))
  (B_cons (S_for (passes_of rfl) rfl (I_rng1 (by rfl) d.m_range (T_cons (T_blt c_len (by rfl) d.m_len (by decide +kernel) (T_cons (T_v 1) T_nil)) T_nil)) (G_nm 3 S__law_sum.nd) (B_one (S_putS (T_v 2) (T_v 3) (T_bin o_add (T_ix (T_v 2) (T_v 3)) (T_ix (T_v 1) (T_v 3))))))
  (B_cons (S_while 1000000 (passes_of rfl) (TT_and (TT_tru (T_v 2)) (TT_and1 (TT_cmp (o_eq (hu64 hr)) (T_ix (T_v 2) (T_un u_neg T_int)) T_int))).pt (B_one (S_do (T_mtL0 PySem.F.plainAttrs_list PySem.F.slot_list_pop PySem.F.type_list_pop m_pop (T_v 2)))))
  (B_one (S_ret (T_ty c_tuple (by rfl) d.m_tuple (by decide +kernel) (T_cons (T_v 2) T_nil)))))))))
def m__law_times : SM :=
  (mSeq (mSet 2 (mBin pMul (mLst (mCons (mC (.int 0)) mNil)) (mBin pAdd (mCall pLen (mCons (mV 0) mNil)) (mCall pLen (mCons (mV 1) mNil)))))
  (mSeq (mFor (mRng1 (mCons (mCall pLen (mCons (mV 0) mNil)) mNil)) (bN 3) (mFor (mRng1 (mCons (mCall pLen (mCons (mV 1) mNil)) mNil)) (bN 4) (mPutS (mV 2) (mBin pAdd (mV 3) (mV 4)) (mBin pAdd (mBin pIx (mV 2) (mBin pAdd (mV 3) (mV 4))) (mBin pMul (mBin pIx (mV 0) (mV 3)) (mBin pIx (mV 1) (mV 4)))))))
  (mSeq (mWhile 1000000 (mAnd (mUn pTru (mV 2)) (mBin pEq (mBin pIx (mV 2) (mUn pNeg (mC (.int 1)))) (mC (.int 0)))) (mDo (mMtL pPop (mV 2) mNil)))
  (mRet (mCall pTuple (mCons (mV 2) mNil))))))
def phi__law_times : List D → Hh → R D := fnP 2 5 m__law_times
theorem ok__law_times (d : Fx K mg) : FnOk P w K mg base (L2.CX P w) 1 d.f__law_times d.d__law_times ["f", "g"] (spM K T mg 2 phi__law_times) :=
  fn_pure (fn_bodyG (k := 0) d.F__law_times S__law_times rfl fun cdv A outer s H E hr =>
  (B_cons (S_set 2 S__law_times.nd (T_bin o_mul (T_lst (T_cons T_int T_nil)) (T_bin o_add (T_blt c_len (by rfl) d.m_len (by decide +kernel) (T_cons (T_v 0) T_nil)) (T_blt c_len (by rfl) d.m_len (by decide +kernel) (T_cons (T_v 1) T_nil)))))
  (B_cons (S_for (passes_of rfl) rfl (I_rng1 (by rfl) d.m_range (T_cons (T_blt c_len (by rfl) d.m_len (by decide +kernel) (T_cons (T_v 0) T_nil)) T_nil)) (G_nm 3 S__law_times.nd) (B_one (S_for (passes_of rfl) rfl (I_rng1 (by rfl) d.m_range (T_cons (T_blt c_len (by rfl) d.m_len (by decide +kernel) (T_cons (T_v 1) T_nil)) T_nil)) (G_nm 4 S__law_times.nd) (B_one (S_putS (T_v 2) (T_bin o_add (T_v 3) (T_v 4)) (T_bin o_add (T_ix (T_v 2) (T_bin o_add (T_v 3) (T_v 4))) (T_bin o_mul (T_ix (T_v 0) (T_v 3)) (T_ix (T_v 1) (T_v 4)))))))))
  (B_cons (S_while 1000000 (passes_of rfl) (TT_and (TT_tru (T_v 2)) (TT_and1 (TT_cmp (o_eq (hu64 hr)) (T_ix (T_v 2) (T_un u_neg T_int)) T_int))).pt (B_one (S_do (T_mtL0 PySem.F.plainAttrs_list PySem.F.slot_list_pop PySem.F.type_list_pop m_pop (T_v 2)))))
  (B_one (S_ret (T_ty c_tuple (by rfl) d.m_tuple (by decide +kernel) (T_cons (T_v 2) T_nil))))))))
def m__law_choose_q : SM :=
  (mSeq (mSet 1 (mLst (mCons (mLst (mCons (mTup (mCons (mC (.int 1)) mNil)) mNil)) mNil)))
  (mSeq (mFor (mRng2 (mCons (mC (.int 1)) (mCons (mBin pAdd (mV 0) (mC (.int 1))) mNil))) (bN 2) (mSeq (mSet 3 (mLst (mCons (mTup (mCons (mC (.int 1)) mNil)) mNil)))
  (mSeq (mFor (mRng2 (mCons (mC (.int 1)) (mCons (mV 2) mNil))) (bN 4) (mDo (mMtL pAppend (mV 3) (mCons (mCall phi__law_sum (mCons (mBin pIx (mBin pIx (mV 1) (mUn pNeg (mC (.int 1)))) (mBin pSub (mV 4) (mC (.int 1)))) (mCons (mBin pAdd (mBin pMul (mTup (mCons (mC (.int 0)) mNil)) (mV 4)) (mBin pIx (mBin pIx (mV 1) (mUn pNeg (mC (.int 1)))) (mV 4))) mNil))) mNil))))
  (mDo (mMtL pAppend (mV 1) (mCons (mBin pAdd (mV 3) (mLst (mCons (mTup (mCons (mC (.int 1)) mNil)) mNil))) mNil))))))
  (mRet (mV 1))))
def phi__law_choose_q : List D → Hh → R D := fnG 1 5 m__law_choose_q
theorem ok__law_choose_q (d : Fx K mg) : FnOk P w K mg base (L2.CX P w) 2 d.f__law_choose_q d.d__law_choose_q ["n"] (spM K T mg 1 phi__law_choose_q) :=
  fn_bodyG (k := 1) d.F__law_choose_q S__law_choose_q rfl fun cdv A outer s H E hr =>
  (B_cons (S_set 1 S__law_choose_q.nd (T_lst (T_cons (T_lst (T_cons (T_tup (T_cons T_int T_nil)) T_nil)) T_nil)))
  (B_cons (S_for (passes_of rfl) rfl (I_rng2 (by rfl) d.m_range (T_cons T_int (T_cons (T_bin o_add (T_v 0) T_int) T_nil))) (G_nm 2 S__law_choose_q.nd) (B_cons (S_set 3 S__law_choose_q.nd (T_lst (T_cons (T_tup (T_cons T_int T_nil)) T_nil)))
  (B_cons (S_for (passes_of rfl) rfl (I_rng2 (by rfl) d.m_range (T_cons T_int (T_cons (T_v 2) T_nil))) (G_nm 4 S__law_choose_q.nd) (B_one (S_do (T_mtL PySem.F.plainAttrs_list PySem.F.slot_list_append PySem.F.type_list_append m_append (T_v 3) (T_cons (T_call (ok__law_sum d) (hr.mono (by decide)) (by rfl) d.G__law_sum d.F__law_sum.kp d.B__law_sum (takes_of rfl rfl rfl rfl) (T_cons (T_ix (T_ix (T_v 1) (T_un u_neg T_int)) (T_bin o_sub (T_v 4) T_int)) (T_cons (T_bin o_add (T_bin o_mul (T_tup (T_cons T_int T_nil)) (T_v 4)) (T_ix (T_ix (T_v 1) (T_un u_neg T_int)) (T_v 4))) T_nil)) rfl (mCons_len (mCons_len mNil_len))) T_nil)))))
  (B_one (S_do (T_mtL PySem.F.plainAttrs_list PySem.F.slot_list_append PySem.F.type_list_append m_append (T_v 1) (T_cons (T_bin o_add (T_v 3) (T_lst (T_cons (T_tup (T_cons T_int T_nil)) T_nil))) T_nil)))))))
  (B_one (S_ret (T_v 1)))))
def m__law_choose : SM :=
  (mSeq (mSet 2 (mC (.int 1)))
  (mSeq (mFor (mRng2 (mCons (mC (.int 1)) (mCons (mBin pAdd (mV 1) (mC (.int 1))) mNil))) (bN 3) (mSet 2 (mBin pDiv (mBin pMul (mV 2) (mBin pAdd (mBin pSub (mV 0) (mV 1)) (mV 3))) (mV 3))))
  (mRet (mIte (mChain pLe pLe (mC (.int 0)) (mV 1) (mV 0)) (mV 2) (mC (.int 0))))))
def phi__law_choose : List D → Hh → R D := fnP 2 4 m__law_choose
theorem ok__law_choose (d : Fx K mg) : FnOk P w K mg base (L2.CX P w) 1 d.f__law_choose d.d__law_choose ["n", "k"] (spM K T mg 2 phi__law_choose) :=
  fn_pure (fn_bodyG (k := 0) d.F__law_choose S__law_choose rfl fun cdv A outer s H E hr =>
  (B_cons (S_set 2 S__law_choose.nd T_int)
  (B_cons (S_for (passes_of rfl) rfl (I_rng2 (by rfl) d.m_range (T_cons T_int (T_cons (T_bin o_add (T_v 1) T_int) T_nil))) (G_nm 3 S__law_choose.nd) (B_one (S_set 2 S__law_choose.nd (T_bin o_div (T_bin o_mul (T_v 2) (T_bin o_add (T_bin o_sub (T_v 0) (T_v 1)) (T_v 3))) (T_v 3)))))
  (B_one (S_ret (T_ite (TT_chain o_le o_le T_int (T_v 1) (T_v 0)) (T_v 2) T_int))))))
def m__law_first_0 : SM :=
  (mPar [2, 3] (mCons (mCall phi__law_take (mCons (mV 1) (mCons (mC (.int 13)) mNil))) (mCons (mCall phi__law_take (mCons (mV 1) (mCons (mC (.int 13)) mNil))) mNil)))
def m__law_first_1 : SM :=
  (mSet 4 (mCall phi__law_take (mCons (mV 1) (mCons (mC (.int 61)) mNil))))
def m__law_first_2 : SM :=
  (mIf (mOr (mBin pNe (mCall phi_q_number (mCons (mV 4) mNil)) (mBin pMul (mTup (mCons (mC (.int 1)) mNil)) (mV 4))) (mOr (mBin pNe (mCall phi_q_number (mCons (mC (.int 0)) mNil)) (mTup mNil)) (mBin pNe (mCall phi_q_number (mCons (mC (.int 60)) mNil)) (mBin pMul (mTup (mCons (mC (.int 1)) mNil)) (mC (.int 60)))))) (mRet (mC (.bl false))) mPass)
def m__law_first_3 : SM :=
  (mPar [5, 6] (mCons (mCall phi__law_choose_q (mCons (mC (.int 12)) mNil)) (mCons (mTup (mCons (mC (.int 1)) mNil)) mNil)))
def m__law_first_4 : SM :=
  (mFor (mRng2 (mCons (mC (.int 1)) (mCons (mBin pAdd (mV 2) (mC (.int 1))) mNil))) (bN 7) (mSet 6 (mCall phi__law_times (mCons (mV 6) (mCons (mBin pMul (mTup (mCons (mC (.int 1)) mNil)) (mV 7)) mNil)))))
def m__law_first_5 : SM :=
  (mIf (mOr (mBin pNe (mCall phi_q_factorial (mCons (mV 2) mNil)) (mV 6)) (mBin pNe (mCall phi_q_choose (mCons (mV 2) (mCons (mV 3) mNil))) (mIte (mBin pLe (mV 3) (mV 2)) (mBin pIx (mBin pIx (mV 5) (mV 2)) (mV 3)) (mTup mNil)))) (mRet (mC (.bl false))) mPass)
def m__law_first_6 : SM :=
  (mIf (mAnd (mBin pLe (mV 3) (mV 2)) (mBin pNe (mCall phi__law_times (mCons (mCall phi__law_times (mCons (mCall phi_q_choose (mCons (mV 2) (mCons (mV 3) mNil))) (mCons (mCall phi_q_factorial (mCons (mV 3) mNil)) mNil))) (mCons (mCall phi_q_factorial (mCons (mBin pSub (mV 2) (mV 3)) mNil)) mNil))) (mV 6))) (mRet (mC (.bl false))) mPass)
def m__law_first_7 : SM :=
  (mPar [8, 9] (mCons (mBin pAdd (mC (.int 13)) (mCall phi__law_take (mCons (mV 1) (mCons (mC (.int 12)) mNil)))) (mCons (mBin pAdd (mC (.int 1)) (mCall phi__law_take (mCons (mV 1) (mCons (mC (.int 12)) mNil)))) mNil)))
def m__law_first_8 : SM :=
  (mSet 10 (mCall phi__law_sum (mCons (mCall phi_q_choose (mCons (mBin pSub (mV 8) (mC (.int 1))) (mCons (mBin pSub (mV 9) (mC (.int 1))) mNil))) (mCons (mBin pAdd (mBin pMul (mTup (mCons (mC (.int 0)) mNil)) (mV 9)) (mCall phi_q_choose (mCons (mBin pSub (mV 8) (mC (.int 1))) (mCons (mV 9) mNil)))) mNil))))
def m__law_first_9 : SM :=
  (mIf (mOr (mBin pNe (mCall phi_q_choose (mCons (mV 8) (mCons (mV 9) mNil))) (mV 10)) (mBin pNe (mCall phi_q_choose (mCons (mV 8) (mCons (mBin pSub (mV 8) (mV 9)) mNil))) (mV 10))) (mRet (mC (.bl false))) mPass)
def m__law_first_10 : SM :=
  (mIf (mOr (mBin pNe (mCall phi_q_choose (mCons (mV 8) (mCons (mC (.int 0)) mNil))) (mTup (mCons (mC (.int 1)) mNil))) (mBin pNe (mCall phi_q_choose (mCons (mC (.int 0)) (mCons (mV 8) mNil))) (mTup mNil))) (mRet (mC (.bl false))) mPass)
def m__law_first_11 : SM :=
  (mPar [11, 12] (mCons (mBin pSub (mCall phi__law_take (mCons (mV 1) (mCons (mC (.int 9)) mNil))) (mC (.int 4))) (mCons (mLc (mRng1 (mCons (mCall phi__law_take (mCons (mV 1) (mCons (mC (.int 6)) mNil))) mNil)) [17] (kN 17) (mC (.bl true)) (mBin pSub (mCall phi__law_take (mCons (mV 1) (mCons (mC (.int 7)) mNil))) (mC (.int 3)))) mNil)))
def m__law_first_12 : SM :=
  (mSet 12 (mCall pTuple (mCons (mBin pAdd (mV 12) (mLst (mCons (mBin pAdd (mC (.int 1)) (mCall phi__law_take (mCons (mV 1) (mCons (mC (.int 3)) mNil)))) mNil))) mNil)))
def m__law_first_13 : SM :=
  (mAsg (mTup (mCons (mC (.int 0)) (mCons (mC (.int 1)) mNil))) (bT 2 (bsCons (bN 13) (bsCons (bN 14) bsNil))))
def m__law_first_14 : SM :=
  (mFor (mSeqI (mV 12)) (bN 15) (mPar [13, 14] (mCons (mBin pAdd (mV 13) (mBin pMul (mV 15) (mV 14))) (mCons (mBin pMul (mV 14) (mV 11)) mNil))))
def m__law_first_15 : SM :=
  (mIf (mOr (mBin pNe (mCall phi_q_worth (mCons (mV 12) (mCons (mV 11) mNil))) (mV 13)) (mOr (mBin pNe (mCall phi_q_worth (mCons (mTup mNil) (mCons (mV 11) mNil))) (mC (.int 0))) (mBin pNe (mCall phi_q_worth (mCons (mCall phi_q_choose (mCons (mV 2) (mCons (mV 3) mNil))) (mCons (mC (.int 1)) mNil))) (mCall phi__law_choose (mCons (mV 2) (mCons (mV 3) mNil)))))) (mRet (mC (.bl false))) mPass)
def m__law_first_16 : SM :=
  (mFor (mSeqI (mTup (mCons (mCall phi__law_pick (mCons (mV 1) (mCons (mLst (mCons (mUn pNeg (mC (.int 1))) (mCons (mC .non) (mCons (mC (.bl true)) (mCons (mTup (mCons (mC (.int 1)) mNil)) (mCons (mC (.int 61)) mNil)))))) mNil))) (mCons (mC (.int 61)) mNil)))) (bN 16) (mSeq (mIf (mBin pNe (mRef (mCall phi_q_number (mCons (mV 16) mNil))) (mC (.str "bad"))) (mRet (mC (.bl false))) mPass)
  (mSeq (mIf (mBin pNe (mRef (mCall phi_q_factorial (mCons (mV 16) mNil))) (mC (.str "bad"))) (mRet (mC (.bl false))) mPass)
  (mSeq (mIf (mBin pNe (mRef (mCall phi_q_choose (mCons (mV 16) (mCons (mC (.int 1)) mNil)))) (mC (.str "bad"))) (mRet (mC (.bl false))) mPass)
  (mIf (mBin pNe (mRef (mCall phi_q_choose (mCons (mC (.int 1)) (mCons (mV 16) mNil)))) (mC (.str "bad"))) (mRet (mC (.bl false))) mPass)))))
def m__law_first_17 : SM :=
  (mIf (mBin pNe (mRef (mCall phi_q_factorial (mCons (mC (.int 13)) mNil))) (mC (.str "bad"))) (mRet (mC (.bl false))) mPass)
def m__law_first_18 : SM :=
  (mIf (mBin pNe (mRef (mCall phi_q_choose (mCons (mC (.int 25)) (mCons (mC (.int 0)) mNil)))) (mC (.str "bad"))) (mRet (mC (.bl false))) mPass)
def m__law_first_19 : SM :=
  (mSet 16 (mCall phi__law_pick (mCons (mV 1) (mCons (mLst (mCons (mTup (mCons (mC (.int 0)) mNil)) (mCons (mTup (mCons (mC (.int 1)) (mCons (mC (.int 0)) mNil))) (mCons (mLst (mCons (mC (.int 1)) mNil)) (mCons (mC .non) (mCons (mTup (mCons (mC (.bl true)) mNil)) (mCons (mTup (mCons (mTup (mCons (mC (.int 1)) (mCons (mC (.int 1)) mNil))) mNil)) mNil))))))) mNil))))
def m__law_first_20 : SM :=
  (mIf (mBin pNe (mRef (mCall phi_q_worth (mCons (mV 16) (mCons (mC (.int 2)) mNil)))) (mC (.str "bad"))) (mRet (mC (.bl false))) mPass)
def m__law_first_21 : SM :=
  (mRet (mBin pEq (mRef (mCall phi_q_worth (mCons (mTup (mCons (mC (.int 1)) mNil)) (mCons (mCall phi__law_pick (mCons (mV 1) (mCons (mLst (mCons (mC (.bl true)) (mCons (mC .non) mNil))) mNil))) mNil)))) (mC (.str "bad"))))
def ms__law_first : List SM := [m__law_first_0, m__law_first_1, m__law_first_2, m__law_first_3, m__law_first_4, m__law_first_5, m__law_first_6, m__law_first_7, m__law_first_8, m__law_first_9, m__law_first_10, m__law_first_11, m__law_first_12, m__law_first_13, m__law_first_14, m__law_first_15, m__law_first_16, m__law_first_17, m__law_first_18, m__law_first_19, m__law_first_20, m__law_first_21]
abbrev LR__law_first : Prop := ∀ ns : List Int, ns.length ≤ 63 → LR ms__law_first (none :: some (.ref 1) :: List.replicate 16 none) (bxH (absL ns) 0 0 0 [])
theorem ok__law_first (d : Fx K mg) (l : Ls base T d) (hlr : LR__law_first) : FnOk P w K mg base (L2.CX P w) 6 d.f__law_first d.d__law_first ["script"] (spV K T) :=
  fn_boxedV (ms := ms__law_first) (k := 5) d.F__law_first l.L__law_first.cd S__law_first rfl (box_ok (ok__law_box d)) rfl (by decide +kernel) (by first | exact Or.inl (by decide +kernel) | exact Or.inr (by decide +kernel)) d.G__law_box d.F__law_box.kp d.B__law_box (by decide) hlr fun A outer s H E hr =>
  (.cons (S_par (i := 2) (j := 3) rfl S__law_first.nd (by decide) (T_cons (T_call (ok__law_take d) (hr.mono (by decide)) (by rfl) d.G__law_take d.F__law_take.kp d.B__law_take (takes_of rfl rfl rfl rfl) (T_cons (T_v 1) (T_cons T_int T_nil)) rfl (mCons_len (mCons_len mNil_len))) (T_cons (T_call (ok__law_take d) (hr.mono (by decide)) (by rfl) d.G__law_take d.F__law_take.kp d.B__law_take (takes_of rfl rfl rfl rfl) (T_cons (T_v 1) (T_cons T_int T_nil)) rfl (mCons_len (mCons_len mNil_len))) T_nil)))
  (.cons (S_set 4 S__law_first.nd (T_call (ok__law_take d) (hr.mono (by decide)) (by rfl) d.G__law_take d.F__law_take.kp d.B__law_take (takes_of rfl rfl rfl rfl) (T_cons (T_v 1) (T_cons T_int T_nil)) rfl (mCons_len (mCons_len mNil_len))))
  (.cons (S_if (TT_or (TT_cmp (o_ne (hu64 hr)) (T_call (ok_q_number d) (hr.mono (by decide)) (by rfl) d.G_q_number d.F_q_number.kp d.B_q_number (takes_of rfl rfl rfl rfl) (T_cons (T_v 4) T_nil) rfl (mCons_len mNil_len)) (T_bin o_mul (T_tup (T_cons T_int T_nil)) (T_v 4))) (TT_or (TT_cmp (o_ne (hu64 hr)) (T_call (ok_q_number d) (hr.mono (by decide)) (by rfl) d.G_q_number d.F_q_number.kp d.B_q_number (takes_of rfl rfl rfl rfl) (T_cons T_int T_nil) rfl (mCons_len mNil_len)) (T_tup T_nil)) (TT_or1 (TT_cmp (o_ne (hu64 hr)) (T_call (ok_q_number d) (hr.mono (by decide)) (by rfl) d.G_q_number d.F_q_number.kp d.B_q_number (takes_of rfl rfl rfl rfl) (T_cons T_int T_nil) rfl (mCons_len mNil_len)) (T_bin o_mul (T_tup (T_cons T_int T_nil)) T_int))))).pt (B_one (S_ret T_bl)) B_nil)
  (.cons (S_par (i := 5) (j := 6) rfl S__law_first.nd (by decide) (T_cons (T_call (ok__law_choose_q d) (hr.mono (by decide)) (by rfl) d.G__law_choose_q d.F__law_choose_q.kp d.B__law_choose_q (takes_of rfl rfl rfl rfl) (T_cons T_int T_nil) rfl (mCons_len mNil_len)) (T_cons (T_tup (T_cons T_int T_nil)) T_nil)))
  (.cons (S_for (passes_of rfl) rfl (I_rng2 (by rfl) d.m_range (T_cons T_int (T_cons (T_bin o_add (T_v 2) T_int) T_nil))) (G_nm 7 S__law_first.nd) (B_one (S_set 6 S__law_first.nd (T_call (ok__law_times d) (hr.mono (by decide)) (by rfl) d.G__law_times d.F__law_times.kp d.B__law_times (takes_of rfl rfl rfl rfl) (T_cons (T_v 6) (T_cons (T_bin o_mul (T_tup (T_cons T_int T_nil)) (T_v 7)) T_nil)) rfl (mCons_len (mCons_len mNil_len))))))
  (.cons (S_if (TT_or (TT_cmp (o_ne (hu64 hr)) (T_call (ok_q_factorial d) (hr.mono (by decide)) (by rfl) d.G_q_factorial d.F_q_factorial.kp d.B_q_factorial (takes_of rfl rfl rfl rfl) (T_cons (T_v 2) T_nil) rfl (mCons_len mNil_len)) (T_v 6)) (TT_or1 (TT_cmp (o_ne (hu64 hr)) (T_call (ok_q_choose d) (hr.mono (by decide)) (by rfl) d.G_q_choose d.F_q_choose.kp d.B_q_choose (takes_of rfl rfl rfl rfl) (T_cons (T_v 2) (T_cons (T_v 3) T_nil)) rfl (mCons_len (mCons_len mNil_len))) (T_ite (TT_cmp o_le (T_v 3) (T_v 2)) (T_ix (T_ix (T_v 5) (T_v 2)) (T_v 3)) (T_tup T_nil))))).pt (B_one (S_ret T_bl)) B_nil)
  (.cons (S_if (TT_and (TT_cmp o_le (T_v 3) (T_v 2)) (TT_and1 (TT_cmp (o_ne (hu64 hr)) (T_call (ok__law_times d) (hr.mono (by decide)) (by rfl) d.G__law_times d.F__law_times.kp d.B__law_times (takes_of rfl rfl rfl rfl) (T_cons (T_call (ok__law_times d) (hr.mono (by decide)) (by rfl) d.G__law_times d.F__law_times.kp d.B__law_times (takes_of rfl rfl rfl rfl) (T_cons (T_call (ok_q_choose d) (hr.mono (by decide)) (by rfl) d.G_q_choose d.F_q_choose.kp d.B_q_choose (takes_of rfl rfl rfl rfl) (T_cons (T_v 2) (T_cons (T_v 3) T_nil)) rfl (mCons_len (mCons_len mNil_len))) (T_cons (T_call (ok_q_factorial d) (hr.mono (by decide)) (by rfl) d.G_q_factorial d.F_q_factorial.kp d.B_q_factorial (takes_of rfl rfl rfl rfl) (T_cons (T_v 3) T_nil) rfl (mCons_len mNil_len)) T_nil)) rfl (mCons_len (mCons_len mNil_len))) (T_cons (T_call (ok_q_factorial d) (hr.mono (by decide)) (by rfl) d.G_q_factorial d.F_q_factorial.kp d.B_q_factorial (takes_of rfl rfl rfl rfl) (T_cons (T_bin o_sub (T_v 2) (T_v 3)) T_nil) rfl (mCons_len mNil_len)) T_nil)) rfl (mCons_len (mCons_len mNil_len))) (T_v 6)))).pt (B_one (S_ret T_bl)) B_nil)
  (.cons (S_par (i := 8) (j := 9) rfl S__law_first.nd (by decide) (T_cons (T_bin o_add T_int (T_call (ok__law_take d) (hr.mono (by decide)) (by rfl) d.G__law_take d.F__law_take.kp d.B__law_take (takes_of rfl rfl rfl rfl) (T_cons (T_v 1) (T_cons T_int T_nil)) rfl (mCons_len (mCons_len mNil_len)))) (T_cons (T_bin o_add T_int (T_call (ok__law_take d) (hr.mono (by decide)) (by rfl) d.G__law_take d.F__law_take.kp d.B__law_take (takes_of rfl rfl rfl rfl) (T_cons (T_v 1) (T_cons T_int T_nil)) rfl (mCons_len (mCons_len mNil_len)))) T_nil)))
  (.cons (S_set 10 S__law_first.nd (T_call (ok__law_sum d) (hr.mono (by decide)) (by rfl) d.G__law_sum d.F__law_sum.kp d.B__law_sum (takes_of rfl rfl rfl rfl) (T_cons (T_call (ok_q_choose d) (hr.mono (by decide)) (by rfl) d.G_q_choose d.F_q_choose.kp d.B_q_choose (takes_of rfl rfl rfl rfl) (T_cons (T_bin o_sub (T_v 8) T_int) (T_cons (T_bin o_sub (T_v 9) T_int) T_nil)) rfl (mCons_len (mCons_len mNil_len))) (T_cons (T_bin o_add (T_bin o_mul (T_tup (T_cons T_int T_nil)) (T_v 9)) (T_call (ok_q_choose d) (hr.mono (by decide)) (by rfl) d.G_q_choose d.F_q_choose.kp d.B_q_choose (takes_of rfl rfl rfl rfl) (T_cons (T_bin o_sub (T_v 8) T_int) (T_cons (T_v 9) T_nil)) rfl (mCons_len (mCons_len mNil_len)))) T_nil)) rfl (mCons_len (mCons_len mNil_len))))
  (.cons (S_if (TT_or (TT_cmp (o_ne (hu64 hr)) (T_call (ok_q_choose d) (hr.mono (by decide)) (by rfl) d.G_q_choose d.F_q_choose.kp d.B_q_choose (takes_of rfl rfl rfl rfl) (T_cons (T_v 8) (T_cons (T_v 9) T_nil)) rfl (mCons_len (mCons_len mNil_len))) (T_v 10)) (TT_or1 (TT_cmp (o_ne (hu64 hr)) (T_call (ok_q_choose d) (hr.mono (by decide)) (by rfl) d.G_q_choose d.F_q_choose.kp d.B_q_choose (takes_of rfl rfl rfl rfl) (T_cons (T_v 8) (T_cons (T_bin o_sub (T_v 8) (T_v 9)) T_nil)) rfl (mCons_len (mCons_len mNil_len))) (T_v 10)))).pt (B_one (S_ret T_bl)) B_nil)
  (.cons (S_if (TT_or (TT_cmp (o_ne (hu64 hr)) (T_call (ok_q_choose d) (hr.mono (by decide)) (by rfl) d.G_q_choose d.F_q_choose.kp d.B_q_choose (takes_of rfl rfl rfl rfl) (T_cons (T_v 8) (T_cons T_int T_nil)) rfl (mCons_len (mCons_len mNil_len))) (T_tup (T_cons T_int T_nil))) (TT_or1 (TT_cmp (o_ne (hu64 hr)) (T_call (ok_q_choose d) (hr.mono (by decide)) (by rfl) d.G_q_choose d.F_q_choose.kp d.B_q_choose (takes_of rfl rfl rfl rfl) (T_cons T_int (T_cons (T_v 8) T_nil)) rfl (mCons_len (mCons_len mNil_len))) (T_tup T_nil)))).pt (B_one (S_ret T_bl)) B_nil)
  (.cons (S_par (i := 11) (j := 12) rfl S__law_first.nd (by decide) (T_cons (T_bin o_sub (T_call (ok__law_take d) (hr.mono (by decide)) (by rfl) d.G__law_take d.F__law_take.kp d.B__law_take (takes_of rfl rfl rfl rfl) (T_cons (T_v 1) (T_cons T_int T_nil)) rfl (mCons_len (mCons_len mNil_len))) T_int) (T_cons (T_lc (own := [("turn", 17)]) rfl S__law_first.nd (I_rng1 (by rfl) d.m_range (T_cons (T_call (ok__law_take d) (hr.mono (by decide)) (by rfl) d.G__law_take d.F__law_take.kp d.B__law_take (takes_of rfl rfl rfl rfl) (T_cons (T_v 1) (T_cons T_int T_nil)) rfl (mCons_len (mCons_len mNil_len))) T_nil)) (blkOk_by (by kernel_rfl)) (kIn_nm) (fun _ _ _ _ _ => (K_nm 17 S__law_first.nd)) (fun _ _ _ _ _ => PT_nil) (fun _ _ _ _ _ => (T_bin o_sub (T_call (ok__law_take d) (hr.mono (by decide)) (by rfl) d.G__law_take d.F__law_take.kp d.B__law_take takes0 (T_cons (T_v 1) (T_cons T_int T_nil)) rfl (mCons_len (mCons_len mNil_len))) T_int))) T_nil)))
  (.cons (S_set 12 S__law_first.nd (T_ty c_tuple (by rfl) d.m_tuple (by decide +kernel) (T_cons (T_bin o_add (T_v 12) (T_lst (T_cons (T_bin o_add T_int (T_call (ok__law_take d) (hr.mono (by decide)) (by rfl) d.G__law_take d.F__law_take.kp d.B__law_take (takes_of rfl rfl rfl rfl) (T_cons (T_v 1) (T_cons T_int T_nil)) rfl (mCons_len (mCons_len mNil_len)))) T_nil))) T_nil)))
  (.cons (S_asg (T_tup (T_cons T_int (T_cons T_int T_nil))) (G_tup rfl (Gs_cons (G_nm 13 S__law_first.nd) (Gs_cons (G_nm 14 S__law_first.nd) Gs_nil))))
  (.cons (S_for (passes_of rfl) rfl (I_sq (T_v 12)) (G_nm 15 S__law_first.nd) (B_one (S_par (i := 13) (j := 14) rfl S__law_first.nd (by decide) (T_cons (T_bin o_add (T_v 13) (T_bin o_mul (T_v 15) (T_v 14))) (T_cons (T_bin o_mul (T_v 14) (T_v 11)) T_nil)))))
  (.cons (S_if (TT_or (TT_cmp (o_ne (hu64 hr)) (T_call (ok_q_worth d) (hr.mono (by decide)) (by rfl) d.G_q_worth d.F_q_worth.kp d.B_q_worth (takes_of rfl rfl rfl rfl) (T_cons (T_v 12) (T_cons (T_v 11) T_nil)) rfl (mCons_len (mCons_len mNil_len))) (T_v 13)) (TT_or (TT_cmp (o_ne (hu64 hr)) (T_call (ok_q_worth d) (hr.mono (by decide)) (by rfl) d.G_q_worth d.F_q_worth.kp d.B_q_worth (takes_of rfl rfl rfl rfl) (T_cons (T_tup T_nil) (T_cons (T_v 11) T_nil)) rfl (mCons_len (mCons_len mNil_len))) T_int) (TT_or1 (TT_cmp (o_ne (hu64 hr)) (T_call (ok_q_worth d) (hr.mono (by decide)) (by rfl) d.G_q_worth d.F_q_worth.kp d.B_q_worth (takes_of rfl rfl rfl rfl) (T_cons (T_call (ok_q_choose d) (hr.mono (by decide)) (by rfl) d.G_q_choose d.F_q_choose.kp d.B_q_choose (takes_of rfl rfl rfl rfl) (T_cons (T_v 2) (T_cons (T_v 3) T_nil)) rfl (mCons_len (mCons_len mNil_len))) (T_cons T_int T_nil)) rfl (mCons_len (mCons_len mNil_len))) (T_call (ok__law_choose d) (hr.mono (by decide)) (by rfl) d.G__law_choose d.F__law_choose.kp d.B__law_choose (takes_of rfl rfl rfl rfl) (T_cons (T_v 2) (T_cons (T_v 3) T_nil)) rfl (mCons_len (mCons_len mNil_len))))))).pt (B_one (S_ret T_bl)) B_nil)
  (.cons (S_for (passes_of rfl) rfl (I_sq (T_tup (T_cons (T_call (ok__law_pick d) (hr.mono (by decide)) (by rfl) d.G__law_pick d.F__law_pick.kp d.B__law_pick (takes_of rfl rfl rfl rfl) (T_cons (T_v 1) (T_cons (T_lst (T_cons (T_un u_neg T_int) (T_cons T_non (T_cons T_bl (T_cons (T_tup (T_cons T_int T_nil)) (T_cons T_int T_nil)))))) T_nil)) rfl (mCons_len (mCons_len mNil_len))) (T_cons T_int T_nil)))) (G_nm 16 S__law_first.nd) (B_cons (S_if (TT_cmp (o_ne (hu64 hr)) (T_lam (k := 3) d.M (by rfl) d.G__law_refusal d.F__law_refusal d.B__law_refusal S__law_refusal (fun _ => ref_gives d.M (by decide +kernel) (by decide +kernel) (by decide +kernel) (fun _ => rfl)) l.L__law_first rfl rfl (hr.mono (by decide)) (fun A outer s H E f c' hr => (T_call (ok_q_number d) (hr.mono (by decide)) (by rfl) d.G_q_number d.F_q_number.kp d.B_q_number (takes_of rfl rfl rfl rfl) (T_cons (T_v 16) T_nil) rfl (mCons_len mNil_len)))) T_str) (B_one (S_ret T_bl)) B_nil)
  (B_cons (S_if (TT_cmp (o_ne (hu64 hr)) (T_lam (k := 3) d.M (by rfl) d.G__law_refusal d.F__law_refusal d.B__law_refusal S__law_refusal (fun _ => ref_gives d.M (by decide +kernel) (by decide +kernel) (by decide +kernel) (fun _ => rfl)) l.L__law_first rfl rfl (hr.mono (by decide)) (fun A outer s H E f c' hr => (T_call (ok_q_factorial d) (hr.mono (by decide)) (by rfl) d.G_q_factorial d.F_q_factorial.kp d.B_q_factorial (takes_of rfl rfl rfl rfl) (T_cons (T_v 16) T_nil) rfl (mCons_len mNil_len)))) T_str) (B_one (S_ret T_bl)) B_nil)
  (B_cons (S_if (TT_cmp (o_ne (hu64 hr)) (T_lam (k := 3) d.M (by rfl) d.G__law_refusal d.F__law_refusal d.B__law_refusal S__law_refusal (fun _ => ref_gives d.M (by decide +kernel) (by decide +kernel) (by decide +kernel) (fun _ => rfl)) l.L__law_first rfl rfl (hr.mono (by decide)) (fun A outer s H E f c' hr => (T_call (ok_q_choose d) (hr.mono (by decide)) (by rfl) d.G_q_choose d.F_q_choose.kp d.B_q_choose (takes_of rfl rfl rfl rfl) (T_cons (T_v 16) (T_cons T_int T_nil)) rfl (mCons_len (mCons_len mNil_len))))) T_str) (B_one (S_ret T_bl)) B_nil)
  (B_one (S_if (TT_cmp (o_ne (hu64 hr)) (T_lam (k := 3) d.M (by rfl) d.G__law_refusal d.F__law_refusal d.B__law_refusal S__law_refusal (fun _ => ref_gives d.M (by decide +kernel) (by decide +kernel) (by decide +kernel) (fun _ => rfl)) l.L__law_first rfl rfl (hr.mono (by decide)) (fun A outer s H E f c' hr => (T_call (ok_q_choose d) (hr.mono (by decide)) (by rfl) d.G_q_choose d.F_q_choose.kp d.B_q_choose (takes_of rfl rfl rfl rfl) (T_cons T_int (T_cons (T_v 16) T_nil)) rfl (mCons_len (mCons_len mNil_len))))) T_str) (B_one (S_ret T_bl)) B_nil))))))
  (.cons (S_if (TT_cmp (o_ne (hu64 hr)) (T_lam (k := 3) d.M (by rfl) d.G__law_refusal d.F__law_refusal d.B__law_refusal S__law_refusal (fun _ => ref_gives d.M (by decide +kernel) (by decide +kernel) (by decide +kernel) (fun _ => rfl)) l.L__law_first rfl rfl (hr.mono (by decide)) (fun A outer s H E f c' hr => (T_call (ok_q_factorial d) (hr.mono (by decide)) (by rfl) d.G_q_factorial d.F_q_factorial.kp d.B_q_factorial (takes_of rfl rfl rfl rfl) (T_cons T_int T_nil) rfl (mCons_len mNil_len)))) T_str) (B_one (S_ret T_bl)) B_nil)
  (.cons (S_if (TT_cmp (o_ne (hu64 hr)) (T_lam (k := 3) d.M (by rfl) d.G__law_refusal d.F__law_refusal d.B__law_refusal S__law_refusal (fun _ => ref_gives d.M (by decide +kernel) (by decide +kernel) (by decide +kernel) (fun _ => rfl)) l.L__law_first rfl rfl (hr.mono (by decide)) (fun A outer s H E f c' hr => (T_call (ok_q_choose d) (hr.mono (by decide)) (by rfl) d.G_q_choose d.F_q_choose.kp d.B_q_choose (takes_of rfl rfl rfl rfl) (T_cons T_int (T_cons T_int T_nil)) rfl (mCons_len (mCons_len mNil_len))))) T_str) (B_one (S_ret T_bl)) B_nil)
  (.cons (S_set 16 S__law_first.nd (T_call (ok__law_pick d) (hr.mono (by decide)) (by rfl) d.G__law_pick d.F__law_pick.kp d.B__law_pick (takes_of rfl rfl rfl rfl) (T_cons (T_v 1) (T_cons (T_lst (T_cons (T_tup (T_cons T_int T_nil)) (T_cons (T_tup (T_cons T_int (T_cons T_int T_nil))) (T_cons (T_lst (T_cons T_int T_nil)) (T_cons T_non (T_cons (T_tup (T_cons T_bl T_nil)) (T_cons (T_tup (T_cons (T_tup (T_cons T_int (T_cons T_int T_nil))) T_nil)) T_nil))))))) T_nil)) rfl (mCons_len (mCons_len mNil_len))))
  (.cons (S_if (TT_cmp (o_ne (hu64 hr)) (T_lam (k := 3) d.M (by rfl) d.G__law_refusal d.F__law_refusal d.B__law_refusal S__law_refusal (fun _ => ref_gives d.M (by decide +kernel) (by decide +kernel) (by decide +kernel) (fun _ => rfl)) l.L__law_first rfl rfl (hr.mono (by decide)) (fun A outer s H E f c' hr => (T_call (ok_q_worth d) (hr.mono (by decide)) (by rfl) d.G_q_worth d.F_q_worth.kp d.B_q_worth (takes_of rfl rfl rfl rfl) (T_cons (T_v 16) (T_cons T_int T_nil)) rfl (mCons_len (mCons_len mNil_len))))) T_str) (B_one (S_ret T_bl)) B_nil)
  (.cons (S_ret (T_cmp (o_eq (hu64 hr)) (T_lam (k := 3) d.M (by rfl) d.G__law_refusal d.F__law_refusal d.B__law_refusal S__law_refusal (fun _ => ref_gives d.M (by decide +kernel) (by decide +kernel) (by decide +kernel) (fun _ => rfl)) l.L__law_first rfl rfl (hr.mono (by decide)) (fun A outer s H E f c' hr => (T_call (ok_q_worth d) (hr.mono (by decide)) (by rfl) d.G_q_worth d.F_q_worth.kp d.B_q_worth (takes_of rfl rfl rfl rfl) (T_cons (T_tup (T_cons T_int T_nil)) (T_cons (T_call (ok__law_pick d) (hr.mono (by decide)) (by rfl) d.G__law_pick d.F__law_pick.kp d.B__law_pick (takes_of rfl rfl rfl rfl) (T_cons (T_v 1) (T_cons (T_lst (T_cons T_bl (T_cons T_non T_nil))) T_nil)) rfl (mCons_len (mCons_len mNil_len))) T_nil)) rfl (mCons_len (mCons_len mNil_len))))) T_str))
  .nil))))))))))))))))))))))
def m__law_stairs : SM :=
  (mSeq (mSet 3 (mLst (mCons (mTup mNil) mNil)))
  (mSeq (mFor (mRng1 (mCons (mV 0) mNil)) (bN 4) (mSet 3 (mBin pAdd (mV 3) (mLc (mSeqI (mV 3)) [6] (kN 6) (mBin pLt (mCall pLen (mCons (mV 6) mNil)) (mV 1)) (mBin pAdd (mV 6) (mTup (mCons (mV 4) mNil)))))))
  (mSeq (mSet 5 (mC (.int 0)))
  (mSeq (mFor (mSeqI (mV 3)) (bN 6) (mIf (mBin pEq (mCall pLen (mCons (mV 6) mNil)) (mV 1)) (mSeq (mSet 7 (mC (.int 0)))
  (mSeq (mFor (mRng1 (mCons (mV 1) mNil)) (bN 8) (mSet 7 (mBin pSub (mBin pSub (mBin pSub (mBin pAdd (mV 7) (mV 0)) (mC (.int 1))) (mBin pIx (mV 6) (mV 8))) (mBin pSub (mBin pSub (mV 1) (mC (.int 1))) (mV 8)))))
  (mSeq (mSet 9 (mC (.int 1)))
  (mSeq (mFor (mRng1 (mCons (mV 7) mNil)) (bN 10) (mSet 9 (mBin pMul (mV 9) (mV 2))))
  (mSet 5 (mBin pAdd (mV 5) (mV 9))))))) mPass))
  (mRet (mV 5))))))
def phi__law_stairs : List D → Hh → R D := fnP 3 11 m__law_stairs
theorem ok__law_stairs (d : Fx K mg) : FnOk P w K mg base (L2.CX P w) 1 d.f__law_stairs d.d__law_stairs ["n", "k", "q"] (spM K T mg 3 phi__law_stairs) :=
  fn_pure (fn_bodyG (k := 0) d.F__law_stairs S__law_stairs rfl fun cdv A outer s H E hr =>
  (B_cons (S_set 3 S__law_stairs.nd (T_lst (T_cons (T_tup T_nil) T_nil)))
  (B_cons (S_for (passes_of rfl) rfl (I_rng1 (by rfl) d.m_range (T_cons (T_v 0) T_nil)) (G_nm 4 S__law_stairs.nd) (B_one (S_set 3 S__law_stairs.nd (T_bin o_add (T_v 3) (T_lc (own := [("one", 6)]) rfl S__law_stairs.nd (I_sq (T_v 3)) (blkOk_by (by kernel_rfl)) (kIn_nm) (fun _ _ _ _ _ => (K_nm 6 S__law_stairs.nd)) (fun _ _ _ _ _ => (PT_one (TT_cmp (o_lt (hu0 hr)) (T_blt c_len (by rfl) d.m_len (by decide +kernel) (T_cons (T_v 6) T_nil)) (T_v 1)))) (fun _ _ _ _ _ => (T_bin o_add (T_v 6) (T_tup (T_cons (T_v 4) T_nil)))))))))
  (B_cons (S_set 5 S__law_stairs.nd T_int)
  (B_cons (S_for (passes_of rfl) rfl (I_sq (T_v 3)) (G_nm 6 S__law_stairs.nd) (B_one (S_if (TT_cmp (o_eq (hu64 hr)) (T_blt c_len (by rfl) d.m_len (by decide +kernel) (T_cons (T_v 6) T_nil)) (T_v 1)) (B_cons (S_set 7 S__law_stairs.nd T_int)
  (B_cons (S_for (passes_of rfl) rfl (I_rng1 (by rfl) d.m_range (T_cons (T_v 1) T_nil)) (G_nm 8 S__law_stairs.nd) (B_one (S_set 7 S__law_stairs.nd (T_bin o_sub (T_bin o_sub (T_bin o_sub (T_bin o_add (T_v 7) (T_v 0)) T_int) (T_ix (T_v 6) (T_v 8))) (T_bin o_sub (T_bin o_sub (T_v 1) T_int) (T_v 8))))))
  (B_cons (S_set 9 S__law_stairs.nd T_int)
  (B_cons (S_for (passes_of rfl) rfl (I_rng1 (by rfl) d.m_range (T_cons (T_v 7) T_nil)) (G_nm 10 S__law_stairs.nd) (B_one (S_set 9 S__law_stairs.nd (T_bin o_mul (T_v 9) (T_v 2)))))
  (B_one (S_set 5 S__law_stairs.nd (T_bin o_add (T_v 5) (T_v 9)))))))) B_nil)))
  (B_one (S_ret (T_v 5))))))))
def m__law_rows : SM :=
  (mSeq (mSet 2 (mLst (mCons (mTup mNil) mNil)))
  (mSeq (mFor (mRng1 (mCons (mV 0) mNil)) (bN 3) (mSeq (mSet 4 (mLst mNil))
  (mSeq (mFor (mSeqI (mV 2)) (bN 5) (mDo (mMtL pExtend (mV 4) (mCons (mLc (mRng1 (mCons (mV 1) mNil)) [6] (kN 6) (mC (.bl true)) (mBin pAdd (mV 5) (mTup (mCons (mV 6) mNil)))) mNil))))
  (mSet 2 (mV 4)))))
  (mRet (mV 2))))
def phi__law_rows : List D → Hh → R D := fnG 2 7 m__law_rows
theorem ok__law_rows (d : Fx K mg) : FnOk P w K mg base (L2.CX P w) 1 d.f__law_rows d.d__law_rows ["n", "q"] (spM K T mg 2 phi__law_rows) :=
  fn_bodyG (k := 0) d.F__law_rows S__law_rows rfl fun cdv A outer s H E hr =>
  (B_cons (S_set 2 S__law_rows.nd (T_lst (T_cons (T_tup T_nil) T_nil)))
  (B_cons (S_for (passes_of rfl) rfl (I_rng1 (by rfl) d.m_range (T_cons (T_v 0) T_nil)) (G_nm 3 S__law_rows.nd) (B_cons (S_set 4 S__law_rows.nd (T_lst T_nil))
  (B_cons (S_for (passes_of rfl) rfl (I_sq (T_v 2)) (G_nm 5 S__law_rows.nd) (B_one (S_do (T_mtL PySem.F.plainAttrs_list PySem.F.slot_list_extend PySem.F.type_list_extend m_extend (T_v 4) (T_cons (T_lc (own := [("x", 6)]) rfl S__law_rows.nd (I_rng1 (by rfl) d.m_range (T_cons (T_v 1) T_nil)) (blkOk_by (by kernel_rfl)) (kIn_nm) (fun _ _ _ _ _ => (K_nm 6 S__law_rows.nd)) (fun _ _ _ _ _ => PT_nil) (fun _ _ _ _ _ => (T_bin o_add (T_v 5) (T_tup (T_cons (T_v 6) T_nil))))) T_nil)))))
  (B_one (S_set 2 S__law_rows.nd (T_v 4))))))
  (B_one (S_ret (T_v 2)))))
def m__law_spanned : SM :=
  (mSeq (mSet 2 (mCall pLen (mCons (mBin pIx (mV 0) (mC (.int 0))) mNil)))
  (mSeq (mSet 3 (mLst (mCons (mBin pMul (mTup (mCons (mC (.int 0)) mNil)) (mV 2)) mNil)))
  (mSeq (mFor (mSeqI (mV 0)) (bN 4) (mSeq (mSet 5 (mLst mNil))
  (mSeq (mFor (mSeqI (mV 3)) (bN 6) (mFor (mRng1 (mCons (mV 1) mNil)) (bN 7) (mSeq (mSet 8 (mCall pTuple (mCons (mLc (mRng1 (mCons (mV 2) mNil)) [9] (kN 9) (mC (.bl true)) (mBin pMod (mBin pAdd (mBin pIx (mV 6) (mV 9)) (mBin pMul (mV 7) (mBin pIx (mV 4) (mV 9)))) (mV 1))) mNil)))
  (mIf (mBin pNin2 (mV 8) (mV 5)) (mDo (mMtL pAppend (mV 5) (mCons (mV 8) mNil))) mPass))))
  (mSet 3 (mV 5)))))
  (mRet (mCall pTuple (mCons (mCall pSortedA (mCons (mV 3) mNil)) mNil))))))
def phi__law_spanned : List D → Hh → R D := fnP 2 10 m__law_spanned
theorem ok__law_spanned (d : Fx K mg) : FnOk P w K mg base (L2.CX P w) 1 d.f__law_spanned d.d__law_spanned ["rows", "q"] (spM K T mg 2 phi__law_spanned) :=
  fn_pure (fn_bodyG (k := 0) d.F__law_spanned S__law_spanned rfl fun cdv A outer s H E hr =>
  (B_cons (S_set 2 S__law_spanned.nd (T_blt c_len (by rfl) d.m_len (by decide +kernel) (T_cons (T_ix (T_v 0) T_int) T_nil)))
  (B_cons (S_set 3 S__law_spanned.nd (T_lst (T_cons (T_bin o_mul (T_tup (T_cons T_int T_nil)) (T_v 2)) T_nil)))
  (B_cons (S_for (passes_of rfl) rfl (I_sq (T_v 0)) (G_nm 4 S__law_spanned.nd) (B_cons (S_set 5 S__law_spanned.nd (T_lst T_nil))
  (B_cons (S_for (passes_of rfl) rfl (I_sq (T_v 3)) (G_nm 6 S__law_spanned.nd) (B_one (S_for (passes_of rfl) rfl (I_rng1 (by rfl) d.m_range (T_cons (T_v 1) T_nil)) (G_nm 7 S__law_spanned.nd) (B_cons (S_set 8 S__law_spanned.nd (T_ty c_tuple (by rfl) d.m_tuple (by decide +kernel) (T_cons (T_lc (own := [("k", 9)]) rfl S__law_spanned.nd (I_rng1 (by rfl) d.m_range (T_cons (T_v 2) T_nil)) (blkOk_by (by kernel_rfl)) (kIn_nm) (fun _ _ _ _ _ => (K_nm 9 S__law_spanned.nd)) (fun _ _ _ _ _ => PT_nil) (fun _ _ _ _ _ => (T_bin o_mod (T_bin o_add (T_ix (T_v 6) (T_v 9)) (T_bin o_mul (T_v 7) (T_ix (T_v 4) (T_v 9)))) (T_v 1)))) T_nil)))
  (B_one (S_if (TT_cmp (o_nin2 (hu65 hr)) (T_v 8) (T_v 5)) (B_one (S_do (T_mtL PySem.F.plainAttrs_list PySem.F.slot_list_append PySem.F.type_list_append m_append (T_v 5) (T_cons (T_v 8) T_nil)))) B_nil))))))
  (B_one (S_set 3 S__law_spanned.nd (T_v 5))))))
  (B_one (S_ret (T_ty c_tuple (by rfl) d.m_tuple (by decide +kernel) (T_cons (T_blt c_sortedA (by rfl) d.m_sorted (by decide +kernel) (T_cons (T_v 3) T_nil)) T_nil))))))))
def m__law_second_0 : SM :=
  (mPar [2, 3, 4] (mCons (mCall phi__law_pick (mCons (mV 1) (mCons (mLst (mCons (mC (.int 2)) (mCons (mC (.int 3)) (mCons (mC (.int 5)) (mCons (mC (.int 7)) mNil))))) mNil))) (mCons (mCall phi__law_take (mCons (mV 1) (mCons (mC (.int 9)) mNil))) (mCons (mCall phi__law_take (mCons (mV 1) (mCons (mC (.int 9)) mNil))) mNil))))
def m__law_second_1 : SM :=
  (mIf (mOr (mBin pNe (mCall phi_spaces (mCons (mV 3) (mCons (mV 4) (mCons (mV 2) mNil)))) (mCall phi__law_stairs (mCons (mV 3) (mCons (mV 4) (mCons (mV 2) mNil))))) (mOr (mBin pNe (mCall phi_spaces (mCons (mV 3) (mCons (mC (.int 0)) (mCons (mV 2) mNil)))) (mC (.int 1))) (mBin pNe (mCall phi_spaces (mCons (mC (.int 12)) (mCons (mBin pSub (mC (.int 13)) (mC (.int 12))) (mCons (mC (.int 2)) mNil)))) (mC (.int 4095))))) (mRet (mC (.bl false))) mPass)
def m__law_second_2 : SM :=
  (mIf (mOr (mBin pNe (mCall phi_spaces (mCons (mC (.int 12)) (mCons (mV 4) (mCons (mV 2) mNil)))) (mCall phi_q_worth (mCons (mCall phi_q_choose (mCons (mC (.int 12)) (mCons (mV 4) mNil))) (mCons (mV 2) mNil)))) (mBin pNe (mCall phi_spaces (mCons (mC (.int 12)) (mCons (mV 4) (mCons (mV 2) mNil)))) (mCall phi_spaces (mCons (mC (.int 12)) (mCons (mBin pSub (mC (.int 12)) (mV 4)) (mCons (mV 2) mNil)))))) (mRet (mC (.bl false))) mPass)
def m__law_second_3 : SM :=
  (mSet 5 (mBin pAdd (mC (.int 1)) (mCall phi__law_take (mCons (mV 1) (mCons (mC (.int 3)) mNil)))))
def m__law_second_4 : SM :=
  (mPar [6, 7, 8] (mCons (mCall phi__law_rows (mCons (mV 5) (mCons (mC (.int 2)) mNil))) (mCons (mLst mNil) (mCons (mLst mNil) mNil))))
def m__law_second_5 : SM :=
  (mFor (mSeqI (mV 6)) (bN 9) (mFor (mSeqI (mV 6)) (bN 10) (mSeq (mSet 11 (mCall phi__law_spanned (mCons (mTup (mCons (mV 9) (mCons (mV 10) mNil))) (mCons (mC (.int 2)) mNil))))
  (mSeq (mIf (mAnd (mBin pEq (mCall pLen (mCons (mV 11) mNil)) (mC (.int 2))) (mBin pNin2 (mV 11) (mV 7))) (mDo (mMtL pAppend (mV 7) (mCons (mV 11) mNil))) mPass)
  (mIf (mAnd (mBin pEq (mCall pLen (mCons (mV 11) mNil)) (mC (.int 4))) (mBin pNin2 (mV 11) (mV 8))) (mDo (mMtL pAppend (mV 8) (mCons (mV 11) mNil))) mPass)))))
def m__law_second_6 : SM :=
  (mIf (mOr (mBin pNe (mCall phi_spaces (mCons (mV 5) (mCons (mC (.int 1)) (mCons (mC (.int 2)) mNil)))) (mCall pLen (mCons (mV 7) mNil))) (mBin pNe (mCall phi_spaces (mCons (mV 5) (mCons (mC (.int 2)) (mCons (mC (.int 2)) mNil)))) (mCall pLen (mCons (mV 8) mNil)))) (mRet (mC (.bl false))) mPass)
def m__law_second_7 : SM :=
  (mFor (mSeqI (mTup (mCons (mCall phi__law_pick (mCons (mV 1) (mCons (mLst (mCons (mUn pNeg (mC (.int 1))) (mCons (mC .non) (mCons (mC (.bl true)) (mCons (mC (.int 13)) mNil))))) mNil))) (mCons (mC (.int 13)) mNil)))) (bN 12) (mSeq (mIf (mBin pNe (mRef (mCall phi_spaces (mCons (mV 12) (mCons (mC (.int 1)) (mCons (mC (.int 2)) mNil))))) (mC (.str "bad"))) (mRet (mC (.bl false))) mPass)
  (mIf (mBin pNe (mRef (mCall phi_spaces (mCons (mC (.int 1)) (mCons (mV 12) (mCons (mC (.int 2)) mNil))))) (mC (.str "bad"))) (mRet (mC (.bl false))) mPass)))
def m__law_second_8 : SM :=
  (mRet (mBin pEq (mRef (mCall phi_spaces (mCons (mC (.int 2)) (mCons (mC (.int 1)) (mCons (mCall phi__law_pick (mCons (mV 1) (mCons (mLst (mCons (mC (.int 1)) (mCons (mC (.int 4)) (mCons (mC (.int 9)) (mCons (mC (.int 11)) (mCons (mC .non) (mCons (mC (.bl true)) (mCons (mTup (mCons (mC (.int 2)) mNil)) mNil)))))))) mNil))) mNil))))) (mC (.str "bad"))))
def ms__law_second : List SM := [m__law_second_0, m__law_second_1, m__law_second_2, m__law_second_3, m__law_second_4, m__law_second_5, m__law_second_6, m__law_second_7, m__law_second_8]
abbrev LR__law_second : Prop := ∀ ns : List Int, ns.length ≤ 63 → LR ms__law_second (none :: some (.ref 1) :: List.replicate 11 none) (bxH (absL ns) 0 0 0 [])
theorem ok__law_second (d : Fx K mg) (l : Ls base T d) (hlr : LR__law_second) : FnOk P w K mg base (L2.CX P w) 7 d.f__law_second d.d__law_second ["script"] (spV K T) :=
  fn_boxedV (ms := ms__law_second) (k := 6) d.F__law_second l.L__law_second.cd S__law_second rfl (box_ok (ok__law_box d)) rfl (by decide +kernel) (by first | exact Or.inl (by decide +kernel) | exact Or.inr (by decide +kernel)) d.G__law_box d.F__law_box.kp d.B__law_box (by decide) hlr fun A outer s H E hr =>
  (.cons (S_par3 (i := 2) (j := 3) (l := 4) rfl S__law_second.nd (by decide) (by decide) (by decide) (T_cons (T_call (ok__law_pick d) (hr.mono (by decide)) (by rfl) d.G__law_pick d.F__law_pick.kp d.B__law_pick (takes_of rfl rfl rfl rfl) (T_cons (T_v 1) (T_cons (T_lst (T_cons T_int (T_cons T_int (T_cons T_int (T_cons T_int T_nil))))) T_nil)) rfl (mCons_len (mCons_len mNil_len))) (T_cons (T_call (ok__law_take d) (hr.mono (by decide)) (by rfl) d.G__law_take d.F__law_take.kp d.B__law_take (takes_of rfl rfl rfl rfl) (T_cons (T_v 1) (T_cons T_int T_nil)) rfl (mCons_len (mCons_len mNil_len))) (T_cons (T_call (ok__law_take d) (hr.mono (by decide)) (by rfl) d.G__law_take d.F__law_take.kp d.B__law_take (takes_of rfl rfl rfl rfl) (T_cons (T_v 1) (T_cons T_int T_nil)) rfl (mCons_len (mCons_len mNil_len))) T_nil))))
  (.cons (S_if (TT_or (TT_cmp (o_ne (hu64 hr)) (T_call (ok_spaces d) (hr.mono (by decide)) (by rfl) d.G_spaces d.F_spaces.kp d.B_spaces (takes_of rfl rfl rfl rfl) (T_cons (T_v 3) (T_cons (T_v 4) (T_cons (T_v 2) T_nil))) rfl (mCons_len (mCons_len (mCons_len mNil_len)))) (T_call (ok__law_stairs d) (hr.mono (by decide)) (by rfl) d.G__law_stairs d.F__law_stairs.kp d.B__law_stairs (takes_of rfl rfl rfl rfl) (T_cons (T_v 3) (T_cons (T_v 4) (T_cons (T_v 2) T_nil))) rfl (mCons_len (mCons_len (mCons_len mNil_len))))) (TT_or (TT_cmp (o_ne (hu64 hr)) (T_call (ok_spaces d) (hr.mono (by decide)) (by rfl) d.G_spaces d.F_spaces.kp d.B_spaces (takes_of rfl rfl rfl rfl) (T_cons (T_v 3) (T_cons T_int (T_cons (T_v 2) T_nil))) rfl (mCons_len (mCons_len (mCons_len mNil_len)))) T_int) (TT_or1 (TT_cmp (o_ne (hu64 hr)) (T_call (ok_spaces d) (hr.mono (by decide)) (by rfl) d.G_spaces d.F_spaces.kp d.B_spaces (takes_of rfl rfl rfl rfl) (T_cons T_int (T_cons (T_bin o_sub T_int T_int) (T_cons T_int T_nil))) rfl (mCons_len (mCons_len (mCons_len mNil_len)))) T_int)))).pt (B_one (S_ret T_bl)) B_nil)
  (.cons (S_if (TT_or (TT_cmp (o_ne (hu64 hr)) (T_call (ok_spaces d) (hr.mono (by decide)) (by rfl) d.G_spaces d.F_spaces.kp d.B_spaces (takes_of rfl rfl rfl rfl) (T_cons T_int (T_cons (T_v 4) (T_cons (T_v 2) T_nil))) rfl (mCons_len (mCons_len (mCons_len mNil_len)))) (T_call (ok_q_worth d) (hr.mono (by decide)) (by rfl) d.G_q_worth d.F_q_worth.kp d.B_q_worth (takes_of rfl rfl rfl rfl) (T_cons (T_call (ok_q_choose d) (hr.mono (by decide)) (by rfl) d.G_q_choose d.F_q_choose.kp d.B_q_choose (takes_of rfl rfl rfl rfl) (T_cons T_int (T_cons (T_v 4) T_nil)) rfl (mCons_len (mCons_len mNil_len))) (T_cons (T_v 2) T_nil)) rfl (mCons_len (mCons_len mNil_len)))) (TT_or1 (TT_cmp (o_ne (hu64 hr)) (T_call (ok_spaces d) (hr.mono (by decide)) (by rfl) d.G_spaces d.F_spaces.kp d.B_spaces (takes_of rfl rfl rfl rfl) (T_cons T_int (T_cons (T_v 4) (T_cons (T_v 2) T_nil))) rfl (mCons_len (mCons_len (mCons_len mNil_len)))) (T_call (ok_spaces d) (hr.mono (by decide)) (by rfl) d.G_spaces d.F_spaces.kp d.B_spaces (takes_of rfl rfl rfl rfl) (T_cons T_int (T_cons (T_bin o_sub T_int (T_v 4)) (T_cons (T_v 2) T_nil))) rfl (mCons_len (mCons_len (mCons_len mNil_len))))))).pt (B_one (S_ret T_bl)) B_nil)
  (.cons (S_set 5 S__law_second.nd (T_bin o_add T_int (T_call (ok__law_take d) (hr.mono (by decide)) (by rfl) d.G__law_take d.F__law_take.kp d.B__law_take (takes_of rfl rfl rfl rfl) (T_cons (T_v 1) (T_cons T_int T_nil)) rfl (mCons_len (mCons_len mNil_len)))))
  (.cons (S_par3 (i := 6) (j := 7) (l := 8) rfl S__law_second.nd (by decide) (by decide) (by decide) (T_cons (T_call (ok__law_rows d) (hr.mono (by decide)) (by rfl) d.G__law_rows d.F__law_rows.kp d.B__law_rows (takes_of rfl rfl rfl rfl) (T_cons (T_v 5) (T_cons T_int T_nil)) rfl (mCons_len (mCons_len mNil_len))) (T_cons (T_lst T_nil) (T_cons (T_lst T_nil) T_nil))))
  (.cons (S_for (passes_of rfl) rfl (I_sq (T_v 6)) (G_nm 9 S__law_second.nd) (B_one (S_for (passes_of rfl) rfl (I_sq (T_v 6)) (G_nm 10 S__law_second.nd) (B_cons (S_set 11 S__law_second.nd (T_call (ok__law_spanned d) (hr.mono (by decide)) (by rfl) d.G__law_spanned d.F__law_spanned.kp d.B__law_spanned (takes_of rfl rfl rfl rfl) (T_cons (T_tup (T_cons (T_v 9) (T_cons (T_v 10) T_nil))) (T_cons T_int T_nil)) rfl (mCons_len (mCons_len mNil_len))))
  (B_cons (S_if (TT_and (TT_cmp (o_eq (hu64 hr)) (T_blt c_len (by rfl) d.m_len (by decide +kernel) (T_cons (T_v 11) T_nil)) T_int) (TT_and1 (TT_cmp (o_nin2 (hu65 hr)) (T_v 11) (T_v 7)))).pt (B_one (S_do (T_mtL PySem.F.plainAttrs_list PySem.F.slot_list_append PySem.F.type_list_append m_append (T_v 7) (T_cons (T_v 11) T_nil)))) B_nil)
  (B_one (S_if (TT_and (TT_cmp (o_eq (hu64 hr)) (T_blt c_len (by rfl) d.m_len (by decide +kernel) (T_cons (T_v 11) T_nil)) T_int) (TT_and1 (TT_cmp (o_nin2 (hu65 hr)) (T_v 11) (T_v 8)))).pt (B_one (S_do (T_mtL PySem.F.plainAttrs_list PySem.F.slot_list_append PySem.F.type_list_append m_append (T_v 8) (T_cons (T_v 11) T_nil)))) B_nil)))))))
  (.cons (S_if (TT_or (TT_cmp (o_ne (hu64 hr)) (T_call (ok_spaces d) (hr.mono (by decide)) (by rfl) d.G_spaces d.F_spaces.kp d.B_spaces (takes_of rfl rfl rfl rfl) (T_cons (T_v 5) (T_cons T_int (T_cons T_int T_nil))) rfl (mCons_len (mCons_len (mCons_len mNil_len)))) (T_blt c_len (by rfl) d.m_len (by decide +kernel) (T_cons (T_v 7) T_nil))) (TT_or1 (TT_cmp (o_ne (hu64 hr)) (T_call (ok_spaces d) (hr.mono (by decide)) (by rfl) d.G_spaces d.F_spaces.kp d.B_spaces (takes_of rfl rfl rfl rfl) (T_cons (T_v 5) (T_cons T_int (T_cons T_int T_nil))) rfl (mCons_len (mCons_len (mCons_len mNil_len)))) (T_blt c_len (by rfl) d.m_len (by decide +kernel) (T_cons (T_v 8) T_nil))))).pt (B_one (S_ret T_bl)) B_nil)
  (.cons (S_for (passes_of rfl) rfl (I_sq (T_tup (T_cons (T_call (ok__law_pick d) (hr.mono (by decide)) (by rfl) d.G__law_pick d.F__law_pick.kp d.B__law_pick (takes_of rfl rfl rfl rfl) (T_cons (T_v 1) (T_cons (T_lst (T_cons (T_un u_neg T_int) (T_cons T_non (T_cons T_bl (T_cons T_int T_nil))))) T_nil)) rfl (mCons_len (mCons_len mNil_len))) (T_cons T_int T_nil)))) (G_nm 12 S__law_second.nd) (B_cons (S_if (TT_cmp (o_ne (hu64 hr)) (T_lam (k := 4) d.M (by rfl) d.G__law_refusal d.F__law_refusal d.B__law_refusal S__law_refusal (fun _ => ref_gives d.M (by decide +kernel) (by decide +kernel) (by decide +kernel) (fun _ => rfl)) l.L__law_second rfl rfl (hr.mono (by decide)) (fun A outer s H E f c' hr => (T_call (ok_spaces d) (hr.mono (by decide)) (by rfl) d.G_spaces d.F_spaces.kp d.B_spaces (takes_of rfl rfl rfl rfl) (T_cons (T_v 12) (T_cons T_int (T_cons T_int T_nil))) rfl (mCons_len (mCons_len (mCons_len mNil_len)))))) T_str) (B_one (S_ret T_bl)) B_nil)
  (B_one (S_if (TT_cmp (o_ne (hu64 hr)) (T_lam (k := 4) d.M (by rfl) d.G__law_refusal d.F__law_refusal d.B__law_refusal S__law_refusal (fun _ => ref_gives d.M (by decide +kernel) (by decide +kernel) (by decide +kernel) (fun _ => rfl)) l.L__law_second rfl rfl (hr.mono (by decide)) (fun A outer s H E f c' hr => (T_call (ok_spaces d) (hr.mono (by decide)) (by rfl) d.G_spaces d.F_spaces.kp d.B_spaces (takes_of rfl rfl rfl rfl) (T_cons T_int (T_cons (T_v 12) (T_cons T_int T_nil))) rfl (mCons_len (mCons_len (mCons_len mNil_len)))))) T_str) (B_one (S_ret T_bl)) B_nil))))
  (.cons (S_ret (T_cmp (o_eq (hu64 hr)) (T_lam (k := 4) d.M (by rfl) d.G__law_refusal d.F__law_refusal d.B__law_refusal S__law_refusal (fun _ => ref_gives d.M (by decide +kernel) (by decide +kernel) (by decide +kernel) (fun _ => rfl)) l.L__law_second rfl rfl (hr.mono (by decide)) (fun A outer s H E f c' hr => (T_call (ok_spaces d) (hr.mono (by decide)) (by rfl) d.G_spaces d.F_spaces.kp d.B_spaces (takes_of rfl rfl rfl rfl) (T_cons T_int (T_cons T_int (T_cons (T_call (ok__law_pick d) (hr.mono (by decide)) (by rfl) d.G__law_pick d.F__law_pick.kp d.B__law_pick (takes_of rfl rfl rfl rfl) (T_cons (T_v 1) (T_cons (T_lst (T_cons T_int (T_cons T_int (T_cons T_int (T_cons T_int (T_cons T_non (T_cons T_bl (T_cons (T_tup (T_cons T_int T_nil)) T_nil)))))))) T_nil)) rfl (mCons_len (mCons_len mNil_len))) T_nil))) rfl (mCons_len (mCons_len (mCons_len mNil_len)))))) T_str))
  .nil)))))))))
theorem ok_law (d : Fx K mg) (l : Ls base T d) (h1 : LR__law_first) (h2 : LR__law_second) : FnOk P w K mg base (L2.CX P w) 8 d.f_law d.d_law ["script"] (spT K T) :=
  law_andV (k := 7) d.F_law S_law rfl (ok__law_first d l h1) (ok__law_second d l h2) (by decide +kernel) (by decide +kernel) d.G__law_first d.G__law_second d.F__law_first.kp d.F__law_second.kp d.B__law_first d.B__law_second (by decide) (by decide)
end
set_option maxHeartbeats 0 in
theorem all_mk {l : PySem.W.OpenLaw} {w : World} {K : PySem.W.Frag} {h : Heap} {mg : Str → Option Value} {fa : Addr} (X : K.In h) (G : h.Ns mainGlobals mg) (hfa : mg "law" = some (.ref fa))
  {f0 : Addr} {od0 an0 : Option Addr} {sl0 : Array (Option Value)} {oc0 kV0 dc0 pm0 ct0 : Value}
  {cd0 : Value}
  {f1 : Addr} {od1 an1 : Option Addr} {sl1 : Array (Option Value)} {oc1 kV1 dc1 pm1 ct1 : Value}
  {cd1 : Value}
  {f2 : Addr} {od2 an2 : Option Addr} {sl2 : Array (Option Value)} {oc2 kV2 dc2 pm2 ct2 : Value}
  {cd2 : Value}
  {f3 : Addr} {od3 an3 : Option Addr} {sl3 : Array (Option Value)} {oc3 kV3 dc3 pm3 ct3 : Value}
  {cd3 : Value}
  {f4 : Addr} {od4 an4 : Option Addr} {sl4 : Array (Option Value)} {oc4 kV4 dc4 pm4 ct4 : Value}
  {cd4 : Value}
  {f5 : Addr} {od5 an5 : Option Addr} {sl5 : Array (Option Value)} {oc5 kV5 dc5 pm5 ct5 : Value}
  {cd5 : Value}
  {f6 : Addr} {od6 an6 : Option Addr} {sl6 : Array (Option Value)} {oc6 kV6 dc6 pm6 ct6 : Value}
  {cd6 : Value}
  {f7 : Addr} {od7 an7 : Option Addr} {sl7 : Array (Option Value)} {oc7 kV7 dc7 pm7 ct7 : Value}
  {cd7 : Value}
  {f8 : Addr} {od8 an8 : Option Addr} {sl8 : Array (Option Value)} {oc8 kV8 dc8 pm8 ct8 : Value}
  {cd8 : Value}
  {f9 : Addr} {od9 an9 : Option Addr} {sl9 : Array (Option Value)} {oc9 kV9 dc9 pm9 ct9 : Value}
  {cd9 : Value}
  {f10 : Addr} {od10 an10 : Option Addr} {sl10 : Array (Option Value)} {oc10 kV10 dc10 pm10 ct10 : Value}
  {cd10 : Value}
  {f11 : Addr} {od11 an11 : Option Addr} {sl11 : Array (Option Value)} {oc11 kV11 dc11 pm11 ct11 : Value}
  {cd11 : Value}
  {f12 : Addr} {od12 an12 : Option Addr} {sl12 : Array (Option Value)} {oc12 kV12 dc12 pm12 ct12 : Value}
  {cd12 : Value}
  {f13 : Addr} {od13 an13 : Option Addr} {sl13 : Array (Option Value)} {oc13 kV13 dc13 pm13 ct13 : Value}
  {cd13 : Value}
  {f14 : Addr} {od14 an14 : Option Addr} {sl14 : Array (Option Value)} {oc14 kV14 dc14 pm14 ct14 : Value}
  {cd14 : Value}
  {f15 : Addr} {od15 an15 : Option Addr} {sl15 : Array (Option Value)} {oc15 kV15 dc15 pm15 ct15 : Value}
  {cd15 : Value}
  {f16 : Addr} {od16 an16 : Option Addr} {sl16 : Array (Option Value)} {oc16 kV16 dc16 pm16 ct16 : Value}
  {cd16 : Value}
  {f17 : Addr} {od17 an17 : Option Addr} {sl17 : Array (Option Value)} {oc17 kV17 dc17 pm17 ct17 : Value}
  {cd17 : Value}
  {f18 : Addr} {od18 an18 : Option Addr} {sl18 : Array (Option Value)} {oc18 kV18 dc18 pm18 ct18 : Value}
  {cd18 : Value}
  {f19 : Addr} {od19 an19 : Option Addr} {sl19 : Array (Option Value)} {oc19 kV19 dc19 pm19 ct19 : Value}
  {cd19 : Value}
  {f20 : Addr} {od20 an20 : Option Addr} {sl20 : Array (Option Value)} {oc20 kV20 dc20 pm20 ct20 : Value}
  {cd20 : Value}
  {f21 : Addr} {od21 an21 : Option Addr} {sl21 : Array (Option Value)} {oc21 kV21 dc21 pm21 ct21 : Value}
  {c21 P21 : Addr} {occ21 : Value} {odc21 : Option Addr} {vs21 : Array Value} {slc21 : Array (Option Value)}
  {f22 : Addr} {od22 an22 : Option Addr} {sl22 : Array (Option Value)} {oc22 kV22 dc22 pm22 ct22 : Value}
  {cd22 : Value}
  {f23 : Addr} {od23 an23 : Option Addr} {sl23 : Array (Option Value)} {oc23 kV23 dc23 pm23 ct23 : Value}
  {cd23 : Value}
  {f24 : Addr} {od24 an24 : Option Addr} {sl24 : Array (Option Value)} {oc24 kV24 dc24 pm24 ct24 : Value}
  {cd24 : Value}
  {f25 : Addr} {od25 an25 : Option Addr} {sl25 : Array (Option Value)} {oc25 kV25 dc25 pm25 ct25 : Value}
  {c25 P25 : Addr} {occ25 : Value} {odc25 : Option Addr} {vs25 : Array Value} {slc25 : Array (Option Value)}
  {f26 : Addr} {od26 an26 : Option Addr} {sl26 : Array (Option Value)} {oc26 kV26 dc26 pm26 ct26 : Value}
  {cd26 : Value}
  {CBadCount : Addr}
  {CNotSo : Addr}
  {CTooMuch : Addr}
  {tMOST_CHOSEN : Tok}
  {tMOST_FACTORS : Tok}
  (a0 : PySem.W.nsIn K mainGlobals "is_number" = some (some (.ref f0)))
  (l0 : K.lookup f0 = some ⟨oc0, od0, .func (PySem.W.fnOf "is_number" "is_number" (defArgs s_is_number) (defBody s_is_number) (defScope s_is_number) .none kV0 dc0 pm0 an0 (cd0) ct0), sl0⟩)
  (e0 : PySem.W.codeIn K (cd0) "is_number" = true)
  (k0 : PySem.W.keepIn K (.ref f0) = true)
  (a1 : PySem.W.nsIn K mainGlobals "is_poly" = some (some (.ref f1)))
  (l1 : K.lookup f1 = some ⟨oc1, od1, .func (PySem.W.fnOf "is_poly" "is_poly" (defArgs s_is_poly) (defBody s_is_poly) (defScope s_is_poly) .none kV1 dc1 pm1 an1 (cd1) ct1), sl1⟩)
  (e1 : PySem.W.codeIn K (cd1) "is_poly" = true)
  (k1 : PySem.W.keepIn K (.ref f1) = true)
  (a2 : PySem.W.nsIn K mainGlobals "check_below" = some (some (.ref f2)))
  (l2 : K.lookup f2 = some ⟨oc2, od2, .func (PySem.W.fnOf "check_below" "check_below" (defArgs s_check_below) (defBody s_check_below) (defScope s_check_below) .none kV2 dc2 pm2 an2 (cd2) ct2), sl2⟩)
  (e2 : PySem.W.codeIn K (cd2) "check_below" = true)
  (k2 : PySem.W.keepIn K (.ref f2) = true)
  (a3 : PySem.W.nsIn K mainGlobals "multiply" = some (some (.ref f3)))
  (l3 : K.lookup f3 = some ⟨oc3, od3, .func (PySem.W.fnOf "multiply" "multiply" (defArgs s_multiply) (defBody s_multiply) (defScope s_multiply) .none kV3 dc3 pm3 an3 (cd3) ct3), sl3⟩)
  (e3 : PySem.W.codeIn K (cd3) "multiply" = true)
  (k3 : PySem.W.keepIn K (.ref f3) = true)
  (a4 : PySem.W.nsIn K mainGlobals "exact" = some (some (.ref f4)))
  (l4 : K.lookup f4 = some ⟨oc4, od4, .func (PySem.W.fnOf "exact" "exact" (defArgs s_exact) (defBody s_exact) (defScope s_exact) .none kV4 dc4 pm4 an4 (cd4) ct4), sl4⟩)
  (e4 : PySem.W.codeIn K (cd4) "exact" = true)
  (k4 : PySem.W.keepIn K (.ref f4) = true)
  (a5 : PySem.W.nsIn K mainGlobals "number" = some (some (.ref f5)))
  (l5 : K.lookup f5 = some ⟨oc5, od5, .func (PySem.W.fnOf "number" "number" (defArgs s_number) (defBody s_number) (defScope s_number) .none kV5 dc5 pm5 an5 (cd5) ct5), sl5⟩)
  (e5 : PySem.W.codeIn K (cd5) "number" = true)
  (k5 : PySem.W.keepIn K (.ref f5) = true)
  (a6 : PySem.W.nsIn K mainGlobals "q_number" = some (some (.ref f6)))
  (l6 : K.lookup f6 = some ⟨oc6, od6, .func (PySem.W.fnOf "q_number" "q_number" (defArgs s_q_number) (defBody s_q_number) (defScope s_q_number) .none kV6 dc6 pm6 an6 (cd6) ct6), sl6⟩)
  (e6 : PySem.W.codeIn K (cd6) "q_number" = true)
  (k6 : PySem.W.keepIn K (.ref f6) = true)
  (a7 : PySem.W.nsIn K mainGlobals "factors" = some (some (.ref f7)))
  (l7 : K.lookup f7 = some ⟨oc7, od7, .func (PySem.W.fnOf "factors" "factors" (defArgs s_factors) (defBody s_factors) (defScope s_factors) .none kV7 dc7 pm7 an7 (cd7) ct7), sl7⟩)
  (e7 : PySem.W.codeIn K (cd7) "factors" = true)
  (k7 : PySem.W.keepIn K (.ref f7) = true)
  (a8 : PySem.W.nsIn K mainGlobals "q_factorial" = some (some (.ref f8)))
  (l8 : K.lookup f8 = some ⟨oc8, od8, .func (PySem.W.fnOf "q_factorial" "q_factorial" (defArgs s_q_factorial) (defBody s_q_factorial) (defScope s_q_factorial) .none kV8 dc8 pm8 an8 (cd8) ct8), sl8⟩)
  (e8 : PySem.W.codeIn K (cd8) "q_factorial" = true)
  (k8 : PySem.W.keepIn K (.ref f8) = true)
  (a9 : PySem.W.nsIn K mainGlobals "choose" = some (some (.ref f9)))
  (l9 : K.lookup f9 = some ⟨oc9, od9, .func (PySem.W.fnOf "choose" "choose" (defArgs s_choose) (defBody s_choose) (defScope s_choose) .none kV9 dc9 pm9 an9 (cd9) ct9), sl9⟩)
  (e9 : PySem.W.codeIn K (cd9) "choose" = true)
  (k9 : PySem.W.keepIn K (.ref f9) = true)
  (a10 : PySem.W.nsIn K mainGlobals "q_choose" = some (some (.ref f10)))
  (l10 : K.lookup f10 = some ⟨oc10, od10, .func (PySem.W.fnOf "q_choose" "q_choose" (defArgs s_q_choose) (defBody s_q_choose) (defScope s_q_choose) .none kV10 dc10 pm10 an10 (cd10) ct10), sl10⟩)
  (e10 : PySem.W.codeIn K (cd10) "q_choose" = true)
  (k10 : PySem.W.keepIn K (.ref f10) = true)
  (a11 : PySem.W.nsIn K mainGlobals "q_worth" = some (some (.ref f11)))
  (l11 : K.lookup f11 = some ⟨oc11, od11, .func (PySem.W.fnOf "q_worth" "q_worth" (defArgs s_q_worth) (defBody s_q_worth) (defScope s_q_worth) .none kV11 dc11 pm11 an11 (cd11) ct11), sl11⟩)
  (e11 : PySem.W.codeIn K (cd11) "q_worth" = true)
  (k11 : PySem.W.keepIn K (.ref f11) = true)
  (a12 : PySem.W.nsIn K mainGlobals "spaces" = some (some (.ref f12)))
  (l12 : K.lookup f12 = some ⟨oc12, od12, .func (PySem.W.fnOf "spaces" "spaces" (defArgs s_spaces) (defBody s_spaces) (defScope s_spaces) .none kV12 dc12 pm12 an12 (cd12) ct12), sl12⟩)
  (e12 : PySem.W.codeIn K (cd12) "spaces" = true)
  (k12 : PySem.W.keepIn K (.ref f12) = true)
  (a13 : PySem.W.nsIn K mainGlobals "_law_box" = some (some (.ref f13)))
  (l13 : K.lookup f13 = some ⟨oc13, od13, .func (PySem.W.fnOf "_law_box" "_law_box" (defArgs s__law_box) (defBody s__law_box) (defScope s__law_box) .none kV13 dc13 pm13 an13 (cd13) ct13), sl13⟩)
  (e13 : PySem.W.codeIn K (cd13) "_law_box" = true)
  (k13 : PySem.W.keepIn K (.ref f13) = true)
  (a14 : PySem.W.nsIn K mainGlobals "_law_take" = some (some (.ref f14)))
  (l14 : K.lookup f14 = some ⟨oc14, od14, .func (PySem.W.fnOf "_law_take" "_law_take" (defArgs s__law_take) (defBody s__law_take) (defScope s__law_take) .none kV14 dc14 pm14 an14 (cd14) ct14), sl14⟩)
  (e14 : PySem.W.codeIn K (cd14) "_law_take" = true)
  (k14 : PySem.W.keepIn K (.ref f14) = true)
  (a15 : PySem.W.nsIn K mainGlobals "_law_pick" = some (some (.ref f15)))
  (l15 : K.lookup f15 = some ⟨oc15, od15, .func (PySem.W.fnOf "_law_pick" "_law_pick" (defArgs s__law_pick) (defBody s__law_pick) (defScope s__law_pick) .none kV15 dc15 pm15 an15 (cd15) ct15), sl15⟩)
  (e15 : PySem.W.codeIn K (cd15) "_law_pick" = true)
  (k15 : PySem.W.keepIn K (.ref f15) = true)
  (a16 : PySem.W.nsIn K mainGlobals "_law_refusal" = some (some (.ref f16)))
  (l16 : K.lookup f16 = some ⟨oc16, od16, .func (PySem.W.fnOf "_law_refusal" "_law_refusal" (defArgs s__law_refusal) (defBody s__law_refusal) (defScope s__law_refusal) .none kV16 dc16 pm16 an16 (cd16) ct16), sl16⟩)
  (e16 : PySem.W.codeIn K (cd16) "_law_refusal" = true)
  (k16 : PySem.W.keepIn K (.ref f16) = true)
  (a17 : PySem.W.nsIn K mainGlobals "_law_sum" = some (some (.ref f17)))
  (l17 : K.lookup f17 = some ⟨oc17, od17, .func (PySem.W.fnOf "_law_sum" "_law_sum" (defArgs s__law_sum) (defBody s__law_sum) (defScope s__law_sum) .none kV17 dc17 pm17 an17 (cd17) ct17), sl17⟩)
  (e17 : PySem.W.codeIn K (cd17) "_law_sum" = true)
  (k17 : PySem.W.keepIn K (.ref f17) = true)
  (a18 : PySem.W.nsIn K mainGlobals "_law_times" = some (some (.ref f18)))
  (l18 : K.lookup f18 = some ⟨oc18, od18, .func (PySem.W.fnOf "_law_times" "_law_times" (defArgs s__law_times) (defBody s__law_times) (defScope s__law_times) .none kV18 dc18 pm18 an18 (cd18) ct18), sl18⟩)
  (e18 : PySem.W.codeIn K (cd18) "_law_times" = true)
  (k18 : PySem.W.keepIn K (.ref f18) = true)
  (a19 : PySem.W.nsIn K mainGlobals "_law_choose_q" = some (some (.ref f19)))
  (l19 : K.lookup f19 = some ⟨oc19, od19, .func (PySem.W.fnOf "_law_choose_q" "_law_choose_q" (defArgs s__law_choose_q) (defBody s__law_choose_q) (defScope s__law_choose_q) .none kV19 dc19 pm19 an19 (cd19) ct19), sl19⟩)
  (e19 : PySem.W.codeIn K (cd19) "_law_choose_q" = true)
  (k19 : PySem.W.keepIn K (.ref f19) = true)
  (a20 : PySem.W.nsIn K mainGlobals "_law_choose" = some (some (.ref f20)))
  (l20 : K.lookup f20 = some ⟨oc20, od20, .func (PySem.W.fnOf "_law_choose" "_law_choose" (defArgs s__law_choose) (defBody s__law_choose) (defScope s__law_choose) .none kV20 dc20 pm20 an20 (cd20) ct20), sl20⟩)
  (e20 : PySem.W.codeIn K (cd20) "_law_choose" = true)
  (k20 : PySem.W.keepIn K (.ref f20) = true)
  (a21 : PySem.W.nsIn K mainGlobals "_law_first" = some (some (.ref f21)))
  (l21 : K.lookup f21 = some ⟨oc21, od21, .func (PySem.W.fnOf "_law_first" "_law_first" (defArgs s__law_first) (defBody s__law_first) (defScope s__law_first) .none kV21 dc21 pm21 an21 (.ref c21) ct21), sl21⟩)
  (e21 : PySem.W.codeIn K (.ref c21) "_law_first" = true)
  (k21 : PySem.W.keepIn K (.ref f21) = true)
  (lc21 : K.lookup c21 = some ⟨occ21, odc21, .fields vs21, slc21⟩)
  (p21 : vs21[11]? = some (.ref P21))
  (ch21 : PySem.W.codeHdIn K c21 P21 = true)
  (n21 : K.lookup P21 = none)
  (h21 : h.get? P21 = some (PySem.W.tabObj #[]))
  (a22 : PySem.W.nsIn K mainGlobals "_law_stairs" = some (some (.ref f22)))
  (l22 : K.lookup f22 = some ⟨oc22, od22, .func (PySem.W.fnOf "_law_stairs" "_law_stairs" (defArgs s__law_stairs) (defBody s__law_stairs) (defScope s__law_stairs) .none kV22 dc22 pm22 an22 (cd22) ct22), sl22⟩)
  (e22 : PySem.W.codeIn K (cd22) "_law_stairs" = true)
  (k22 : PySem.W.keepIn K (.ref f22) = true)
  (a23 : PySem.W.nsIn K mainGlobals "_law_rows" = some (some (.ref f23)))
  (l23 : K.lookup f23 = some ⟨oc23, od23, .func (PySem.W.fnOf "_law_rows" "_law_rows" (defArgs s__law_rows) (defBody s__law_rows) (defScope s__law_rows) .none kV23 dc23 pm23 an23 (cd23) ct23), sl23⟩)
  (e23 : PySem.W.codeIn K (cd23) "_law_rows" = true)
  (k23 : PySem.W.keepIn K (.ref f23) = true)
  (a24 : PySem.W.nsIn K mainGlobals "_law_spanned" = some (some (.ref f24)))
  (l24 : K.lookup f24 = some ⟨oc24, od24, .func (PySem.W.fnOf "_law_spanned" "_law_spanned" (defArgs s__law_spanned) (defBody s__law_spanned) (defScope s__law_spanned) .none kV24 dc24 pm24 an24 (cd24) ct24), sl24⟩)
  (e24 : PySem.W.codeIn K (cd24) "_law_spanned" = true)
  (k24 : PySem.W.keepIn K (.ref f24) = true)
  (a25 : PySem.W.nsIn K mainGlobals "_law_second" = some (some (.ref f25)))
  (l25 : K.lookup f25 = some ⟨oc25, od25, .func (PySem.W.fnOf "_law_second" "_law_second" (defArgs s__law_second) (defBody s__law_second) (defScope s__law_second) .none kV25 dc25 pm25 an25 (.ref c25) ct25), sl25⟩)
  (e25 : PySem.W.codeIn K (.ref c25) "_law_second" = true)
  (k25 : PySem.W.keepIn K (.ref f25) = true)
  (lc25 : K.lookup c25 = some ⟨occ25, odc25, .fields vs25, slc25⟩)
  (p25 : vs25[11]? = some (.ref P25))
  (ch25 : PySem.W.codeHdIn K c25 P25 = true)
  (n25 : K.lookup P25 = none)
  (h25 : h.get? P25 = some (PySem.W.tabObj #[]))
  (a26 : PySem.W.nsIn K mainGlobals "law" = some (some (.ref f26)))
  (l26 : K.lookup f26 = some ⟨oc26, od26, .func (PySem.W.fnOf "law" "law" (defArgs s_law) (defBody s_law) (defScope s_law) .none kV26 dc26 pm26 an26 (cd26) ct26), sl26⟩)
  (e26 : PySem.W.codeIn K (cd26) "law" = true)
  (k26 : PySem.W.keepIn K (.ref f26) = true)
  (aCBadCount : PySem.W.nsIn K mainGlobals "BadCount" = some (some (.ref CBadCount)))
  (aCNotSo : PySem.W.nsIn K mainGlobals "NotSo" = some (some (.ref CNotSo)))
  (aCTooMuch : PySem.W.nsIn K mainGlobals "TooMuch" = some (some (.ref CTooMuch)))
  (xBadCount : PySem.W.excIn K CBadCount [.type "ValueError", .type "Exception", .type "BaseException", .type "object"] "ValueError.__new__" = true)
  (yBadCount : PySem.W.keepIn K (.ref CBadCount) = true)
  (sBadCount : PySem.W.subIn K (.ref CBadCount) (.type "BaseException") = some true)
  (tBadCount : PySem.W.typeIn K (.ref CBadCount) = some (.type "type"))
  (mBadCountBadCount : PySem.W.exmOne K (.ref CBadCount) (.ref CBadCount) = some true)
  (mNotSoBadCount : PySem.W.exmOne K (.ref CNotSo) (.ref CBadCount) = some false)
  (mNotSoNotSo : PySem.W.exmOne K (.ref CNotSo) (.ref CNotSo) = some true)
  (mTooMuchBadCount : PySem.W.exmOne K (.ref CTooMuch) (.ref CBadCount) = some false)
  (mTooMuchNotSo : PySem.W.exmOne K (.ref CTooMuch) (.ref CNotSo) = some false)
  (mTooMuchTooMuch : PySem.W.exmOne K (.ref CTooMuch) (.ref CTooMuch) = some true)
  (cMOST_CHOSEN : PySem.W.nsIn K mainGlobals "MOST_CHOSEN" = some (some (.int 24 tMOST_CHOSEN)))
  (cMOST_FACTORS : PySem.W.nsIn K mainGlobals "MOST_FACTORS" = some (some (.int 12 tMOST_FACTORS)))
  (zabs : PySem.W.nsIn K mainGlobals "abs" = some none)
  (zall : PySem.W.nsIn K mainGlobals "all" = some none)
  (zbool : PySem.W.nsIn K mainGlobals "bool" = some none)
  (zenumerate : PySem.W.nsIn K mainGlobals "enumerate" = some none)
  (zint : PySem.W.nsIn K mainGlobals "int" = some none)
  (zisinstance : PySem.W.nsIn K mainGlobals "isinstance" = some none)
  (zlen : PySem.W.nsIn K mainGlobals "len" = some none)
  (zlist : PySem.W.nsIn K mainGlobals "list" = some none)
  (zmax : PySem.W.nsIn K mainGlobals "max" = some none)
  (zrange : PySem.W.nsIn K mainGlobals "range" = some none)
  (zsorted : PySem.W.nsIn K mainGlobals "sorted" = some none)
  (ztuple : PySem.W.nsIn K mainGlobals "tuple" = some none)
  (q25_21 : ¬ P25 = P21)
  (h1 : LR__law_first) (h2 : LR__law_second) : LamX.LawAtS l w K (L2.CX l.prog w) 8 63 "script" mg fa h := by
  have e := hfa.symm.trans (PySem.W.mg_of X G a26)
  cases e
  have F0 := fun_mk (st := s_is_number) l0 e0 k0
  have B0 := F0.binds (ps := ["x"]) fun _ _ _ _ _ _ us hl => match us, hl with | [_], _ => rfl
  have F1 := fun_mk (st := s_is_poly) l1 e1 k1
  have B1 := F1.binds (ps := ["x"]) fun _ _ _ _ _ _ us hl => match us, hl with | [_], _ => rfl
  have F2 := fun_mk (st := s_check_below) l2 e2 k2
  have B2 := F2.binds (ps := ["x", "most"]) fun _ _ _ _ _ _ us hl => match us, hl with | [_, _], _ => rfl
  have F3 := fun_mk (st := s_multiply) l3 e3 k3
  have B3 := F3.binds (ps := ["f", "g"]) fun _ _ _ _ _ _ us hl => match us, hl with | [_, _], _ => rfl
  have F4 := fun_mk (st := s_exact) l4 e4 k4
  have B4 := F4.binds (ps := ["f", "g"]) fun _ _ _ _ _ _ us hl => match us, hl with | [_, _], _ => rfl
  have F5 := fun_mk (st := s_number) l5 e5 k5
  have B5 := F5.binds (ps := ["n"]) fun _ _ _ _ _ _ us hl => match us, hl with | [_], _ => rfl
  have F6 := fun_mk (st := s_q_number) l6 e6 k6
  have B6 := F6.binds (ps := ["n"]) fun _ _ _ _ _ _ us hl => match us, hl with | [_], _ => rfl
  have F7 := fun_mk (st := s_factors) l7 e7 k7
  have B7 := F7.binds (ps := ["n"]) fun _ _ _ _ _ _ us hl => match us, hl with | [_], _ => rfl
  have F8 := fun_mk (st := s_q_factorial) l8 e8 k8
  have B8 := F8.binds (ps := ["n"]) fun _ _ _ _ _ _ us hl => match us, hl with | [_], _ => rfl
  have F9 := fun_mk (st := s_choose) l9 e9 k9
  have B9 := F9.binds (ps := ["n", "k"]) fun _ _ _ _ _ _ us hl => match us, hl with | [_, _], _ => rfl
  have F10 := fun_mk (st := s_q_choose) l10 e10 k10
  have B10 := F10.binds (ps := ["n", "k"]) fun _ _ _ _ _ _ us hl => match us, hl with | [_, _], _ => rfl
  have F11 := fun_mk (st := s_q_worth) l11 e11 k11
  have B11 := F11.binds (ps := ["f", "q"]) fun _ _ _ _ _ _ us hl => match us, hl with | [_, _], _ => rfl
  have F12 := fun_mk (st := s_spaces) l12 e12 k12
  have B12 := F12.binds (ps := ["n", "k", "q"]) fun _ _ _ _ _ _ us hl => match us, hl with | [_, _, _], _ => rfl
  have F13 := fun_mk (st := s__law_box) l13 e13 k13
  have B13 := F13.binds (ps := ["script"]) fun _ _ _ _ _ _ us hl => match us, hl with | [_], _ => rfl
  have F14 := fun_mk (st := s__law_take) l14 e14 k14
  have B14 := F14.binds (ps := ["box", "m"]) fun _ _ _ _ _ _ us hl => match us, hl with | [_, _], _ => rfl
  have F15 := fun_mk (st := s__law_pick) l15 e15 k15
  have B15 := F15.binds (ps := ["box", "menu"]) fun _ _ _ _ _ _ us hl => match us, hl with | [_, _], _ => rfl
  have F16 := fun_mk (st := s__law_refusal) l16 e16 k16
  have B16 := F16.binds (ps := ["call"]) fun _ _ _ _ _ _ us hl => match us, hl with | [_], _ => rfl
  have F17 := fun_mk (st := s__law_sum) l17 e17 k17
  have B17 := F17.binds (ps := ["f", "g"]) fun _ _ _ _ _ _ us hl => match us, hl with | [_, _], _ => rfl
  have F18 := fun_mk (st := s__law_times) l18 e18 k18
  have B18 := F18.binds (ps := ["f", "g"]) fun _ _ _ _ _ _ us hl => match us, hl with | [_, _], _ => rfl
  have F19 := fun_mk (st := s__law_choose_q) l19 e19 k19
  have B19 := F19.binds (ps := ["n"]) fun _ _ _ _ _ _ us hl => match us, hl with | [_], _ => rfl
  have F20 := fun_mk (st := s__law_choose) l20 e20 k20
  have B20 := F20.binds (ps := ["n", "k"]) fun _ _ _ _ _ _ us hl => match us, hl with | [_, _], _ => rfl
  have F21 := fun_mk (st := s__law_first) l21 e21 k21
  have B21 := F21.binds (ps := ["script"]) fun _ _ _ _ _ _ us hl => match us, hl with | [_], _ => rfl
  have F22 := fun_mk (st := s__law_stairs) l22 e22 k22
  have B22 := F22.binds (ps := ["n", "k", "q"]) fun _ _ _ _ _ _ us hl => match us, hl with | [_, _, _], _ => rfl
  have F23 := fun_mk (st := s__law_rows) l23 e23 k23
  have B23 := F23.binds (ps := ["n", "q"]) fun _ _ _ _ _ _ us hl => match us, hl with | [_, _], _ => rfl
  have F24 := fun_mk (st := s__law_spanned) l24 e24 k24
  have B24 := F24.binds (ps := ["rows", "q"]) fun _ _ _ _ _ _ us hl => match us, hl with | [_, _], _ => rfl
  have F25 := fun_mk (st := s__law_second) l25 e25 k25
  have B25 := F25.binds (ps := ["script"]) fun _ _ _ _ _ _ us hl => match us, hl with | [_], _ => rfl
  have F26 := fun_mk (st := s_law) l26 e26 k26
  have B26 := F26.binds (ps := ["script"]) fun _ _ _ _ _ _ us hl => match us, hl with | [_], _ => rfl
  let g : Addr × Addr → Addr × Str := fun p => (p.2, if p.2 = P21 then (("_law_first" : Str) ++ ".<locals>.") ++ "<lambda>" else if p.2 = P25 then (("_law_second" : Str) ++ ".<locals>.") ++ "<lambda>" else ("" : Str))
  let d : Fx K mg := { f_is_number := f0, d_is_number := _, F_is_number := F0, B_is_number := B0, G_is_number := PySem.W.mg_of X G a0, f_is_poly := f1, d_is_poly := _, F_is_poly := F1, B_is_poly := B1, G_is_poly := PySem.W.mg_of X G a1, f_check_below := f2, d_check_below := _, F_check_below := F2, B_check_below := B2, G_check_below := PySem.W.mg_of X G a2, f_multiply := f3, d_multiply := _, F_multiply := F3, B_multiply := B3, G_multiply := PySem.W.mg_of X G a3, f_exact := f4, d_exact := _, F_exact := F4, B_exact := B4, G_exact := PySem.W.mg_of X G a4, f_number := f5, d_number := _, F_number := F5, B_number := B5, G_number := PySem.W.mg_of X G a5, f_q_number := f6, d_q_number := _, F_q_number := F6, B_q_number := B6, G_q_number := PySem.W.mg_of X G a6, f_factors := f7, d_factors := _, F_factors := F7, B_factors := B7, G_factors := PySem.W.mg_of X G a7, f_q_factorial := f8, d_q_factorial := _, F_q_factorial := F8, B_q_factorial := B8, G_q_factorial := PySem.W.mg_of X G a8, f_choose := f9, d_choose := _, F_choose := F9, B_choose := B9, G_choose := PySem.W.mg_of X G a9, f_q_choose := f10, d_q_choose := _, F_q_choose := F10, B_q_choose := B10, G_q_choose := PySem.W.mg_of X G a10, f_q_worth := f11, d_q_worth := _, F_q_worth := F11, B_q_worth := B11, G_q_worth := PySem.W.mg_of X G a11, f_spaces := f12, d_spaces := _, F_spaces := F12, B_spaces := B12, G_spaces := PySem.W.mg_of X G a12, f__law_box := f13, d__law_box := _, F__law_box := F13, B__law_box := B13, G__law_box := PySem.W.mg_of X G a13, f__law_take := f14, d__law_take := _, F__law_take := F14, B__law_take := B14, G__law_take := PySem.W.mg_of X G a14, f__law_pick := f15, d__law_pick := _, F__law_pick := F15, B__law_pick := B15, G__law_pick := PySem.W.mg_of X G a15, f__law_refusal := f16, d__law_refusal := _, F__law_refusal := F16, B__law_refusal := B16, G__law_refusal := PySem.W.mg_of X G a16, f__law_sum := f17, d__law_sum := _, F__law_sum := F17, B__law_sum := B17, G__law_sum := PySem.W.mg_of X G a17, f__law_times := f18, d__law_times := _, F__law_times := F18, B__law_times := B18, G__law_times := PySem.W.mg_of X G a18, f__law_choose_q := f19, d__law_choose_q := _, F__law_choose_q := F19, B__law_choose_q := B19, G__law_choose_q := PySem.W.mg_of X G a19, f__law_choose := f20, d__law_choose := _, F__law_choose := F20, B__law_choose := B20, G__law_choose := PySem.W.mg_of X G a20, f__law_first := f21, d__law_first := _, F__law_first := F21, B__law_first := B21, G__law_first := PySem.W.mg_of X G a21, f__law_stairs := f22, d__law_stairs := _, F__law_stairs := F22, B__law_stairs := B22, G__law_stairs := PySem.W.mg_of X G a22, f__law_rows := f23, d__law_rows := _, F__law_rows := F23, B__law_rows := B23, G__law_rows := PySem.W.mg_of X G a23, f__law_spanned := f24, d__law_spanned := _, F__law_spanned := F24, B__law_spanned := B24, G__law_spanned := PySem.W.mg_of X G a24, f__law_second := f25, d__law_second := _, F__law_second := F25, B__law_second := B25, G__law_second := PySem.W.mg_of X G a25, f_law := fa, d_law := _, F_law := F26, B_law := B26, G_law := PySem.W.mg_of X G a26, C_BadCount := CBadCount, O_BadCount := ⟨PySem.F.excBase_ValueError, PySem.W.mg_of X G aCBadCount, xBadCount, yBadCount, sBadCount, tBadCount⟩, t_MOST_CHOSEN := tMOST_CHOSEN, c_MOST_CHOSEN := PySem.W.mg_of X G cMOST_CHOSEN, t_MOST_FACTORS := tMOST_FACTORS, c_MOST_FACTORS := PySem.W.mg_of X G cMOST_FACTORS, m_abs := PySem.W.mg_none_of X G zabs, m_all := PySem.W.mg_none_of X G zall, m_bool := PySem.W.mg_none_of X G zbool, m_enumerate := PySem.W.mg_none_of X G zenumerate, m_int := PySem.W.mg_none_of X G zint, m_isinstance := PySem.W.mg_none_of X G zisinstance, m_len := PySem.W.mg_none_of X G zlen, m_list := PySem.W.mg_none_of X G zlist, m_max := PySem.W.mg_none_of X G zmax, m_range := PySem.W.mg_none_of X G zrange, m_sorted := PySem.W.mg_none_of X G zsorted, m_tuple := PySem.W.mg_none_of X G ztuple, M := ⟨CBadCount, CNotSo, CTooMuch, PySem.W.mg_of X G aCBadCount, PySem.W.mg_of X G aCNotSo, PySem.W.mg_of X G aCTooMuch, mBadCountBadCount, mNotSoBadCount, mNotSoNotSo, mTooMuchBadCount, mTooMuchNotSo, mTooMuchTooMuch⟩, c__law_first := c21, P__law_first := P21, c__law_second := c25, P__law_second := P25 }
  refine ⟨d.d_law, [(c21, P21), (c25, P25)], spT K ([(c21, P21), (c25, P25)].map g), ?_, ?_, ?_, (fun s v => .of_eq rfl), (fun H a ns hl _ hH hS => spT_end (fun _ _ => rfl) hl hH hS), fun base _ _ TB => ?_⟩
  · intro p hp
    simp only [List.mem_cons, List.not_mem_nil, or_false] at hp
    rcases hp with rfl | rfl
    · exact h21
    · exact h25
  · intro p hp
    simp only [List.mem_cons, List.not_mem_nil, or_false] at hp
    rcases hp with rfl | rfl
    · exact n21
    · exact n25
  · intro p hp
    simp only [List.mem_cons, List.not_mem_nil, or_false] at hp
    rcases hp with rfl | rfl
    · exact PySem.W.codeHd_of_K X ch21
    · exact PySem.W.codeHd_of_K X ch25
  · have l : Ls base ([(c21, P21), (c25, P25)].map g) d := by
      refine ⟨?_, ?_⟩
      · exact lm_mk (g := g) rfl (TB (c21, P21) (by simp)) (show (c21, P21) ∈ [(c21, P21), (c25, P25)] by simp) (by show (if _ then _ else _) = _; exact if_pos rfl) (fun _ => rfl) (fun p q e => by show (if p.2 = _ then _ else _) = _; rw [e])
      · exact lm_mk (g := g) rfl (TB (c25, P25) (by simp)) (show (c25, P25) ∈ [(c21, P21), (c25, P25)] by simp) (by show (if _ then _ else _) = _; rw [if_neg q25_21]; exact if_pos rfl) (fun _ => rfl) (fun p q e => by show (if p.2 = _ then _ else _) = _; rw [e])
    exact ok_law d l h1 h2
end CB

set_option maxRecDepth 100000
set_option maxHeartbeats 1000000
namespace CB
open PySem PySem.Spec
open L2

theorem e_do {env : Env'} {h h' : Hh} {e : EM} {d : D} (he : e env h = .ok d h') : mDo e env h = .nx env h' := by
  unfold mDo
  rw [he]
  rfl
/-! ## the calls -/
theorem belowP {x m : Int} {h : Hh} (h0 : 0 ≤ x) (h1 : x ≤ m) : phi_check_below [.int x, .int m] h = .ok .non h := below_ok h0 h1
theorem chooseP {n k : Nat} {h : Hh} (hn : n ≤ 24) (hk : k ≤ 24) : phi_choose [.int (n : Int), .int (k : Int)] h = .ok (.tup (iD (qC n k))) h := choose_ok hn hk
theorem factorsP {n : Nat} {h : Hh} (hn : n ≤ 12) : phi_factors [.int (n : Int)] h = .ok (.tup (iD (qF.getD n []))) h := factors_ok hn
theorem worthP {f : List Int} {q : Int} {h : Hh} (hf : okP f) (hl : f.length ≤ 1000) (hq : q.natAbs < 18446744073709551616) : phi_q_worth [.tup (iD f), .int q] h = .ok (.int (evP q f)) h := worth_ok hf hl hq
theorem q_choose_ok {n k : Nat} {h : Hh} (hn : n ≤ 24) (hk : k ≤ 24) : phi_q_choose [.int (n : Int), .int (k : Int)] h = .ok (.tup (iD (qC n k))) h := by
  refine fnP_ok (h' := []) rfl rfl ?_ (rf_tup _)
  show fin (m_q_choose [some (.int (n : Int)), some (.int (k : Int))] []) = _
  unfold m_q_choose
  rw [e_seq (e_do (c_call (c_cons rfl (c_cons rfl c_nil)) (belowP (h := []) (by omega) (by omega)))), e_seq (e_do (c_call (c_cons rfl (c_cons rfl c_nil)) (belowP (h := []) (by omega) (by omega)))),
    e_ret (c_call (c_cons rfl (c_cons rfl c_nil)) (chooseP (h := []) hn hk))]
  rfl
def ppC : List D → Hh → R D
  | [.int (.ofNat n), .int (.ofNat k)], h => if (Nat.ble n 24 && Nat.ble k 24) = true then .ok (.tup (iD (qC n k))) h else phi_q_choose [.int (.ofNat n), .int (.ofNat k)] h
  | ds, h => phi_q_choose ds h
theorem eqC : phi_q_choose = ppC := by
  funext ds h
  unfold ppC
  split
  · rename_i n k
    by_cases q : (Nat.ble n 24 && Nat.ble k 24) = true
    · rw [if_pos q]
      rw [Bool.and_eq_true, Nat.ble_eq, Nat.ble_eq] at q
      exact q_choose_ok q.1 q.2
    · rw [if_neg q]
  · rfl
theorem q_factorial_ok {n : Nat} {h : Hh} (hn : n ≤ 12) : phi_q_factorial [.int (n : Int)] h = .ok (.tup (iD (qF.getD n []))) h := by
  refine fnP_ok (h' := []) rfl rfl ?_ (rf_tup _)
  show fin (m_q_factorial [some (.int (n : Int))] []) = _
  unfold m_q_factorial
  rw [e_seq (e_do (c_call (c_cons rfl (c_cons rfl c_nil)) (belowP (h := []) (by omega) (by omega)))), e_ret (c_call (c_cons rfl c_nil) (factorsP (h := []) hn))]
  rfl
def ppF : List D → Hh → R D
  | [.int (.ofNat n)], h => if Nat.ble n 12 = true then .ok (.tup (iD (qF.getD n []))) h else phi_q_factorial [.int (.ofNat n)] h
  | ds, h => phi_q_factorial ds h
theorem eqFc : phi_q_factorial = ppF := by
  funext ds h
  unfold ppF
  split
  · rename_i n
    by_cases q : Nat.ble n 12 = true
    · rw [if_pos q]
      rw [Nat.ble_eq] at q
      exact q_factorial_ok q
    · rw [if_neg q]
  · rfl
def smallB (g : List Int) : Bool := g.all fun b => Nat.blt b.natAbs 18446744073709551616
theorem smallB_small {g : List Int} (h : smallB g = true) : small g := fun b hb => by
  have := List.all_eq_true.mp h b hb
  rwa [Nat.blt_eq] at this
def ppT : List D → Hh → R D
  | [.tup a, .tup b], h => match intsOf a, intsOf b with
    | some f, some g => if (smallB g && Nat.ble (f.length + g.length) 999) = true then .ok (.tup (iD (timesI f g))) h else phi__law_times [.tup a, .tup b] h
    | _, _ => phi__law_times [.tup a, .tup b] h
  | ds, h => phi__law_times ds h
theorem eqT : phi__law_times = ppT := by
  funext ds h
  unfold ppT
  split
  · split
    · rename_i f g e1 e2
      by_cases q : (smallB g && Nat.ble (f.length + g.length) 999) = true
      · rw [if_pos q]
        rw [Bool.and_eq_true, Nat.ble_eq] at q
        rw [intsOf_eq e1, intsOf_eq e2]
        exact times_ok (smallB_small q.1) q.2
      · rw [if_neg q]
    · rfl
  · rfl
def ppS : List D → Hh → R D
  | [.tup a, .tup b], h => match intsOf a, intsOf b with
    | some f, some g => if Nat.ble (f.length + g.length) 999 = true then .ok (.tup (iD (sumI f g))) h else phi__law_sum [.tup a, .tup b] h
    | _, _ => phi__law_sum [.tup a, .tup b] h
  | ds, h => phi__law_sum ds h
theorem eqS : phi__law_sum = ppS := by
  funext ds h
  unfold ppS
  split
  · split
    · rename_i f g e1 e2
      by_cases q : Nat.ble (f.length + g.length) 999 = true
      · rw [if_pos q]
        rw [Nat.ble_eq] at q
        rw [intsOf_eq e1, intsOf_eq e2]
        exact sum_ok q
      · rw [if_neg q]
    · rfl
  · rfl
def okPB (f : List Int) : Bool := match f.getLast? with
  | some a => a != 0
  | none => true
theorem okPB_ok {f : List Int} (h : okPB f = true) : okP f := fun hf => by
  unfold okPB at h
  rw [List.getLast?_eq_getLast hf] at h
  simpa using h
def ppW : List D → Hh → R D
  | [.tup a, .int q], h => match intsOf a with
    | some f => if (okPB f && (Nat.ble f.length 1000 && Nat.blt q.natAbs 18446744073709551616)) = true then .ok (.int (evP q f)) h else phi_q_worth [.tup a, .int q] h
    | none => phi_q_worth [.tup a, .int q] h
  | ds, h => phi_q_worth ds h
theorem eqW : phi_q_worth = ppW := by
  funext ds h
  match ds with
  | [.tup a, .int q] =>
    show phi_q_worth [.tup a, .int q] h = (match intsOf a with
      | some f => if (okPB f && (Nat.ble f.length 1000 && Nat.blt q.natAbs 18446744073709551616)) = true then .ok (.int (evP q f)) h else phi_q_worth [.tup a, .int q] h
      | none => phi_q_worth [.tup a, .int q] h)
    cases e1 : intsOf a with
    | none => rfl
    | some f =>
      dsimp only
      by_cases c : (okPB f && (Nat.ble f.length 1000 && Nat.blt q.natAbs 18446744073709551616)) = true
      · rw [if_pos c]
        rw [Bool.and_eq_true, Bool.and_eq_true, Nat.ble_eq, Nat.blt_eq] at c
        rw [intsOf_eq e1]
        exact worthP (okPB_ok c.1) c.2.1 c.2.2
      · rw [if_neg c]
  | [] => rfl
  | [.tup _] => unfold ppW; split <;> first | rfl | simp_all
  | .non :: _ => unfold ppW; split <;> first | rfl | simp_all
  | .bl _ :: _ => unfold ppW; split <;> first | rfl | simp_all
  | .int _ :: _ => unfold ppW; split <;> first | rfl | simp_all
  | .str _ :: _ => unfold ppW; split <;> first | rfl | simp_all
  | .scr _ :: _ => unfold ppW; split <;> first | rfl | simp_all
  | .ref _ :: _ => unfold ppW; split <;> first | rfl | simp_all
  | .tup _ :: .non :: _ => unfold ppW; split <;> first | rfl | simp_all
  | .tup _ :: .bl _ :: _ => unfold ppW; split <;> first | rfl | simp_all
  | .tup _ :: .str _ :: _ => unfold ppW; split <;> first | rfl | simp_all
  | .tup _ :: .scr _ :: _ => unfold ppW; split <;> first | rfl | simp_all
  | .tup _ :: .ref _ :: _ => unfold ppW; split <;> first | rfl | simp_all
  | .tup _ :: .tup _ :: _ => unfold ppW; split <;> first | rfl | simp_all
  | .tup _ :: .int _ :: _ :: _ => unfold ppW; split <;> first | rfl | simp_all
theorem qC_okP : ((List.range 13).all fun n => (List.range 13).all fun k => okPB (qC n k) && Nat.ble (qC n k).length 1000) = true := by kernel_rfl
theorem spaces_ok {n k : Nat} {q : Int} {h : Hh} (hn : n ≤ 12) (hk : k ≤ 12) (hq : q = 2 ∨ q = 3 ∨ q = 5 ∨ q = 7) : phi_spaces [.int (n : Int), .int (k : Int), .int q] h = .ok (.int (evP q (qC n k))) h := by
  have ok := List.all_eq_true.mp (List.all_eq_true.mp qC_okP n (List.mem_range.mpr (by omega))) k (List.mem_range.mpr (by omega))
  rw [Bool.and_eq_true, Nat.ble_eq] at ok
  refine fnP_ok (h' := []) rfl rfl ?_ rfl
  show fin (m_spaces [some (.int (n : Int)), some (.int (k : Int)), some (.int q)] []) = _
  unfold m_spaces
  have e3 : ∀ ms : SM, mIf (mOr (mBin pNin2 (mV 2) (mTup (mCons (mC (.int 2)) (mCons (mC (.int 3)) (mCons (mC (.int 5)) (mCons (mC (.int 7)) mNil)))))) (mNot (mUn pTru (mCall phi_is_number (mCons (mV 2) mNil))))) ms mPass [some (.int (n : Int)), some (.int (k : Int)), some (.int q)] [] = .nx [some (.int (n : Int)), some (.int (k : Int)), some (.int q)] [] := fun ms => by
    rcases hq with e | e | e | e <;> subst e <;> rfl
  rw [e_seq (e_do (c_call (c_cons rfl (c_cons rfl c_nil)) (belowP (h := []) (by omega) (by omega)))), e_seq (e_do (c_call (c_cons rfl (c_cons rfl c_nil)) (belowP (h := []) (by omega) (by omega)))), e_seq (e3 _),
    e_ret (c_call (c_cons (c_call (c_cons rfl (c_cons rfl c_nil)) (chooseP (h := []) (by omega) (by omega))) (c_cons rfl c_nil)) (worthP (h := []) (okPB_ok ok.1) ok.2 (by rcases hq with e | e | e | e <;> subst e <;> decide)))]
  rfl
def ppSp : List D → Hh → R D
  | [.int (.ofNat n), .int (.ofNat k), .int (.ofNat q)], h => if (Nat.ble n 12 && (Nat.ble k 12 && (Nat.beq q 2 || (Nat.beq q 3 || (Nat.beq q 5 || Nat.beq q 7))))) = true then .ok (.int (evP (.ofNat q) (qC n k))) h else phi_spaces [.int (.ofNat n), .int (.ofNat k), .int (.ofNat q)] h
  | ds, h => phi_spaces ds h
theorem eqSp : phi_spaces = ppSp := by
  funext ds h
  unfold ppSp
  split
  · rename_i n k q
    by_cases c : (Nat.ble n 12 && (Nat.ble k 12 && (Nat.beq q 2 || (Nat.beq q 3 || (Nat.beq q 5 || Nat.beq q 7))))) = true
    · rw [if_pos c]
      simp only [Bool.and_eq_true, Bool.or_eq_true, Nat.ble_eq, Nat.beq_eq] at c
      exact spaces_ok c.1 c.2.1 (by rcases c.2.2 with e | e | e | e <;> subst e <;> simp)
    · rw [if_neg c]
  · rfl
end CB

set_option maxRecDepth 100000
set_option maxHeartbeats 1000000
namespace CB
open PySem PySem.Spec
open L2
def stB (q : Nat) : Bool := (List.range 9).all fun n => (List.range 9).all fun k => isInt (evP (q : Int) (qC n k)) (phi__law_stairs [.int (n : Int), .int (k : Int), .int (q : Int)] [])
theorem st2 : stB 2 = true := by kernel_rfl
theorem st3 : stB 3 = true := by kernel_rfl
theorem st5 : stB 5 = true := by kernel_rfl
theorem st7 : stB 7 = true := by kernel_rfl
theorem stairs_ok {n k q : Nat} {h : Hh} (hn : n < 9) (hk : k < 9) (hq : stB q = true) : phi__law_stairs [.int (n : Int), .int (k : Int), .int (q : Int)] h = .ok (.int (evP (q : Int) (qC n k))) h :=
  fnP_h h ⟨rfl, rfl⟩ (isInt_ok (List.all_eq_true.mp (List.all_eq_true.mp hq n (List.mem_range.mpr hn)) k (List.mem_range.mpr hk)))
end CB

set_option maxRecDepth 100000
set_option maxHeartbeats 4000000
namespace CB
open PySem PySem.Spec
open L2
def ppSt : List D → Hh → R D
  | [.int (.ofNat n), .int (.ofNat k), .int (.ofNat q)], h => if (Nat.blt n 9 && (Nat.blt k 9 && (Nat.beq q 2 || (Nat.beq q 3 || (Nat.beq q 5 || Nat.beq q 7))))) = true then .ok (.int (evP (.ofNat q) (qC n k))) h else phi__law_stairs [.int (.ofNat n), .int (.ofNat k), .int (.ofNat q)] h
  | ds, h => phi__law_stairs ds h
theorem eqSt : phi__law_stairs = ppSt := by
  funext ds h
  unfold ppSt
  split
  · rename_i n k q
    by_cases c : (Nat.blt n 9 && (Nat.blt k 9 && (Nat.beq q 2 || (Nat.beq q 3 || (Nat.beq q 5 || Nat.beq q 7))))) = true
    · rw [if_pos c]
      simp only [Bool.and_eq_true, Bool.or_eq_true, Nat.blt_eq, Nat.beq_eq] at c
      exact stairs_ok c.1 c.2.1 (by rcases c.2.2 with e | e | e | e <;> subst e; exact st2; exact st3; exact st5; exact st7)
    · rw [if_neg c]
  · rfl
abbrev e2 (q n k : Int) : Env' := [none, some (.ref 1), some (.int q), some (.int n), some (.int k), none, none, none, none, none, none, none, none]
theorem second_1 {q n k : Nat} (b : Bs) (hq : q = 2 ∨ q = 3 ∨ q = 5 ∨ q = 7) (hn : n < 9) (hk : k < 9) : m__law_second_1 (e2 q n k) (b.h []) = .nx (e2 q n k) (b.h []) := by
  unfold m__law_second_1
  rw [eqSp, eqSt]
  rcases (by omega : n = 0 ∨ n = 1 ∨ n = 2 ∨ n = 3 ∨ n = 4 ∨ n = 5 ∨ n = 6 ∨ n = 7 ∨ n = 8) with rfl | rfl | rfl | rfl | rfl | rfl | rfl | rfl | rfl <;> rcases (by omega : k = 0 ∨ k = 1 ∨ k = 2 ∨ k = 3 ∨ k = 4 ∨ k = 5 ∨ k = 6 ∨ k = 7 ∨ k = 8) with rfl | rfl | rfl | rfl | rfl | rfl | rfl | rfl | rfl <;> rcases hq with rfl | rfl | rfl | rfl <;> kernel_rfl
theorem second_2 {q n k : Nat} (b : Bs) (hq : q = 2 ∨ q = 3 ∨ q = 5 ∨ q = 7) (hk : k < 9) : m__law_second_2 (e2 q n k) (b.h []) = .nx (e2 q n k) (b.h []) := by
  unfold m__law_second_2
  rw [eqSp, eqW, eqC]
  rcases (by omega : k = 0 ∨ k = 1 ∨ k = 2 ∨ k = 3 ∨ k = 4 ∨ k = 5 ∨ k = 6 ∨ k = 7 ∨ k = 8) with rfl | rfl | rfl | rfl | rfl | rfl | rfl | rfl | rfl <;> rcases hq with rfl | rfl | rfl | rfl <;> kernel_rfl
end CB

set_option maxRecDepth 100000
set_option maxHeartbeats 4000000
namespace CB
open PySem PySem.Spec
open L2
abbrev en0 (n : Nat) : Env' := none :: some (.ref 1) :: List.replicate n none
theorem second_7 (b : Bs) (hb : b.ok) : ∃ (env : Env') (g : Hh) (b' : Bs), b'.ok ∧ m__law_second_7 (en0 11) (b.h []) = .nx env (b'.h g) ∧ env.length = 13 ∧ env[1]? = some (some (.ref 1)) := by
  obtain ⟨t, b', d, ht, hd, hb', e⟩ := pick_b b hb [] [.int (-1), .non, .bl true, .int 13] (by decide) (by decide)
  have ei : mSeqI (mTup (mCons (mCall phi__law_pick (mCons (mV 1) (mCons (mLst (mCons (mUn pNeg (mC (.int 1))) (mCons (mC .non) (mCons (mC (.bl true)) (mCons (mC (.int 13)) mNil))))) mNil))) (mCons (mC (.int 13)) mNil))) (en0 11) (b.h []) =
      .ok (plV [d, .int 13], 2) (b'.h [.lst [.int (-1), .non, .bl true, .int 13]]) := by
    have e1 : mCall phi__law_pick (mCons (mV 1) (mCons (mLst (mCons (mUn pNeg (mC (.int 1))) (mCons (mC .non) (mCons (mC (.bl true)) (mCons (mC (.int 13)) mNil))))) mNil)) (en0 11) (b.h []) = .ok d (b'.h [.lst [.int (-1), .non, .bl true, .int 13]]) :=
      c_call (c_cons (e_v rfl) (c_cons (d := .ref 2) (h2 := b.h [.lst [.int (-1), .non, .bl true, .int 13]]) (h1 := b.h [.lst [.int (-1), .non, .bl true, .int 13]]) rfl c_nil)) e
    unfold mSeqI mTup
    rw [c_cons e1 (c_cons rfl c_nil)]
    rfl
  have key : ∃ env, m__law_second_7 (en0 11) (b.h []) = .nx env (b'.h [.lst [.int (-1), .non, .bl true, .int 13]]) ∧ env.length = 13 ∧ env[1]? = some (some (.ref 1)) := by
    unfold m__law_second_7 mFor
    rw [ei]
    dsimp only [R.bindS]
    have ht4 : t < 4 := ht
    rcases (by omega : t = 0 ∨ t = 1 ∨ t = 2 ∨ t = 3) with rfl | rfl | rfl | rfl <;> cases hd <;> exact ⟨[none, some (.ref 1), none, none, none, none, none, none, none, none, none, none, some (.int 13)], by kernel_rfl, rfl, rfl⟩
  obtain ⟨env, k1, k2, k3⟩ := key
  exact ⟨env, _, b', hb', k1, k2, k3⟩
theorem second_8 (b : Bs) (hb : b.ok) : ∃ h', m__law_second_8 (en0 11) (b.h []) = .rt (.bl true) h' := by
  obtain ⟨t, b', d, ht, hd, hb', e⟩ := pick_b b hb [] [.int 1, .int 4, .int 9, .int 11, .non, .bl true, .tup [.int 2]] (by decide) (by decide)
  have e1 : mCall phi__law_pick (mCons (mV 1) (mCons (mLst (mCons (mC (.int 1)) (mCons (mC (.int 4)) (mCons (mC (.int 9)) (mCons (mC (.int 11)) (mCons (mC .non) (mCons (mC (.bl true)) (mCons (mTup (mCons (mC (.int 2)) mNil)) mNil)))))))) mNil)) (en0 11) (b.h []) = .ok d (b'.h [.lst [.int 1, .int 4, .int 9, .int 11, .non, .bl true, .tup [.int 2]]]) :=
    c_call (c_cons (e_v rfl) (c_cons (d := .ref 2) (h2 := b.h [.lst [.int 1, .int 4, .int 9, .int 11, .non, .bl true, .tup [.int 2]]]) (h1 := b.h [.lst [.int 1, .int 4, .int 9, .int 11, .non, .bl true, .tup [.int 2]]]) rfl c_nil)) e
  have e2 : mCall phi_spaces (mCons (mC (.int 2)) (mCons (mC (.int 1)) (mCons (mCall phi__law_pick (mCons (mV 1) (mCons (mLst (mCons (mC (.int 1)) (mCons (mC (.int 4)) (mCons (mC (.int 9)) (mCons (mC (.int 11)) (mCons (mC .non) (mCons (mC (.bl true)) (mCons (mTup (mCons (mC (.int 2)) mNil)) mNil)))))))) mNil))) mNil))) (en0 11) (b.h []) =
      .ex "BadCount" (b'.h [.lst [.int 1, .int 4, .int 9, .int 11, .non, .bl true, .tup [.int 2]]]) := by
    refine c_call (c_cons rfl (c_cons rfl (c_cons e1 c_nil))) ?_
    have ht7 : t < 7 := ht
    rcases (by omega : t = 0 ∨ t = 1 ∨ t = 2 ∨ t = 3 ∨ t = 4 ∨ t = 5 ∨ t = 6) with rfl | rfl | rfl | rfl | rfl | rfl | rfl <;> cases hd <;> kernel_rfl
  refine ⟨b'.h [.lst [.int 1, .int 4, .int 9, .int 11, .non, .bl true, .tup [.int 2]]], ?_⟩
  unfold m__law_second_8
  refine e_ret (c_bin (h1 := b'.h [.lst [.int 1, .int 4, .int 9, .int 11, .non, .bl true, .tup [.int 2]]]) (dx := .str "bad") ?_ rfl (by kernel_rfl))
  unfold mRef
  rw [e2]
  rfl
theorem law_two : LR__law_second := by
  intro ns hl
  show LR ms__law_second _ (Bs.h ⟨absL ns, 0, 0, 0⟩ [])
  have hb : Bs.ok ⟨absL ns, 0, 0, 0⟩ := Int.le_refl 0
  generalize (⟨absL ns, 0, 0, 0⟩ : Bs) = b at hb
  obtain ⟨t, b1, d, ht, hd, hb1, e1⟩ := pick_b b hb [] [.int 2, .int 3, .int 5, .int 7] (by decide) (by decide)
  obtain ⟨n, b2, hn, hb2, e2⟩ := take_b b1 hb1 (m := 9) (by decide) (by decide)
  obtain ⟨k, b3, hk, hb3, e3⟩ := take_b b2 hb2 (m := 9) (by decide) (by decide)
  obtain ⟨q, hq, rfl⟩ : ∃ q : Nat, (q = 2 ∨ q = 3 ∨ q = 5 ∨ q = 7) ∧ d = .int (q : Int) := by
    have ht4 : t < 4 := ht
    rcases (by omega : t = 0 ∨ t = 1 ∨ t = 2 ∨ t = 3) with rfl | rfl | rfl | rfl <;> cases hd
    · exact ⟨2, by simp, rfl⟩
    · exact ⟨3, by simp, rfl⟩
    · exact ⟨5, by simp, rfl⟩
    · exact ⟨7, by simp, rfl⟩
  have s0 : m__law_second_0 (en0 11) (b.h []) = .nx (CB.e2 q n k) (b3.h [.lst [.int 2, .int 3, .int 5, .int 7]]) := by
    unfold m__law_second_0
    refine (c_par (c_cons (c_call (c_cons (e_v rfl) (c_cons (d := .ref 2) (h2 := b.h [.lst [.int 2, .int 3, .int 5, .int 7]]) (h1 := b.h [.lst [.int 2, .int 3, .int 5, .int 7]]) rfl c_nil)) e1) (c_cons (c_take (env := en0 11) (i := 1) (em := mC (.int 9)) (g := [.lst [.int 2, .int 3, .int 5, .int 7]]) rfl rfl e2) (c_cons (c_take (env := en0 11) (i := 1) (em := mC (.int 9)) (g := [.lst [.int 2, .int 3, .int 5, .int 7]]) rfl rfl e3) c_nil))) rfl).trans ?_
    rfl
  refine LR.fgb s0 (env2 := CB.e2 q n k) (.drop (.box (.keep rfl (.keep rfl (.keep rfl (.drop (.drop (.drop (.drop (.drop (.drop (.drop (.drop .nil))))))))))))) ?_
  refine LR.go (second_1 b3 hq (by omega) (by omega)) ?_
  refine LR.fgb (second_2 b3 hq (by omega)) (env2 := en0 11) (fgt_one rfl rfl) ?_
  obtain ⟨m, b4, hm, hb4, e4⟩ := take_b b3 hb3 (m := 3) (by decide) (by decide)
  have s3 : m__law_second_3 (en0 11) (b3.h []) = .nx [none, some (.ref 1), none, none, none, some (.int (1 + (m : Int))), none, none, none, none, none, none, none] (b4.h []) :=
    e_set (c_bin rfl (c_take (env := en0 11) (i := 1) (em := mC (.int 3)) (g := []) rfl rfl e4) p_add)
  refine LR.go s3 ?_
  obtain ⟨e7, g7, b5, hb5, s7, l7, i7⟩ := second_7 b4 hb4
  have tail : LR [m__law_second_7, m__law_second_8] (en0 11) (b4.h []) := by
    refine LR.fgb s7 (fgt_one (n := 11) l7 i7) ?_
    obtain ⟨h8, e8⟩ := second_8 b5 hb5
    exact LR.fin e8
  rcases (by omega : m = 0 ∨ m = 1 ∨ m = 2) with rfl | rfl | rfl
  · exact LR.go' (by kernel_rfl) (LR.go' (by kernel_rfl) (LR.cut' (n := 11) (b := b4) (g := (hpOf (m__law_second_5 (envOf (m__law_second_4 [none, some (.ref 1), none, none, none, some (.int (1 + ((0 : Nat) : Int))), none, none, none, none, none, none, none] (b4.h []))) (hpOf (m__law_second_4 [none, some (.ref 1), none, none, none, some (.int (1 + ((0 : Nat) : Int))), none, none, none, none, none, none, none] (b4.h []))))).drop 2) (by kernel_rfl) (by kernel_rfl) (by kernel_rfl) (by kernel_rfl) tail))
  · exact LR.go' (by kernel_rfl) (LR.go' (by kernel_rfl) (LR.cut' (n := 11) (b := b4) (g := (hpOf (m__law_second_5 (envOf (m__law_second_4 [none, some (.ref 1), none, none, none, some (.int (1 + ((1 : Nat) : Int))), none, none, none, none, none, none, none] (b4.h []))) (hpOf (m__law_second_4 [none, some (.ref 1), none, none, none, some (.int (1 + ((1 : Nat) : Int))), none, none, none, none, none, none, none] (b4.h []))))).drop 2) (by kernel_rfl) (by kernel_rfl) (by kernel_rfl) (by kernel_rfl) tail))
  · exact LR.go' (by kernel_rfl) (LR.go' (by kernel_rfl) (LR.cut' (n := 11) (b := b4) (g := (hpOf (m__law_second_5 (envOf (m__law_second_4 [none, some (.ref 1), none, none, none, some (.int (1 + ((2 : Nat) : Int))), none, none, none, none, none, none, none] (b4.h []))) (hpOf (m__law_second_4 [none, some (.ref 1), none, none, none, some (.int (1 + ((2 : Nat) : Int))), none, none, none, none, none, none, none] (b4.h []))))).drop 2) (by kernel_rfl) (by kernel_rfl) (by kernel_rfl) (by kernel_rfl) tail))
end CB

set_option maxRecDepth 100000
set_option maxHeartbeats 4000000
namespace CB
open PySem PySem.Spec
open L2
theorem first_2 {n k l : Nat} (b : Bs) (hl : l < 61) : m__law_first_2 [none, some (.ref 1), some (.int (n : Int)), some (.int (k : Int)), some (.int (l : Int)), none, none, none, none, none, none, none, none, none, none, none, none, none] (b.h []) = .nx [none, some (.ref 1), some (.int (n : Int)), some (.int (k : Int)), some (.int (l : Int)), none, none, none, none, none, none, none, none, none, none, none, none, none] (b.h []) := by
  unfold m__law_first_2
  rcases (by omega : l = 0 ∨ l = 1 ∨ l = 2 ∨ l = 3 ∨ l = 4 ∨ l = 5 ∨ l = 6 ∨ l = 7 ∨ l = 8 ∨ l = 9 ∨ l = 10 ∨ l = 11 ∨ l = 12 ∨ l = 13 ∨ l = 14 ∨ l = 15 ∨ l = 16 ∨ l = 17 ∨ l = 18 ∨ l = 19 ∨ l = 20 ∨ l = 21 ∨ l = 22 ∨ l = 23 ∨ l = 24 ∨ l = 25 ∨ l = 26 ∨ l = 27 ∨ l = 28 ∨ l = 29 ∨ l = 30 ∨ l = 31 ∨ l = 32 ∨ l = 33 ∨ l = 34 ∨ l = 35 ∨ l = 36 ∨ l = 37 ∨ l = 38 ∨ l = 39 ∨ l = 40 ∨ l = 41 ∨ l = 42 ∨ l = 43 ∨ l = 44 ∨ l = 45 ∨ l = 46 ∨ l = 47 ∨ l = 48 ∨ l = 49 ∨ l = 50 ∨ l = 51 ∨ l = 52 ∨ l = 53 ∨ l = 54 ∨ l = 55 ∨ l = 56 ∨ l = 57 ∨ l = 58 ∨ l = 59 ∨ l = 60) with rfl | rfl | rfl | rfl | rfl | rfl | rfl | rfl | rfl | rfl | rfl | rfl | rfl | rfl | rfl | rfl | rfl | rfl | rfl | rfl | rfl | rfl | rfl | rfl | rfl | rfl | rfl | rfl | rfl | rfl | rfl | rfl | rfl | rfl | rfl | rfl | rfl | rfl | rfl | rfl | rfl | rfl | rfl | rfl | rfl | rfl | rfl | rfl | rfl | rfl | rfl | rfl | rfl | rfl | rfl | rfl | rfl | rfl | rfl | rfl | rfl <;> kernel_rfl
def rowsG : Hh := (match phi__law_choose_q [.int 12] (Bs.h ⟨[], 0, 0, 0⟩ []) with | .ok _ h => h | _ => []).drop 2
def rowsR : Nat := match phi__law_choose_q [.int 12] (Bs.h ⟨[], 0, 0, 0⟩ []) with | .ok (.ref i) _ => i | _ => 0
theorem eqCq : phi__law_choose_q = fnG 1 5 m__law_choose_q := rfl
theorem rows_eq (b : Bs) : phi__law_choose_q [.int 12] (b.h []) = .ok (.ref rowsR) (b.h rowsG) := by kernel_rfl
abbrev e3 (n k : Nat) : Env' := [none, some (.ref 1), some (.int (n : Int)), some (.int (k : Int)), none, some (.ref rowsR), some (.tup [.int 1]), none, none, none, none, none, none, none, none, none, none, none]
theorem first_3 {n k : Nat} (b : Bs) : m__law_first_3 [none, some (.ref 1), some (.int (n : Int)), some (.int (k : Int)), none, none, none, none, none, none, none, none, none, none, none, none, none, none] (b.h []) = .nx (e3 n k) (b.h rowsG) := by
  unfold m__law_first_3
  exact (c_par (c_cons (c_call (c_cons rfl c_nil) (rows_eq b)) (c_cons rfl c_nil)) rfl).trans rfl
abbrev e4 (n k : Nat) (x : Option D) : Env' := [none, some (.ref 1), some (.int (n : Int)), some (.int (k : Int)), none, some (.ref rowsR), some (.tup (iD (qF.getD n []))), x, none, none, none, none, none, none, none, none, none, none]
theorem first_4 {n k : Nat} (b : Bs) (hn : n < 13) : ∃ x, m__law_first_4 (e3 n k) (b.h rowsG) = .nx (e4 n k x) (b.h rowsG) := by
  unfold m__law_first_4
  rw [eqT]
  rcases (by omega : n = 0 ∨ n = 1 ∨ n = 2 ∨ n = 3 ∨ n = 4 ∨ n = 5 ∨ n = 6 ∨ n = 7 ∨ n = 8 ∨ n = 9 ∨ n = 10 ∨ n = 11 ∨ n = 12) with rfl | rfl | rfl | rfl | rfl | rfl | rfl | rfl | rfl | rfl | rfl | rfl | rfl
  · exact ⟨none, by kernel_rfl⟩
  · exact ⟨some (.int 1), by kernel_rfl⟩
  · exact ⟨some (.int 2), by kernel_rfl⟩
  · exact ⟨some (.int 3), by kernel_rfl⟩
  · exact ⟨some (.int 4), by kernel_rfl⟩
  · exact ⟨some (.int 5), by kernel_rfl⟩
  · exact ⟨some (.int 6), by kernel_rfl⟩
  · exact ⟨some (.int 7), by kernel_rfl⟩
  · exact ⟨some (.int 8), by kernel_rfl⟩
  · exact ⟨some (.int 9), by kernel_rfl⟩
  · exact ⟨some (.int 10), by kernel_rfl⟩
  · exact ⟨some (.int 11), by kernel_rfl⟩
  · exact ⟨some (.int 12), by kernel_rfl⟩
theorem first_5 {n k : Nat} (b : Bs) {x : Option D} (hn : n < 13) (hk : k < 13) : m__law_first_5 (e4 n k x) (b.h rowsG) = .nx (e4 n k x) (b.h rowsG) := by
  unfold m__law_first_5
  rw [eqFc, eqC]
  rcases (by omega : n = 0 ∨ n = 1 ∨ n = 2 ∨ n = 3 ∨ n = 4 ∨ n = 5 ∨ n = 6 ∨ n = 7 ∨ n = 8 ∨ n = 9 ∨ n = 10 ∨ n = 11 ∨ n = 12) with rfl | rfl | rfl | rfl | rfl | rfl | rfl | rfl | rfl | rfl | rfl | rfl | rfl <;> rcases (by omega : k = 0 ∨ k = 1 ∨ k = 2 ∨ k = 3 ∨ k = 4 ∨ k = 5 ∨ k = 6 ∨ k = 7 ∨ k = 8 ∨ k = 9 ∨ k = 10 ∨ k = 11 ∨ k = 12) with rfl | rfl | rfl | rfl | rfl | rfl | rfl | rfl | rfl | rfl | rfl | rfl | rfl <;> kernel_rfl
theorem first_6 {n k : Nat} (b : Bs) {x : Option D} (hn : n < 13) (hk : k < 13) : m__law_first_6 (e4 n k x) (b.h rowsG) = .nx (e4 n k x) (b.h rowsG) := by
  unfold m__law_first_6
  rw [eqT, eqFc, eqC]
  rcases (by omega : n = 0 ∨ n = 1 ∨ n = 2 ∨ n = 3 ∨ n = 4 ∨ n = 5 ∨ n = 6 ∨ n = 7 ∨ n = 8 ∨ n = 9 ∨ n = 10 ∨ n = 11 ∨ n = 12) with rfl | rfl | rfl | rfl | rfl | rfl | rfl | rfl | rfl | rfl | rfl | rfl | rfl <;> rcases (by omega : k = 0 ∨ k = 1 ∨ k = 2 ∨ k = 3 ∨ k = 4 ∨ k = 5 ∨ k = 6 ∨ k = 7 ∨ k = 8 ∨ k = 9 ∨ k = 10 ∨ k = 11 ∨ k = 12) with rfl | rfl | rfl | rfl | rfl | rfl | rfl | rfl | rfl | rfl | rfl | rfl | rfl <;> kernel_rfl
end CB

set_option maxRecDepth 100000
set_option maxHeartbeats 4000000
namespace CB
open PySem PySem.Spec
open L2
abbrev e7 (n k u v : Nat) : Env' := [none, some (.ref 1), some (.int (n : Int)), some (.int (k : Int)), none, none, none, none, some (.int (13 + (u : Int))), some (.int (1 + (v : Int))), none, none, none, none, none, none, none, none]
abbrev e8 (n k u v : Nat) : Env' := [none, some (.ref 1), some (.int (n : Int)), some (.int (k : Int)), none, none, none, none, some (.int (13 + (u : Int))), some (.int (1 + (v : Int))), some (.tup (iD (qC (13 + u) (1 + v)))), none, none, none, none, none, none, none]
theorem first_8 {n k u v : Nat} (b : Bs) (hu : u < 12) (hv : v < 12) : m__law_first_8 (e7 n k u v) (b.h []) = .nx (e8 n k u v) (b.h []) := by
  unfold m__law_first_8
  rw [eqS, eqC]
  rcases (by omega : u = 0 ∨ u = 1 ∨ u = 2 ∨ u = 3 ∨ u = 4 ∨ u = 5 ∨ u = 6 ∨ u = 7 ∨ u = 8 ∨ u = 9 ∨ u = 10 ∨ u = 11) with rfl | rfl | rfl | rfl | rfl | rfl | rfl | rfl | rfl | rfl | rfl | rfl <;> rcases (by omega : v = 0 ∨ v = 1 ∨ v = 2 ∨ v = 3 ∨ v = 4 ∨ v = 5 ∨ v = 6 ∨ v = 7 ∨ v = 8 ∨ v = 9 ∨ v = 10 ∨ v = 11) with rfl | rfl | rfl | rfl | rfl | rfl | rfl | rfl | rfl | rfl | rfl | rfl <;> kernel_rfl
theorem first_9 {n k u v : Nat} (b : Bs) (hu : u < 12) (hv : v < 12) : m__law_first_9 (e8 n k u v) (b.h []) = .nx (e8 n k u v) (b.h []) := by
  unfold m__law_first_9
  rw [eqC]
  rcases (by omega : u = 0 ∨ u = 1 ∨ u = 2 ∨ u = 3 ∨ u = 4 ∨ u = 5 ∨ u = 6 ∨ u = 7 ∨ u = 8 ∨ u = 9 ∨ u = 10 ∨ u = 11) with rfl | rfl | rfl | rfl | rfl | rfl | rfl | rfl | rfl | rfl | rfl | rfl <;> rcases (by omega : v = 0 ∨ v = 1 ∨ v = 2 ∨ v = 3 ∨ v = 4 ∨ v = 5 ∨ v = 6 ∨ v = 7 ∨ v = 8 ∨ v = 9 ∨ v = 10 ∨ v = 11) with rfl | rfl | rfl | rfl | rfl | rfl | rfl | rfl | rfl | rfl | rfl | rfl <;> kernel_rfl
theorem first_10 {n k u v : Nat} (b : Bs) (hu : u < 12) : m__law_first_10 (e8 n k u v) (b.h []) = .nx (e8 n k u v) (b.h []) := by
  unfold m__law_first_10
  rw [eqC]
  rcases (by omega : u = 0 ∨ u = 1 ∨ u = 2 ∨ u = 3 ∨ u = 4 ∨ u = 5 ∨ u = 6 ∨ u = 7 ∨ u = 8 ∨ u = 9 ∨ u = 10 ∨ u = 11) with rfl | rfl | rfl | rfl | rfl | rfl | rfl | rfl | rfl | rfl | rfl | rfl <;> kernel_rfl

/-! ## a list of draws -/
theorem goC_take {env : Env'} {s n : Nat} {m : EM} {g : Hh} {Pr : Int → Prop} (hm : ∀ (i : Nat) (b : Bs), b.ok → ∃ (a : Int) (b' : Bs), b'.ok ∧ Pr a ∧ m (apE [(s, .int (i : Int))] env) (b.h g) = .ok (.int a) (b'.h g)) :
    ∀ (fuel i : Nat) (b : Bs) (acc : List D), b.ok → n - i < fuel → i ≤ n → acc.length + (n - i) ≤ LN → ∃ (l : List Int) (b' : Bs), b'.ok ∧ l.length = n - i ∧ (∀ a ∈ l, Pr a) ∧
      goC (plR 0 1 n) env (kN s) (mC (.bl true)) m fuel i (b.h g) acc = .ok (.ref (g.length + 2)) (b'.h (g ++ [.lst (acc ++ iD l)]))
  | 0, i, b, acc, _, h, _, _ => by omega
  | fuel + 1, i, b, acc, hb, h1, h2, h3 => by
    unfold goC
    by_cases hi : i < n
    · rw [rng_item hi]
      have hLN : acc.length < LN := by omega
      obtain ⟨a, b', hb', hP, e⟩ := hm i b hb
      obtain ⟨l, b2, hb2, hl, hall, e2⟩ := goC_take (n := n) hm fuel (i + 1) b' (acc ++ [.int a]) hb' (by omega) (by omega) (by rw [List.length_append, List.length_singleton]; omega)
      refine ⟨a :: l, b2, hb2, by rw [List.length_cons, hl]; omega, fun z hz => ?_, ?_⟩
      · rcases List.mem_cons.mp hz with q | q
        · rw [q]; exact hP
        · exact hall z q
      · dsimp only [kN, mC]
        rw [e]
        dsimp only
        rw [if_pos hLN]
        have e3 := e2
        unfold mC at e3
        rw [show (acc ++ [D.int a]) ++ iD l = acc ++ iD (a :: l) from by rw [List.append_assoc]; rfl] at e3
        exact e3
    · have e : i = n := by omega
      subst e
      rw [rng_stop]
      refine ⟨[], b, hb, by simp, (fun a h => by cases h), ?_⟩
      show R.ok (D.ref (g.length + 1 + 1)) _ = _
      congr 1
      simp [Bs.h, bxH]
theorem evP_snoc (q a : Int) : ∀ l : List Int, evP q (l ++ [a]) = evP q l + a * q ^ l.length
  | [] => by simp [evP]
  | b :: l => by
    show b + q * evP q (l ++ [a]) = (b + q * evP q l) + a * q ^ (l.length + 1)
    rw [evP_snoc q a l, Int.pow_succ]
    grind
abbrev e12 (n k : Nat) (q : Int) (f : List Int) : Env' := [none, some (.ref 1), some (.int (n : Int)), some (.int (k : Int)), none, none, none, none, none, none, none, some (.int q), some (.tup (iD f)), none, none, none, none, none]
abbrev e13 (n k : Nat) (q : Int) (f : List Int) (x y : Int) (z : Option D) : Env' := [none, some (.ref 1), some (.int (n : Int)), some (.int (k : Int)), none, none, none, none, none, none, none, some (.int q), some (.tup (iD f)), some (.int x), some (.int y), z, none, none]
theorem first_14 {n k : Nat} {q : Int} {f : List Int} (b : Bs) (hq : q.natAbs < 18446744073709551616) (hf : small f) (hl : f.length ≤ 1000) : ∃ z y, m__law_first_14 (e13 n k q f 0 1 none) (b.h []) = .nx (e13 n k q f (evP q f) y z) (b.h []) := by
  obtain ⟨env', h', e, z, rfl, rfl⟩ := goF_inv (pl := plV (iD f)) (b := bN 15) (m := mPar [13, 14] (mCons (mBin pAdd (mV 13) (mBin pMul (mV 15) (mV 14))) (mCons (mBin pMul (mV 14) (mV 11)) mNil))) (n := f.length)
    (Inv := fun j env h => ∃ z, env = e13 n k q f (evP q (f.take j)) (q ^ j) z ∧ h = b.h [])
    (fun j env h hj ⟨z, e1, e2⟩ => by
      subst e1; subst e2
      have m1 : mulOk (f.getD j 0) (q ^ j) = true := by
        unfold mulOk
        rw [show Nat.blt (f.getD j 0).natAbs 18446744073709551616 = true from by rw [Nat.blt_eq]; exact hf _ (get_mem hj), Bool.true_or]
      refine ⟨_, _, _, _, _, plV_item hj, rfl, c_par (c_cons (c_bin rfl (c_bin rfl rfl (p_mul m1)) p_add) (c_cons (c_bin rfl rfl (p_mul (mul_small hq))) c_nil)) rfl, some (.int (f.getD j 0)), ?_, rfl⟩
      have e3 : evP q (f.take (j + 1)) = evP q (f.take j) + f.getD j 0 * q ^ j := by
        rw [List.take_add_one, List.getElem?_eq_getElem hj, show (some f[j]).toList = [f[j]] from rfl, evP_snoc, List.length_take, show min j f.length = j by omega, List.getD_eq_getElem?_getD, List.getElem?_eq_getElem hj]
        rfl
      rw [e3, Int.pow_succ]
      rfl)
    (fun env h _ => plV_stop) (f.length + 1) 0 (e13 n k q f 0 1 none) (b.h []) (by omega) (by omega) ⟨none, by rw [List.take_zero, Int.pow_zero]; rfl, rfl⟩
  refine ⟨z, q ^ f.length, ?_⟩
  rw [List.take_length] at e
  have ep : mSeqI (mV 12) (e13 n k q f 0 1 none) (b.h []) = .ok (plV (iD f), f.length) (b.h []) := by
    show (R.ok (plV (iD f), (iD f).length) (b.h []) : R (Plan × Nat)) = _
    rw [List.length_map]
  unfold m__law_first_14 mFor
  rw [ep]
  exact e
theorem choose_one : ((List.range 13).all fun n => (List.range 13).all fun k => isInt (evP 1 (qC n k)) (phi__law_choose [.int (n : Int), .int (k : Int)] [])) = true := by kernel_rfl
theorem first_15 {n k : Nat} {q y : Int} {f : List Int} {z : Option D} (b : Bs) (hn : n < 13) (hk : k < 13) (hq : q.natAbs < 18446744073709551616) (hf : okP f) (hl : f.length ≤ 1000) : m__law_first_15 (e13 n k q f (evP q f) y z) (b.h []) = .nx (e13 n k q f (evP q f) y z) (b.h []) := by
  have ne : ∀ (a : Int) (h : Hh), pNe (.int a) (.int a) h = .ok (.bl false) h := fun a h => by
    show R.ok (D.bl (!(a == a))) h = _
    rw [beq_self_eq_true]
    rfl
  have c1 : mBin pNe (mCall phi_q_worth (mCons (mV 12) (mCons (mV 11) mNil))) (mV 13) (e13 n k q f (evP q f) y z) (b.h []) = .ok (.bl false) (b.h []) := e_bin (c_call (c_cons rfl (c_cons rfl c_nil)) (worthP hf hl hq)) rfl (ne _ _)
  have c2 : mBin pNe (mCall phi_q_worth (mCons (mTup mNil) (mCons (mV 11) mNil))) (mC (.int 0)) (e13 n k q f (evP q f) y z) (b.h []) = .ok (.bl false) (b.h []) := e_bin (c_call (c_cons rfl (c_cons rfl c_nil)) (worthP (f := []) (fun h => absurd rfl h) (by simp) hq)) rfl (ne _ _)
  have ok := List.all_eq_true.mp (List.all_eq_true.mp qC_okP n (List.mem_range.mpr hn)) k (List.mem_range.mpr hk)
  rw [Bool.and_eq_true, Nat.ble_eq] at ok
  have c3 : mBin pNe (mCall phi_q_worth (mCons (mCall phi_q_choose (mCons (mV 2) (mCons (mV 3) mNil))) (mCons (mC (.int 1)) mNil))) (mCall phi__law_choose (mCons (mV 2) (mCons (mV 3) mNil))) (e13 n k q f (evP q f) y z) (b.h []) = .ok (.bl false) (b.h []) :=
    e_bin (c_call (c_cons (c_call (c_cons rfl (c_cons rfl c_nil)) (q_choose_ok (by omega) (by omega))) (c_cons rfl c_nil)) (worthP (okPB_ok ok.1) ok.2 (by decide)))
      (c_call (c_cons rfl (c_cons rfl c_nil)) (fnP_h (b.h []) ⟨rfl, rfl⟩ (isInt_ok (List.all_eq_true.mp (List.all_eq_true.mp choose_one n (List.mem_range.mpr hn)) k (List.mem_range.mpr hk))))) (ne _ _)
  unfold m__law_first_15
  refine e_if0 ?_
  rw [e_or c1, if_neg (by decide), e_or c2, if_neg (by decide)]
  exact c3
end CB

set_option maxRecDepth 100000
set_option maxHeartbeats 4000000
namespace CB
open PySem PySem.Spec
open L2
theorem c_lcT {env : Env'} {s m : Nat} {em : EM} {b b1 : Bs} {g : Hh} {vs : List Nat} {mn : AM} {Pr : Int → Prop} (hn : mn env (b.h g) = .ok [.int (m : Int)] (b1.h g)) (hm1 : m ≤ 1000) (hb1 : b1.ok)
    (hm : ∀ (i : Nat) (b : Bs), b.ok → ∃ (a : Int) (b' : Bs), b'.ok ∧ Pr a ∧ em (apE [(s, .int (i : Int))] (wipeE env vs)) (b.h g) = .ok (.int a) (b'.h g)) :
    ∃ (l : List Int) (b' : Bs), b'.ok ∧ l.length = m ∧ (∀ a ∈ l, Pr a) ∧ mLc (mRng1 mn) vs (kN s) (mC (.bl true)) em env (b.h g) = .ok (.ref (g.length + 2)) (b'.h (g ++ [.lst (iD l)])) := by
  obtain ⟨l, b', hb', hl, hall, e⟩ := goC_take (n := m) hm (m + 1) 0 b1 [] hb1 (by omega) (by omega) (by show 0 + (m - 0) ≤ 16777216; omega)
  refine ⟨l, b', hb', hl, hall, ?_⟩
  unfold mLc mRng1
  rw [hn]
  dsimp only [R.bind]
  rw [if_pos (show rngOk (m : Int) = true from by unfold rngOk; rw [Nat.blt_eq]; omega)]
  exact e

theorem seq2 {a : EM} {env : Env'} {h h1 : Hh} {d d2 : D} (ha : a env h = .ok d h1) : mSeqI (mTup (mCons a (mCons (mC d2) mNil))) env h = .ok (plV [d, d2], 2) h1 := by
  unfold mSeqI mTup
  rw [c_cons ha (c_cons rfl c_nil)]
  rfl
theorem lst1 {a : EM} {env : Env'} {h h1 : Hh} {d : D} (ha : a env h = .ok d h1) : mLst (mCons a mNil) env h = .ok (.ref h1.length) (h1 ++ [.lst [d]]) := by
  unfold mLst
  rw [c_cons ha c_nil]
  rfl
theorem first_12 {n k t : Nat} {q : Int} {l : List Int} (b b' : Bs) (hl : l.length ≤ 1000)
    (e : ∀ g, fTake [.ref 1, .int 3] (b.h g) = .ok (.int (t : Int)) (b'.h g)) : m__law_first_12 [none, some (.ref 1), some (.int (n : Int)), some (.int (k : Int)), none, none, none, none, none, none, none, some (.int q), some (.ref 2), none, none, none, none, none] (b.h [.lst (iD l)]) =
      .nx (e12 n k q (l ++ [1 + (t : Int)])) (b'.h [.lst (iD l), .lst [.int (1 + (t : Int))], .lst (iD (l ++ [1 + (t : Int)]))]) := by
  unfold m__law_first_12
  have c1 : mLst (mCons (mBin pAdd (mC (.int 1)) (mCall phi__law_take (mCons (mV 1) (mCons (mC (.int 3)) mNil)))) mNil) [none, some (.ref 1), some (.int (n : Int)), some (.int (k : Int)), none, none, none, none, none, none, none, some (.int q), some (.ref 2), none, none, none, none, none] (b.h [.lst (iD l)]) =
      .ok (.ref 3) (b'.h [.lst (iD l), .lst [.int (1 + (t : Int))]]) := by
    exact lst1 (h1 := b'.h [.lst (iD l)]) (c_bin rfl (c_take (env := [none, some (.ref 1), some (.int (n : Int)), some (.int (k : Int)), none, none, none, none, none, none, none, some (.int q), some (.ref 2), none, none, none, none, none]) (i := 1) (em := mC (.int 3)) (g := [.lst (iD l)]) rfl rfl e) p_add)
  have c2 : pAdd (.ref 2) (.ref 3) (b'.h [.lst (iD l), .lst [.int (1 + (t : Int))]]) = .ok (.ref 4) (b'.h [.lst (iD l), .lst [.int (1 + (t : Int))], .lst (iD (l ++ [1 + (t : Int)]))]) := by
    show (if (iD l).length + 1 ≤ LN then R.ok (D.ref 4) (b'.h [.lst (iD l), .lst [.int (1 + (t : Int))], .lst (iD l ++ [.int (1 + (t : Int))])]) else R.no) = _
    rw [if_pos (by rw [List.length_map]; show l.length + 1 ≤ 16777216; omega), show iD (l ++ [1 + (t : Int)]) = iD l ++ [.int (1 + (t : Int))] from List.map_append]
  exact e_set (c_call (c_cons (c_bin rfl c1 c2) c_nil) rfl)
theorem first_16 (b : Bs) (hb : b.ok) : ∃ (env : Env') (g : Hh) (b' : Bs), b'.ok ∧ m__law_first_16 (en0 16) (b.h []) = .nx env (b'.h g) ∧ env.length = 18 ∧ env[1]? = some (some (.ref 1)) := by
  obtain ⟨t, b', d, ht, hd, hb', e⟩ := pick_b b hb [] [.int (-1), .non, .bl true, .tup [.int 1], .int 61] (by decide) (by decide)
  have ei : mSeqI (mTup (mCons (mCall phi__law_pick (mCons (mV 1) (mCons (mLst (mCons (mUn pNeg (mC (.int 1))) (mCons (mC .non) (mCons (mC (.bl true)) (mCons (mTup (mCons (mC (.int 1)) mNil)) (mCons (mC (.int 61)) mNil)))))) mNil))) (mCons (mC (.int 61)) mNil))) (en0 16) (b.h []) =
      .ok (plV [d, .int 61], 2) (b'.h [.lst [.int (-1), .non, .bl true, .tup [.int 1], .int 61]]) := by
    have e1 : mCall phi__law_pick (mCons (mV 1) (mCons (mLst (mCons (mUn pNeg (mC (.int 1))) (mCons (mC .non) (mCons (mC (.bl true)) (mCons (mTup (mCons (mC (.int 1)) mNil)) (mCons (mC (.int 61)) mNil)))))) mNil)) (en0 16) (b.h []) = .ok d (b'.h [.lst [.int (-1), .non, .bl true, .tup [.int 1], .int 61]]) :=
      c_call (c_cons (e_v rfl) (c_cons (d := .ref 2) (h2 := b.h [.lst [.int (-1), .non, .bl true, .tup [.int 1], .int 61]]) (h1 := b.h [.lst [.int (-1), .non, .bl true, .tup [.int 1], .int 61]]) rfl c_nil)) e
    exact seq2 e1
  have key : ∃ env, m__law_first_16 (en0 16) (b.h []) = .nx env (b'.h [.lst [.int (-1), .non, .bl true, .tup [.int 1], .int 61]]) ∧ env.length = 18 ∧ env[1]? = some (some (.ref 1)) := by
    unfold m__law_first_16 mFor
    rw [ei]
    dsimp only [R.bindS]
    have ht4 : t < 5 := ht
    rcases (by omega : t = 0 ∨ t = 1 ∨ t = 2 ∨ t = 3 ∨ t = 4) with rfl | rfl | rfl | rfl | rfl <;> cases hd <;> exact ⟨[none, some (.ref 1), none, none, none, none, none, none, none, none, none, none, none, none, none, none, some (.int 61), none], by kernel_rfl, rfl, rfl⟩
  obtain ⟨env, k1, k2, k3⟩ := key
  exact ⟨env, _, b', hb', k1, k2, k3⟩
theorem first_17 (b : Bs) : m__law_first_17 (en0 16) (b.h []) = .nx (en0 16) (b.h []) := by kernel_rfl
theorem first_18 (b : Bs) : m__law_first_18 (en0 16) (b.h []) = .nx (en0 16) (b.h []) := by kernel_rfl
abbrev menu19 : List D := [.tup [.int 0], .tup [.int 1, .int 0], .ref 2, .non, .tup [.bl true], .tup [.tup [.int 1, .int 1]]]
abbrev e19 (d : D) : Env' := [none, some (.ref 1), none, none, none, none, none, none, none, none, none, none, none, none, none, none, some d, none]
theorem first_19 (b : Bs) (hb : b.ok) : ∃ (t : Nat) (d : D) (b' : Bs), t < 6 ∧ menu19[t]? = some d ∧ b'.ok ∧ m__law_first_19 (en0 16) (b.h []) = .nx (e19 d) (b'.h [.lst [.int 1], .lst menu19]) := by
  obtain ⟨t, b', d, ht, hd, hb', e⟩ := pick_b b hb [.lst [.int 1]] menu19 (by decide) (by decide)
  refine ⟨t, d, b', ht, hd, hb', ?_⟩
  unfold m__law_first_19
  exact e_set (c_call (c_cons (e_v rfl) (c_cons (d := .ref 3) (h2 := b.h [.lst [.int 1], .lst menu19]) (h1 := b.h [.lst [.int 1], .lst menu19]) rfl c_nil)) e)
theorem first_20 {t : Nat} {d : D} (b : Bs) (ht : t < 6) (hd : menu19[t]? = some d) : m__law_first_20 (e19 d) (b.h [.lst [.int 1], .lst menu19]) = .nx (e19 d) (b.h [.lst [.int 1], .lst menu19]) := by
  rcases (by omega : t = 0 ∨ t = 1 ∨ t = 2 ∨ t = 3 ∨ t = 4 ∨ t = 5) with rfl | rfl | rfl | rfl | rfl | rfl <;> cases hd <;> kernel_rfl
theorem first_21 (b : Bs) (hb : b.ok) : ∃ h', m__law_first_21 (en0 16) (b.h []) = .rt (.bl true) h' := by
  obtain ⟨t, b', d, ht, hd, hb', e⟩ := pick_b b hb [] [.bl true, .non] (by decide) (by decide)
  have e1 : mCall phi__law_pick (mCons (mV 1) (mCons (mLst (mCons (mC (.bl true)) (mCons (mC .non) mNil))) mNil)) (en0 16) (b.h []) = .ok d (b'.h [.lst [.bl true, .non]]) :=
    c_call (c_cons (e_v rfl) (c_cons (d := .ref 2) (h2 := b.h [.lst [.bl true, .non]]) (h1 := b.h [.lst [.bl true, .non]]) rfl c_nil)) e
  have e2 : mCall phi_q_worth (mCons (mTup (mCons (mC (.int 1)) mNil)) (mCons (mCall phi__law_pick (mCons (mV 1) (mCons (mLst (mCons (mC (.bl true)) (mCons (mC .non) mNil))) mNil))) mNil)) (en0 16) (b.h []) =
      .ex "BadCount" (b'.h [.lst [.bl true, .non]]) := by
    refine c_call (c_cons rfl (c_cons e1 c_nil)) ?_
    have ht2 : t < 2 := ht
    rcases (by omega : t = 0 ∨ t = 1) with rfl | rfl <;> cases hd <;> kernel_rfl
  refine ⟨b'.h [.lst [.bl true, .non]], ?_⟩
  unfold m__law_first_21
  refine e_ret (c_bin (h1 := b'.h [.lst [.bl true, .non]]) (dx := .str "bad") ?_ rfl (by kernel_rfl))
  unfold mRef
  rw [e2]
  rfl

theorem law_one : LR__law_first := by
  intro ns hl
  show LR ms__law_first (en0 16) (Bs.h ⟨absL ns, 0, 0, 0⟩ [])
  have hb : Bs.ok ⟨absL ns, 0, 0, 0⟩ := Int.le_refl 0
  generalize (⟨absL ns, 0, 0, 0⟩ : Bs) = b at hb
  obtain ⟨n, b1, hn, hb1, e1⟩ := take_b b hb (m := 13) (by decide) (by decide)
  obtain ⟨k, b2, hk, hb2, e2⟩ := take_b b1 hb1 (m := 13) (by decide) (by decide)
  have s0 : m__law_first_0 (en0 16) (b.h []) = .nx [none, some (.ref 1), some (.int (n : Int)), some (.int (k : Int)), none, none, none, none, none, none, none, none, none, none, none, none, none, none] (b2.h []) := by
    unfold m__law_first_0
    exact (c_par (c_cons (c_take (env := en0 16) (i := 1) (em := mC (.int 13)) (g := []) rfl rfl e1) (c_cons (c_take (env := en0 16) (i := 1) (em := mC (.int 13)) (g := []) rfl rfl e2) c_nil)) rfl).trans rfl
  refine LR.go s0 ?_
  obtain ⟨l, b3, hl3, hb3, e3⟩ := take_b b2 hb2 (m := 61) (by decide) (by decide)
  have s1 : m__law_first_1 [none, some (.ref 1), some (.int (n : Int)), some (.int (k : Int)), none, none, none, none, none, none, none, none, none, none, none, none, none, none] (b2.h []) = .nx [none, some (.ref 1), some (.int (n : Int)), some (.int (k : Int)), some (.int (l : Int)), none, none, none, none, none, none, none, none, none, none, none, none, none] (b3.h []) :=
    e_set (c_take (env := [none, some (.ref 1), some (.int (n : Int)), some (.int (k : Int)), none, none, none, none, none, none, none, none, none, none, none, none, none, none]) (i := 1) (em := mC (.int 61)) (g := []) rfl rfl e3)
  refine LR.go s1 ?_
  refine LR.fgb (first_2 b3 (by omega)) (env2 := [none, some (.ref 1), some (.int (n : Int)), some (.int (k : Int)), none, none, none, none, none, none, none, none, none, none, none, none, none, none]) (.drop (.box (.keep rfl (.keep rfl fgt_none)))) ?_
  refine LR.go (first_3 b3) ?_
  obtain ⟨x, e4⟩ := first_4 (k := k) b3 (show n < 13 by omega)
  refine LR.go e4 ?_
  refine LR.go (first_5 b3 (by omega) (by omega)) ?_
  refine LR.fgb (first_6 b3 (by omega) (by omega)) (env2 := [none, some (.ref 1), some (.int (n : Int)), some (.int (k : Int)), none, none, none, none, none, none, none, none, none, none, none, none, none, none]) (.drop (.box (.keep rfl (.keep rfl fgt_none)))) ?_
  obtain ⟨u, b4, hu, hb4, e5⟩ := take_b b3 hb3 (m := 12) (by decide) (by decide)
  obtain ⟨v, b5, hv, hb5, e6⟩ := take_b b4 hb4 (m := 12) (by decide) (by decide)
  have s7 : m__law_first_7 [none, some (.ref 1), some (.int (n : Int)), some (.int (k : Int)), none, none, none, none, none, none, none, none, none, none, none, none, none, none] (b3.h []) = .nx (e7 n k u v) (b5.h []) := by
    unfold m__law_first_7
    exact (c_par (c_cons (c_bin rfl (c_take (env := [none, some (.ref 1), some (.int (n : Int)), some (.int (k : Int)), none, none, none, none, none, none, none, none, none, none, none, none, none, none]) (i := 1) (em := mC (.int 12)) (g := []) rfl rfl e5) p_add) (c_cons (c_bin rfl (c_take (env := [none, some (.ref 1), some (.int (n : Int)), some (.int (k : Int)), none, none, none, none, none, none, none, none, none, none, none, none, none, none]) (i := 1) (em := mC (.int 12)) (g := []) rfl rfl e6) p_add) c_nil)) rfl).trans rfl
  refine LR.go s7 ?_
  refine LR.go (first_8 b5 (by omega) (by omega)) ?_
  refine LR.go (first_9 b5 (by omega) (by omega)) ?_
  refine LR.fgb (first_10 b5 (by omega)) (env2 := [none, some (.ref 1), some (.int (n : Int)), some (.int (k : Int)), none, none, none, none, none, none, none, none, none, none, none, none, none, none]) (.drop (.box (.keep rfl (.keep rfl fgt_none)))) ?_
  obtain ⟨t, b6, ht, hb6, e7'⟩ := take_b b5 hb5 (m := 9) (by decide) (by decide)
  obtain ⟨m, b7, hm, hb7, e8'⟩ := take_b b6 hb6 (m := 6) (by decide) (by decide)
  obtain ⟨f, b8, hb8, hf, hall, e9⟩ := c_lcT (env := [none, some (.ref 1), some (.int (n : Int)), some (.int (k : Int)), none, none, none, none, none, none, none, none, none, none, none, none, none, none]) (s := 17) (m := m) (b := b6) (b1 := b7) (g := []) (vs := [17]) (mn := mCons (mCall phi__law_take (mCons (mV 1) (mCons (mC (.int 6)) mNil))) mNil)
    (em := mBin pSub (mCall phi__law_take (mCons (mV 1) (mCons (mC (.int 7)) mNil))) (mC (.int 3))) (Pr := fun a => a.natAbs < 18446744073709551616)
    (c_cons (c_take (env := [none, some (.ref 1), some (.int (n : Int)), some (.int (k : Int)), none, none, none, none, none, none, none, none, none, none, none, none, none, none]) (i := 1) (em := mC (.int 6)) (g := []) rfl rfl e8') c_nil) (by omega) hb7
    (fun i b hb => by
      obtain ⟨a, b', ha, hb', ea⟩ := take_b b hb (m := 7) (by decide) (by decide)
      exact ⟨(a : Int) - 3, b', hb', by omega, c_bin (c_take (i := 1) (em := mC (.int 7)) (g := []) rfl rfl ea) rfl p_sub⟩)
  have s11 : m__law_first_11 [none, some (.ref 1), some (.int (n : Int)), some (.int (k : Int)), none, none, none, none, none, none, none, none, none, none, none, none, none, none] (b5.h []) =
      .nx [none, some (.ref 1), some (.int (n : Int)), some (.int (k : Int)), none, none, none, none, none, none, none, some (.int ((t : Int) - 4)), some (.ref 2), none, none, none, none, none] (b8.h [.lst (iD f)]) := by
    unfold m__law_first_11
    exact (c_par (c_cons (c_bin (c_take (env := [none, some (.ref 1), some (.int (n : Int)), some (.int (k : Int)), none, none, none, none, none, none, none, none, none, none, none, none, none, none]) (i := 1) (em := mC (.int 9)) (g := []) rfl rfl e7') rfl p_sub) (c_cons e9 c_nil)) rfl).trans rfl
  refine LR.go s11 ?_
  obtain ⟨z, b9, hz, hb9, e10⟩ := take_b b8 hb8 (m := 3) (by decide) (by decide)
  have hg : f.length ≤ 6 := by omega
  refine LR.fgb (first_12 b8 b9 (by omega) e10) (env2 := e12 n k ((t : Int) - 4) (f ++ [1 + (z : Int)])) (.drop (.box (.keep rfl (.keep rfl (.drop (.drop (.drop (.drop (.drop (.drop (.drop (.keep rfl (.keep (rf_tup _) fgt_none))))))))))))) ?_
  have gs : small (f ++ [1 + (z : Int)]) := fun a ha => by
    rcases List.mem_append.mp ha with q | q
    · exact hall a q
    · rw [List.mem_singleton.mp q]; omega
  have go : okP (f ++ [1 + (z : Int)]) := fun h => by
    rw [List.getLast_concat]; omega
  have gl : (f ++ [1 + (z : Int)]).length ≤ 1000 := by rw [List.length_append, List.length_singleton]; omega
  generalize f ++ [1 + (z : Int)] = g at gs go gl
  have s13 : m__law_first_13 (e12 n k ((t : Int) - 4) g) (b9.h []) = .nx (e13 n k ((t : Int) - 4) g 0 1 none) (b9.h []) := rfl
  refine LR.go s13 ?_
  obtain ⟨w, y, e14⟩ := first_14 (n := n) (k := k) (q := (t : Int) - 4) b9 (by omega) gs gl
  refine LR.go e14 ?_
  refine LR.fgb (first_15 b9 (by omega) (by omega) (by omega) go gl) (env2 := en0 16) (fgt_one rfl rfl) ?_
  obtain ⟨e16, g16, b10, hb10, s16, l16, i16⟩ := first_16 b9 hb9
  refine LR.fgb s16 (env2 := en0 16) (fgt_one l16 i16) ?_
  refine LR.go (first_17 b10) ?_
  refine LR.go (first_18 b10) ?_
  obtain ⟨r, d, b11, hr, hd, hb11, s19⟩ := first_19 b10 hb10
  refine LR.go s19 ?_
  refine LR.fgb (first_20 b11 hr hd) (env2 := en0 16) (fgt_one rfl rfl) ?_
  obtain ⟨h21, e21⟩ := first_21 b11 hb11
  exact LR.fin e21
end CB

set_option maxRecDepth 100000
namespace CB
end CB
open PySem PySem.W PyProof.Rows
set_option maxHeartbeats 0 in
theorem PySem.Challenge.cw_countbook_k86_numbers_in_q_and_spaces_holds : PySem.Challenge.rw_countbook_k86_numbers_in_q_and_spaces.Holds := by
  w_on; o_law; k_head; (case hw => w_witness2)
  k_fill
  refine LamX.walk_ofTs (l := PySem.Challenge.rw_countbook_k86_numbers_in_q_and_spaces) (n := 63) (k := 8) (x := "script") (CX := fun w => L2.CX PySem.Challenge.pw_countbook_k86_numbers_in_q_and_spaces w) rfl (by decide) rfl ⟨rfl, by decide, by decide⟩ (fun w h Y => km_in_of Y) ?F (fun _ _ _ _ _ ⟨_, _, _, _, _, _, _, _, _, _, _, _, z⟩ => z)
  case F =>
    intro w mg fa h Y KX G hmg
    have hT8 := km_tabs_of Y
    refine' CB.all_mk KX G hmg ?a0 ?l0 ?e0 ?k0 ?a1 ?l1 ?e1 ?k1 ?a2 ?l2 ?e2 ?k2 ?a3 ?l3 ?e3 ?k3 ?a4 ?l4 ?e4 ?k4 ?a5 ?l5 ?e5 ?k5 ?a6 ?l6 ?e6 ?k6 ?a7 ?l7 ?e7 ?k7 ?a8 ?l8 ?e8 ?k8 ?a9 ?l9 ?e9 ?k9 ?a10 ?l10 ?e10 ?k10 ?a11 ?l11 ?e11 ?k11 ?a12 ?l12 ?e12 ?k12 ?a13 ?l13 ?e13 ?k13 ?a14 ?l14 ?e14 ?k14 ?a15 ?l15 ?e15 ?k15 ?a16 ?l16 ?e16 ?k16 ?a17 ?l17 ?e17 ?k17 ?a18 ?l18 ?e18 ?k18 ?a19 ?l19 ?e19 ?k19 ?a20 ?l20 ?e20 ?k20 ?a21 ?l21 ?e21 ?k21 ?lc21 ?p21 ?ch21 ?n21 ?h21 ?a22 ?l22 ?e22 ?k22 ?a23 ?l23 ?e23 ?k23 ?a24 ?l24 ?e24 ?k24 ?a25 ?l25 ?e25 ?k25 ?lc25 ?p25 ?ch25 ?n25 ?h25 ?a26 ?l26 ?e26 ?k26 ?aCBadCount ?aCNotSo ?aCTooMuch ?xBadCount ?yBadCount ?sBadCount ?tBadCount ?mBadCountBadCount ?mNotSoBadCount ?mNotSoNotSo ?mTooMuchBadCount ?mTooMuchNotSo ?mTooMuchTooMuch ?cMOST_CHOSEN ?cMOST_FACTORS ?zabs ?zall ?zbool ?zenumerate ?zint ?zisinstance ?zlen ?zlist ?zmax ?zrange ?zsorted ?ztuple ?q25_21 CB.law_one CB.law_two
    (case a0 => k_is)
    (case l0 => k_is)
    (case e0 => k_is)
    (case k0 => k_is)
    (case a1 => k_is)
    (case l1 => k_is)
    (case e1 => k_is)
    (case k1 => k_is)
    (case a2 => k_is)
    (case l2 => k_is)
    (case e2 => k_is)
    (case k2 => k_is)
    (case a3 => k_is)
    (case l3 => k_is)
    (case e3 => k_is)
    (case k3 => k_is)
    (case a4 => k_is)
    (case l4 => k_is)
    (case e4 => k_is)
    (case k4 => k_is)
    (case a5 => k_is)
    (case l5 => k_is)
    (case e5 => k_is)
    (case k5 => k_is)
    (case a6 => k_is)
    (case l6 => k_is)
    (case e6 => k_is)
    (case k6 => k_is)
    (case a7 => k_is)
    (case l7 => k_is)
    (case e7 => k_is)
    (case k7 => k_is)
    (case a8 => k_is)
    (case l8 => k_is)
    (case e8 => k_is)
    (case k8 => k_is)
    (case a9 => k_is)
    (case l9 => k_is)
    (case e9 => k_is)
    (case k9 => k_is)
    (case a10 => k_is)
    (case l10 => k_is)
    (case e10 => k_is)
    (case k10 => k_is)
    (case a11 => k_is)
    (case l11 => k_is)
    (case e11 => k_is)
    (case k11 => k_is)
    (case a12 => k_is)
    (case l12 => k_is)
    (case e12 => k_is)
    (case k12 => k_is)
    (case a13 => k_is)
    (case l13 => k_is)
    (case e13 => k_is)
    (case k13 => k_is)
    (case a14 => k_is)
    (case l14 => k_is)
    (case e14 => k_is)
    (case k14 => k_is)
    (case a15 => k_is)
    (case l15 => k_is)
    (case e15 => k_is)
    (case k15 => k_is)
    (case a16 => k_is)
    (case l16 => k_is)
    (case e16 => k_is)
    (case k16 => k_is)
    (case a17 => k_is)
    (case l17 => k_is)
    (case e17 => k_is)
    (case k17 => k_is)
    (case a18 => k_is)
    (case l18 => k_is)
    (case e18 => k_is)
    (case k18 => k_is)
    (case a19 => k_is)
    (case l19 => k_is)
    (case e19 => k_is)
    (case k19 => k_is)
    (case a20 => k_is)
    (case l20 => k_is)
    (case e20 => k_is)
    (case k20 => k_is)
    (case a21 => k_is)
    (case l21 => k_is)
    (case e21 => k_is)
    (case k21 => k_is)
    (case lc21 => k_is)
    (case p21 => rfl)
    (case ch21 => kernel_rfl)
    (case n21 => kernel_rfl)
    (case h21 => exact hT8 _ (by decide))
    (case a22 => k_is)
    (case l22 => k_is)
    (case e22 => k_is)
    (case k22 => k_is)
    (case a23 => k_is)
    (case l23 => k_is)
    (case e23 => k_is)
    (case k23 => k_is)
    (case a24 => k_is)
    (case l24 => k_is)
    (case e24 => k_is)
    (case k24 => k_is)
    (case a25 => k_is)
    (case l25 => k_is)
    (case e25 => k_is)
    (case k25 => k_is)
    (case lc25 => k_is)
    (case p25 => rfl)
    (case ch25 => kernel_rfl)
    (case n25 => kernel_rfl)
    (case h25 => exact hT8 _ (by decide))
    (case a26 => k_is)
    (case l26 => k_is)
    (case e26 => k_is)
    (case k26 => k_is)
    (case aCBadCount => k_is)
    (case aCNotSo => k_is)
    (case aCTooMuch => k_is)
    (case xBadCount => k_exc)
    (case yBadCount => k_is)
    (case sBadCount => k_is)
    (case tBadCount => k_is)
    (case mBadCountBadCount => kernel_rfl)
    (case mNotSoBadCount => kernel_rfl)
    (case mNotSoNotSo => kernel_rfl)
    (case mTooMuchBadCount => kernel_rfl)
    (case mTooMuchNotSo => kernel_rfl)
    (case mTooMuchTooMuch => kernel_rfl)
    (case cMOST_CHOSEN => k_is)
    (case cMOST_FACTORS => k_is)
    (case zabs => k_is)
    (case zall => k_is)
    (case zbool => k_is)
    (case zenumerate => k_is)
    (case zint => k_is)
    (case zisinstance => k_is)
    (case zlen => k_is)
    (case zlist => k_is)
    (case zmax => k_is)
    (case zrange => k_is)
    (case zsorted => k_is)
    (case ztuple => k_is)
    (case q25_21 => decide)
#print axioms PySem.Challenge.cw_countbook_k86_numbers_in_q_and_spaces_holds
