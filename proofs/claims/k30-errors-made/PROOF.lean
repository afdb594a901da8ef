import PyProof.Rows.All
import Wide.All
import OpenK.AllK
import Wide.FinOn
import PyProof.EqAt
import PyProof.EqKinds
import PyProof.TupleCall
import HandS.ForMost
import HandS.Exc
import HandS.Flow
import HandS.IsInst
import HandS.ExcInit
import HandS.ExcField
import HandS.ExcOwn
import HandS.Style
import HandS.Defaults
import HandS.CallSlots
import HandS.TryMany
import HandS.TryOnly
import HandS.WordsExc
import HandS.Zip
import HandS.Iter
import HandS.TupAny
import HandS.Wide
import PyProof.StrOps2
import HandS.Text
import HandS.Deep
import HandS.RaiseMore
import HandS.Star
import HandS.Strs
import KE.KExcSuper
import KE.KExcIs
import HandS.ExcSuper
import HandS.ExcValue
import HandS.ExcIs
import HandS.Small
import HandS.DeepEq
import HandS.Dict
import HandS.Head0
import HandS.Head1
import HandS.Head2
import HandS.HeadEnd
import HandS.HeadHook1
import HandS.HeadHook2
import PySem.Challenge.RW_promisedpost_k30_errors_made
set_option Elab.async false
set_option linter.all false
set_option maxRecDepth 100000
set_option maxHeartbeats 1000000
/-! Mini 1: data as trees, logical heaps, results, and how they stand for the layer's values and heaps. -/
namespace Mn
open PySem PySem.Spec PyProof.Rows L2

/-- a value as a tree: tuples are themselves, what can change is a place in the logical heap -/
inductive D where
  | non | bl (b : Bool) | int (i : Int) | str (x : Str) | tup (ds : List D) | rol (ds : List D) | obj (n : Nat) | exn (C : Addr) (f : Str) (d : D) | cex (a C dd : Addr) (f : Str) (d : D) | tyv (n : String) | cls (C : Addr) | clo (k : Nat) (ds : List D)
/-- an object of the logical heap -/
inductive O where
  | lst (ds : List D) | dct (kvs : List (Key × D)) | ins (c : Str) (fs : List (Str × D))
abbrev Hq := List O
abbrev Lo := List (Option D)

inductive Res (α : Type) where
  | ok (a : α) (T : Hq) | exc (c : Str) (d : D) (T : Hq) | stuck
def Res.bind {α β : Type} (r : Res α) (k : α → Hq → Res β) : Res β := match r with
  | .ok a T => k a T
  | .exc c d T => .exc c d T
  | .stuck => .stuck
@[simp] theorem Res.bind_ok {α β : Type} (a : α) (T : Hq) (k : α → Hq → Res β) : (Res.ok a T).bind k = k a T := rfl
@[simp] theorem Res.bind_exc {α β : Type} (c : Str) (d : D) (T : Hq) (k : α → Hq → Res β) : (Res.exc c d T : Res α).bind k = .exc c d T := rfl
@[simp] theorem Res.bind_stuck {α β : Type} (k : α → Hq → Res β) : (Res.stuck : Res α).bind k = .stuck := rfl
theorem Res.bind_assoc {α β γ : Type} (r : Res α) (k : α → Hq → Res β) (k' : β → Hq → Res γ) : (r.bind k).bind k' = r.bind fun a T => (k a T).bind k' := by cases r <;> rfl

/-! ### how trees stand for values -/
/-- a list that is known to its object or to the written part -/
def RoL (K : PySem.W.Frag) (H : Hp) (a : Addr) (xs : List V) : Prop :=
  (∃ o, H a = some (.frz o (.lst xs))) ∨ ∃ (o : Obj) (its : Array Value) (n : Nat), K.lookup a = some o ∧ o.cls = .type "list" ∧ o.dict = none ∧ o.data = .seq its n ∧ its.size ≤ sizeLine ∧ Vals xs its.toList
theorem RoL.sq {K : PySem.W.Frag} {H : Hp} {a : Addr} {xs : List V} (h : RoL K H a xs) : SqL K H a xs := by
  rcases h with ⟨o, h⟩ | h
  · exact .inl (.inr ⟨o, h⟩)
  · exact .inr h
mutual
inductive R (K : PySem.W.Frag) (H : Hp) (ι : List Addr) : V → D → Prop
  | non : R K H ι .non .non
  | bl (b : Bool) : R K H ι (.bl b) (.bl b)
  | int (i : Int) : R K H ι (.int i) (.int i)
  | str (x : Str) (h : PyData.strOk x = true) : R K H ι (.str x) (.str x)
  | tup {a : Addr} {xs : List V} {ds : List D} : SqT K H a xs → Rs K H ι xs ds → R K H ι (.ref a) (.tup ds)
  | rol {a : Addr} {xs : List V} {ds : List D} : RoL K H a xs → Rs K H ι xs ds → R K H ι (.ref a) (.rol ds)
  | obj {a : Addr} {n : Nat} : ι[n]? = some a → R K H ι (.ref a) (.obj n)
  | exn {a C dx : Addr} {f : Str} {v : V} {d : D} : H a = some (exo a C (some dx)) → H dx = some (.xd [(f, v)]) → R K H ι v d → R K H ι (.ref a) (.exn C f d)
  | cex {a C dx : Addr} {f : Str} {v : V} {d : D} : H dx = some (.xd [(f, v)]) → R K H ι v d → R K H ι (.ref a) (.cex a C dx f d)
  | tyv (n : String) : R K H ι (.ty n) (.tyv n)
  | cls (C : Addr) : R K H ι (.ref C) (.cls C)
inductive Rs (K : PySem.W.Frag) (H : Hp) (ι : List Addr) : List V → List D → Prop
  | nil : Rs K H ι [] []
  | cons {v : V} {vs : List V} {d : D} {ds : List D} : R K H ι v d → Rs K H ι vs ds → Rs K H ι (v :: vs) (d :: ds)
end
/-- what never changes: tuples, what is known, exceptions in hand and their dicts -/
def fixO : HO → Bool
  | .tup _ => true
  | .frz _ _ => true
  | .ext _ => true
  | .xd _ => true
  | _ => false
/-- .. stays -/
structure Ext (H H' : Hp) : Prop where
  fix : ∀ a o, H a = some o → fixO o = true → H' a = some o
theorem Ext.tup {H H' : Hp} (e : Ext H H') : ∀ a xs, H a = some (.tup xs) → H' a = some (.tup xs) := fun a _ h => e.fix a _ h rfl
theorem Ext.frz {H H' : Hp} (e : Ext H H') : ∀ a o u, H a = some (.frz o u) → H' a = some (.frz o u) := fun a _ _ h => e.fix a _ h rfl
abbrev Pr (ι ι' : List Addr) : Prop := ∀ (n : Nat) (a : Addr), ι[n]? = some a → ι'[n]? = some a
/-- the same thing, or a table of code objects that has grown -/
def Kt (o o' : HO) : Prop := o' = o ∨ ∃ ps ps', o = .tbl ps ∧ o' = .tbl ps'
theorem Kt.trans {a b c : HO} (h : Kt a b) (h' : Kt b c) : Kt a c := by
  rcases h with rfl | ⟨p, q, rfl, rfl⟩
  · exact h'
  · rcases h' with rfl | ⟨p', q', _, rfl⟩
    · exact .inr ⟨p, q, rfl, rfl⟩
    · exact .inr ⟨p, q', rfl, rfl⟩
/-- places stay, and what is no object of the logical heap stays -/
structure Pre (H : Hp) (ι : List Addr) (H' : Hp) (ι' : List Addr) : Prop where
  at_ : Pr ι ι'
  kp : ∀ a o, H a = some o → a ∉ ι → a ∉ ι' ∧ ∃ o', H' a = some o' ∧ Kt o o'
theorem Pre.keep {H H' : Hp} {ι ι' : List Addr} (h : Pre H ι H' ι') {a : Addr} {o : HO} (e : H a = some o) (n : a ∉ ι) (nt : ∀ ps, o ≠ .tbl ps) : H' a = some o ∧ a ∉ ι' := by
  obtain ⟨n', o', e', k⟩ := h.kp a o e n
  rcases k with rfl | ⟨p, q, z, _⟩
  · exact ⟨e', n'⟩
  · exact absurd z (nt p)
theorem Pre.refl {H : Hp} (ι : List Addr) : Pre H ι H ι := ⟨fun _ _ h => h, fun _ o h n => ⟨n, o, h, .inl rfl⟩⟩
theorem Pre.trans {A B C : Hp} {a b c : List Addr} (h : Pre A a B b) (h' : Pre B b C c) : Pre A a C c :=
  ⟨fun n x q => h'.at_ n x (h.at_ n x q), fun x o e n => let ⟨n1, o1, e1, k1⟩ := h.kp x o e n; let ⟨n2, o2, e2, k2⟩ := h'.kp x o1 e1 n1; ⟨n2, o2, e2, k1.trans k2⟩⟩
theorem Pr.app (ι : List Addr) (p : Addr) : Pr ι (ι ++ [p]) := fun n a h => by
  have hn : n < ι.length := (List.getElem?_eq_some_iff.mp h).1
  rw [List.getElem?_append_left hn]; exact h
theorem Pre.app {H : Hp} {ι : List Addr} {p : Addr} {u : HO} (np : H p = none) : Pre H ι (upd H p u) (ι ++ [p]) :=
  ⟨Pr.app _ _, fun a o e n => ⟨fun z => (List.mem_append.mp z).elim n fun z => ne_of_none e np (by simpa using z), o, by rw [upd_ne (ne_of_none e np)]; exact e, .inl rfl⟩⟩
theorem Pre.side {H : Hp} {ι : List Addr} {p : Addr} {u : HO} (np : H p = none) : Pre H ι (upd H p u) ι :=
  ⟨fun _ _ h => h, fun a o e n => ⟨n, o, by rw [upd_ne (ne_of_none e np)]; exact e, .inl rfl⟩⟩
theorem Pre.write {H : Hp} {ι : List Addr} {p : Addr} {n : Nat} {u : HO} (h : ι[n]? = some p) : Pre H ι (upd H p u) ι :=
  ⟨fun _ _ h => h, fun a o e nn => ⟨nn, o, by rw [upd_ne (fun z : a = p => nn (by rw [z]; exact List.mem_of_getElem? h))]; exact e, .inl rfl⟩⟩
theorem Ext.refl (H : Hp) : Ext H H := ⟨fun _ _ h _ => h⟩
theorem Ext.trans {a b c : Hp} (h : Ext a b) (h' : Ext b c) : Ext a c := ⟨fun x o q f => h'.fix _ _ (h.fix _ _ q f) f⟩
theorem Ext.new {H : Hp} {p : Addr} {o : HO} (h : H p = none) : Ext H (upd H p o) :=
  ⟨fun a u q _ => by rw [upd_ne (ne_of_none q h)]; exact q⟩
/-- an object that is written is none of these -/
theorem Ext.write {H : Hp} {p : Addr} {o u : HO} (h : H p = some u) (hu : fixO u = false) : Ext H (upd H p o) :=
  ⟨fun a w q f => by rw [upd_ne (fun z => by subst z; rw [h] at q; cases q; rw [hu] at f; cases f)]; exact q⟩
section
variable {K : PySem.W.Frag} {H H' : Hp} {ι ι' : List Addr}
theorem SqT.ext {a : Addr} {xs : List V} (e : Ext H H') (h : SqT K H a xs) : SqT K H' a xs := by
  rcases h with (h | ⟨o, h⟩) | h
  · exact .inl (.inl (e.tup _ _ h))
  · exact .inl (.inr ⟨o, e.frz _ _ _ h⟩)
  · exact .inr h
theorem RoL.ext {a : Addr} {xs : List V} (e : Ext H H') (h : RoL K H a xs) : RoL K H' a xs := by
  rcases h with ⟨o, h⟩ | h
  · exact .inl ⟨o, e.frz _ _ _ h⟩
  · exact .inr h
mutual
theorem R.mv (e : Ext H H') (p : Pr ι ι') : ∀ {v : V} {d : D}, R K H ι v d → R K H' ι' v d
  | _, _, .non => .non
  | _, _, .bl b => .bl b
  | _, _, .int b => .int b
  | _, _, .str b h => .str b h
  | _, _, .tup h r => .tup (SqT.ext e h) (Rs.mv e p r)
  | _, _, .rol h r => .rol (RoL.ext e h) (Rs.mv e p r)
  | _, _, .obj h => .obj (p _ _ h)
  | _, _, .exn h1 h2 r => .exn (e.fix _ _ h1 rfl) (e.fix _ _ h2 rfl) (R.mv e p r)
  | _, _, .cex h2 r => .cex (e.fix _ _ h2 rfl) (R.mv e p r)
  | _, _, .tyv n => .tyv n
  | _, _, .cls C => .cls C
theorem Rs.mv (e : Ext H H') (p : Pr ι ι') : ∀ {vs : List V} {ds : List D}, Rs K H ι vs ds → Rs K H' ι' vs ds
  | _, _, .nil => .nil
  | _, _, .cons r t => .cons (R.mv e p r) (Rs.mv e p t)
end
theorem R.ext (e : Ext H H') (p : Pre H ι H' ι') {v : V} {d : D} (r : R K H ι v d) : R K H' ι' v d := R.mv e p.at_ r
theorem Rs.ext (e : Ext H H') (p : Pre H ι H' ι') {v : List V} {d : List D} (r : Rs K H ι v d) : Rs K H' ι' v d := Rs.mv e p.at_ r
theorem Rs.length : ∀ {vs : List V} {ds : List D}, Rs K H ι vs ds → vs.length = ds.length
  | _, _, .nil => rfl
  | _, _, .cons _ t => by simp [Rs.length t]
theorem Rs.app : ∀ {vs ws : List V} {ds es : List D}, Rs K H ι vs ds → Rs K H ι ws es → Rs K H ι (vs ++ ws) (ds ++ es)
  | _, _, _, _, .nil, h => h
  | _, _, _, _, .cons r t, h => .cons r (Rs.app t h)
theorem Rs.get : ∀ {vs : List V} {ds : List D} {i : Nat} {d : D}, Rs K H ι vs ds → ds[i]? = some d → ∃ v, vs[i]? = some v ∧ R K H ι v d
  | _, _, _, _, .nil, h => by simp at h
  | _, _, 0, _, .cons r _, h => by simp at h; subst h; exact ⟨_, rfl, r⟩
  | _, _, i + 1, _, .cons _ t, h => by
    obtain ⟨v, e, r⟩ := Rs.get (i := i) t (by simpa using h)
    exact ⟨v, by simpa using e, r⟩
theorem Rs.getV : ∀ {vs : List V} {ds : List D} {i : Nat} {v : V}, Rs K H ι vs ds → vs[i]? = some v → ∃ d, ds[i]? = some d ∧ R K H ι v d
  | _, _, _, _, .nil, h => by simp at h
  | _, _, 0, _, .cons r _, h => by simp at h; subst h; exact ⟨_, rfl, r⟩
  | _, _, i + 1, _, .cons _ t, h => by
    obtain ⟨v, e, r⟩ := Rs.getV (i := i) t (by simpa using h)
    exact ⟨v, by simpa using e, r⟩
theorem Rs.take (n : Nat) : ∀ {vs : List V} {ds : List D}, Rs K H ι vs ds → Rs K H ι (vs.take n) (ds.take n) := fun {vs ds} h => by
  induction n generalizing vs ds with
  | zero => simpa using .nil
  | succ n ih => cases h with
    | nil => exact .nil
    | cons r t => exact .cons r (ih t)
theorem Rs.drop (n : Nat) : ∀ {vs : List V} {ds : List D}, Rs K H ι vs ds → Rs K H ι (vs.drop n) (ds.drop n) := fun {vs ds} h => by
  induction n generalizing vs ds with
  | zero => exact h
  | succ n ih => cases h with
    | nil => exact .nil
    | cons r t => exact ih t
theorem Rs.set {v : V} {d : D} (r : R K H ι v d) : ∀ {vs : List V} {ds : List D} (i : Nat), Rs K H ι vs ds → Rs K H ι (vs.set i v) (ds.set i d)
  | _, _, _, .nil => .nil
  | _, _, 0, .cons _ t => .cons r t
  | _, _, i + 1, .cons q t => .cons q (Rs.set r i t)
theorem Rs.eraseIdx : ∀ {vs : List V} {ds : List D} (i : Nat), Rs K H ι vs ds → Rs K H ι (vs.eraseIdx i) (ds.eraseIdx i)
  | _, _, _, .nil => .nil
  | _, _, 0, .cons _ t => t
  | _, _, i + 1, .cons q t => .cons q (Rs.eraseIdx i t)
theorem Rs.reverse {vs : List V} {ds : List D} (h : Rs K H ι vs ds) : Rs K H ι vs.reverse ds.reverse := by
  induction vs generalizing ds with
  | nil => cases h; exact .nil
  | cons v vs ih => cases h with
    | cons r t => rw [List.reverse_cons, List.reverse_cons]; exact Rs.app (ih t) (.cons r .nil)
end

/-! ### heaps -/
inductive Rk (K : PySem.W.Frag) (H : Hp) (ι : List Addr) : List (Key × V) → List (Key × D) → Prop
  | nil : Rk K H ι [] []
  | cons {k : Key} {v : V} {vs : List (Key × V)} {d : D} {ds : List (Key × D)} : R K H ι v d → Rk K H ι vs ds → Rk K H ι ((k, v) :: vs) ((k, d) :: ds)
/-- the object at a is o -/
def RO (K : PySem.W.Frag) (H : Hp) (ι : List Addr) (a : Addr) : O → Prop
  | .lst ds => ∃ xs, H a = some (.lst xs) ∧ Rs K H ι xs ds
  | .dct kvs => ∃ xs, H a = some (.dK xs) ∧ Rk K H ι xs kvs
  | .ins _ _ => False
structure HR (K : PySem.W.Frag) (H : Hp) (ι : List Addr) (T : Hq) : Prop where
  len : ι.length = T.length
  inj : ∀ (i j : Nat) (a : Addr), ι[i]? = some a → ι[j]? = some a → i = j
  obj : ∀ (n : Nat) (o : O), T[n]? = some o → ∃ a, ι[n]? = some a ∧ RO K H ι a o
section
variable {K : PySem.W.Frag} {H H' : Hp} {ι ι' : List Addr} {T : Hq}
theorem Rk.mv (e : Ext H H') (p : Pr ι ι') : ∀ {vs : List (Key × V)} {ds : List (Key × D)}, Rk K H ι vs ds → Rk K H' ι' vs ds
  | _, _, .nil => .nil
  | _, _, .cons r t => .cons (R.mv e p r) (Rk.mv e p t)
theorem RO.some {a : Addr} {o : O} (h : RO K H ι a o) : ∃ u, H a = some u ∧ fixO u = false := by
  cases o with
  | lst ds => obtain ⟨xs, e, _⟩ := h; exact ⟨_, e, rfl⟩
  | dct ds => obtain ⟨xs, e, _⟩ := h; exact ⟨_, e, rfl⟩
  | ins c fs => exact h.elim
theorem RO.mv {a : Addr} {o : O} (e : Ext H H') (p : Pr ι ι') (s : H' a = H a) (h : RO K H ι a o) : RO K H' ι' a o := by
  cases o with
  | lst ds => obtain ⟨xs, h, r⟩ := h; exact ⟨xs, s.trans h, Rs.mv e p r⟩
  | dct ds => obtain ⟨xs, h, r⟩ := h; exact ⟨xs, s.trans h, Rk.mv e p r⟩
  | ins c fs => exact h.elim
theorem HR.at_ (h : HR K H ι T) {n : Nat} {o : O} {a : Addr} (e : T[n]? = some o) (ea : ι[n]? = some a) : RO K H ι a o := by
  obtain ⟨b, eb, r⟩ := h.obj n o e
  rw [ea] at eb; cases eb; exact r
theorem HR.live (h : HR K H ι T) {n : Nat} {a : Addr} (ea : ι[n]? = some a) : ∃ o, T[n]? = some o ∧ RO K H ι a o := by
  have hn : n < T.length := by rw [← h.len]; exact (List.getElem?_eq_some_iff.mp ea).1
  exact ⟨T[n], List.getElem?_eq_getElem hn, h.at_ (List.getElem?_eq_getElem hn) ea⟩
/-- a new object -/
theorem HR.new (h : HR K H ι T) {p : Addr} {u : HO} {o : O} (hp : H p = none) (r : RO K (upd H p u) (ι ++ [p]) p o) : HR K (upd H p u) (ι ++ [p]) (T ++ [o]) := by
  have nin : ∀ (i : Nat) (a : Addr), ι[i]? = some a → a ≠ p := fun i a e z => by
    obtain ⟨o', _, r'⟩ := h.live e
    obtain ⟨u', e', _⟩ := r'.some
    rw [z, hp] at e'; cases e'
  refine ⟨by simp [h.len], fun i j a hi hj => ?_, fun n o' e => ?_⟩
  · by_cases h1 : i < ι.length
    · rw [List.getElem?_append_left h1] at hi
      by_cases h2 : j < ι.length
      · rw [List.getElem?_append_left h2] at hj; exact h.inj i j a hi hj
      · rw [List.getElem?_append_right (by omega)] at hj
        have : a = p := by
          cases hk : j - ι.length with
          | zero => rw [hk] at hj; simpa using hj.symm
          | succ k => rw [hk] at hj; simp at hj
        exact absurd this (nin i a hi)
    · rw [List.getElem?_append_right (by omega)] at hi
      have ap : a = p ∧ i = ι.length := by
        cases hk : i - ι.length with
        | zero => rw [hk] at hi; exact ⟨by simpa using hi.symm, by omega⟩
        | succ k => rw [hk] at hi; simp at hi
      by_cases h2 : j < ι.length
      · rw [List.getElem?_append_left h2] at hj; exact absurd ap.1 (nin j a hj)
      · rw [List.getElem?_append_right (by omega)] at hj
        cases hk : j - ι.length with
        | zero => omega
        | succ k => rw [hk] at hj; simp at hj
  · by_cases h1 : n < T.length
    · rw [List.getElem?_append_left h1] at e
      obtain ⟨a, ea, r'⟩ := h.obj n o' e
      exact ⟨a, Pr.app _ _ _ _ ea, r'.mv (Ext.new hp) (Pr.app _ _) (upd_ne (nin n a ea))⟩
    · rw [List.getElem?_append_right (by omega)] at e
      cases hk : n - T.length with
      | zero =>
        rw [hk] at e
        have eo : o = o' := by simpa using e
        subst eo
        have hn : n = ι.length := by rw [h.len]; omega
        exact ⟨p, by rw [hn]; simp, r⟩
      | succ k => rw [hk] at e; simp at e
theorem HR.mono (h : HR K H ι T) (e : Ext H H') (s : ∀ (n : Nat) (a : Addr), ι[n]? = some a → H' a = H a) : HR K H' ι T :=
  ⟨h.len, h.inj, fun n o q => by
    obtain ⟨a, ea, r⟩ := h.obj n o q
    exact ⟨a, ea, r.mv e (fun _ _ h => h) (s n a ea)⟩⟩
/-- a new thing that is no object of the logical heap -/
theorem HR.side (h : HR K H ι T) {p : Addr} {u : HO} (hp : H p = none) : HR K (upd H p u) ι T := h.mono (Ext.new hp) fun n a e => by
  obtain ⟨o', _, r'⟩ := h.live e
  obtain ⟨u', e', _⟩ := r'.some
  exact upd_ne fun z => by rw [z, hp] at e'; cases e'
theorem HR.nin (h : HR K H ι T) {p : Addr} (hp : H p = none) : p ∉ ι := fun z => by
  obtain ⟨n, e⟩ := List.getElem?_of_mem z
  obtain ⟨o', _, r'⟩ := h.live e
  obtain ⟨u', e', _⟩ := r'.some
  rw [hp] at e'; cases e'
/-- an object that stands already becomes one of the logical heap -/
theorem HR.adopt (h : HR K H ι T) {p : Addr} {o : O} (hp : p ∉ ι) (r : RO K H (ι ++ [p]) p o) : HR K H (ι ++ [p]) (T ++ [o]) := by
  have nin : ∀ (i : Nat) (a : Addr), ι[i]? = some a → a ≠ p := fun i a e z => hp (z ▸ List.mem_of_getElem? e)
  refine ⟨by simp [h.len], fun i j a hi hj => ?_, fun n o' e => ?_⟩
  · by_cases h1 : i < ι.length
    · rw [List.getElem?_append_left h1] at hi
      by_cases h2 : j < ι.length
      · rw [List.getElem?_append_left h2] at hj; exact h.inj i j a hi hj
      · rw [List.getElem?_append_right (by omega)] at hj
        have : a = p := by
          cases hk : j - ι.length with
          | zero => rw [hk] at hj; simpa using hj.symm
          | succ k => rw [hk] at hj; simp at hj
        exact absurd this (nin i a hi)
    · rw [List.getElem?_append_right (by omega)] at hi
      have ap : a = p ∧ i = ι.length := by
        cases hk : i - ι.length with
        | zero => rw [hk] at hi; exact ⟨by simpa using hi.symm, by omega⟩
        | succ k => rw [hk] at hi; simp at hi
      by_cases h2 : j < ι.length
      · rw [List.getElem?_append_left h2] at hj; exact absurd ap.1 (nin j a hj)
      · rw [List.getElem?_append_right (by omega)] at hj
        cases hk : j - ι.length with
        | zero => omega
        | succ k => rw [hk] at hj; simp at hj
  · by_cases h1 : n < T.length
    · rw [List.getElem?_append_left h1] at e
      obtain ⟨a, ea, r'⟩ := h.obj n o' e
      exact ⟨a, Pr.app _ _ _ _ ea, r'.mv (Ext.refl _) (Pr.app _ _) rfl⟩
    · rw [List.getElem?_append_right (by omega)] at e
      cases hk : n - T.length with
      | zero =>
        rw [hk] at e
        have eo : o = o' := by simpa using e
        subst eo
        have hn : n = ι.length := by rw [h.len]; omega
        exact ⟨p, by rw [hn]; simp, r⟩
      | succ k => rw [hk] at e; simp at e
/-- an object is written -/
theorem HR.write (h : HR K H ι T) {n : Nat} {a : Addr} {u : HO} {o : O} (ea : ι[n]? = some a) (r : RO K (upd H a u) ι a o) : HR K (upd H a u) ι (T.set n o) ∧ Ext H (upd H a u) := by
  obtain ⟨o₀, _, r₀⟩ := h.live ea
  obtain ⟨u₀, e₀, h1⟩ := r₀.some
  have E : Ext H (upd H a u) := Ext.write e₀ h1
  refine ⟨⟨by simp [h.len], h.inj, fun m o' e => ?_⟩, E⟩
  by_cases hm : n = m
  · subst hm
    have hn : n < T.length := by rw [← h.len]; exact (List.getElem?_eq_some_iff.mp ea).1
    rw [List.getElem?_set_self hn] at e
    cases e
    exact ⟨a, ea, r⟩
  · rw [List.getElem?_set_ne hm] at e
    obtain ⟨b, eb, rb⟩ := h.obj m o' e
    exact ⟨b, eb, rb.mv E (fun _ _ h => h) (upd_ne fun z => hm (h.inj n m a ea (z ▸ eb)))⟩
end
end Mn

set_option Elab.async false
set_option linter.all false
set_option maxRecDepth 100000
set_option maxHeartbeats 1000000
/-! Mini 2: what a piece of syntax means over trees, and that the layer's reading follows. -/
namespace Mn
open PySem PySem.Spec PyProof.Rows L2

/-- the field in which an own error keeps its argument -/
def fldOf (c : Str) : Str :=
  if c = "NotPossible" then "word" else if c = "Stopped" then "place" else if c = "Unreadable" then "path" else if c = "BadText" then "line"
  else if c = "NothingBack" then "many" else if c = "TooMany" then "limit" else "name"

def RelS (K : PySem.W.Frag) (H : Hp) (ι : List Addr) (σ : L2.St) (l : Lo) : Prop :=
  σ.length = l.length ∧ ∀ (i : Nat) (d : D), l[i]? = some (some d) → ∃ v, σ[i]? = some (some v) ∧ R K H ι v d
section
variable {K : PySem.W.Frag} {H H' : Hp} {ι ι' : List Addr} {σ : L2.St} {l : Lo}
theorem RelS.ext (e : Ext H H') (p : Pre H ι H' ι') (h : RelS K H ι σ l) : RelS K H' ι' σ l :=
  ⟨h.1, fun i d q => let ⟨v, e1, r⟩ := h.2 i d q; ⟨v, e1, r.ext e p⟩⟩
theorem RelS.set {v : V} {d : D} (r : R K H ι v d) (i : Nat) (h : RelS K H ι σ l) : RelS K H ι (σ.set i (some v)) (l.set i (some d)) := by
  refine ⟨by simp [h.1], fun j e q => ?_⟩
  by_cases hj : i = j
  · subst hj
    by_cases hi : i < l.length
    · rw [List.getElem?_set_self hi] at q
      cases q
      exact ⟨v, by rw [List.getElem?_set_self (by rw [h.1]; exact hi)], r⟩
    · rw [List.getElem?_eq_none (by simpa using hi)] at q; cases q
  · rw [List.getElem?_set_ne hj] at q ⊢
    exact h.2 j e q
theorem RelS.drop (i : Nat) (h : RelS K H ι σ l) : RelS K H ι (σ.set i none) (l.set i none) := by
  refine ⟨by simp [h.1], fun j e q => ?_⟩
  by_cases hj : i = j
  · subst hj
    by_cases hi : i < l.length
    · rw [List.getElem?_set_self hi] at q; cases q
    · rw [List.getElem?_eq_none (by simpa using hi)] at q; cases q
  · rw [List.getElem?_set_ne hj] at q ⊢
    exact h.2 j e q
end

/-- an exception: of the own class c, with d in its field -/
def XR (K : PySem.W.Frag) (mg : Str → Option Value) (H : Hp) (ι : List Addr) (cls : Value) (dx : Option Addr) (c : Str) (d : D) : Prop :=
  ∃ (C a : Addr) (v : V), cls = .ref C ∧ mg c = some (.ref C) ∧ dx = some a ∧ H a = some (.xd [(fldOf c, v)]) ∧ R K H ι v d

section
variable {α β γ δ : Type}
/-- what is wanted of a result -/
def Post (rel : Hp → List Addr → β → α → Prop) (K : PySem.W.Frag) (mg : Str → Option Value) (W : WX) (σ : L2.St) (H : Hp) (ι : List Addr) (Q : β → Hp → Prop) : Res α → Prop
  | .ok d T => ∀ v H' ι', Ext H H' → Pre H ι H' ι' → HR K H' ι' T → rel H' ι' v d → Q v H'
  | .exc c d T => ∀ cls dx H' ι', Ext H H' → Pre H ι H' ι' → HR K H' ι' T → XR K mg H' ι' cls dx c d → W cls dx σ H'
  | .stuck => False
theorem Post.ext {rel : Hp → List Addr → β → α → Prop} {K : PySem.W.Frag} {mg : Str → Option Value} {W : WX} {σ : L2.St} {H H1 : Hp} {ι ι1 : List Addr} {Q : β → Hp → Prop} {r : Res α} (e : Ext H H1) (p : Pre H ι H1 ι1) (h : Post rel K mg W σ H ι Q r) : Post rel K mg W σ H1 ι1 Q r := by
  cases r with
  | ok d T => exact fun v H' ι' e' p' => h v H' ι' (e.trans e') (p.trans p')
  | exc c d T => exact fun cls dx H' ι' e' p' => h cls dx H' ι' (e.trans e') (p.trans p')
  | stuck => exact h.elim
/-- the reading that a meaning gives -/
def rd (rel : Hp → List Addr → β → α → Prop) (m : Lo → Hq → Res α) (K : PySem.W.Frag) (mg : Str → Option Value) (W : WX) : L2.St → Hp → (β → Hp → Prop) → Prop :=
  fun σ H Q => ∃ ι T l, RelS K H ι σ l ∧ HR K H ι T ∧ Post rel K mg W σ H ι Q (m l T)
/-- one meaning behind the other -/
theorem rd_bind {rel : Hp → List Addr → β → α → Prop} {rel' : Hp → List Addr → δ → γ → Prop} {K : PySem.W.Frag} {mg : Str → Option Value} {W : WX} {σ : L2.St} {H : Hp} {ι : List Addr} {T : Hq} {l : Lo} {Q : δ → Hp → Prop} {Q1 : β → Hp → Prop}
    {a : Lo → Hq → Res α} {k : α → Hq → Res γ} (hS : RelS K H ι σ l) (hH : HR K H ι T) (h : Post rel' K mg W σ H ι Q ((a l T).bind k))
    (hQ : ∀ x T1 v H1 ι1, Ext H H1 → Pre H ι H1 ι1 → RelS K H1 ι1 σ l → HR K H1 ι1 T1 → rel H1 ι1 v x → Post rel' K mg W σ H1 ι1 Q (k x T1) → Q1 v H1) : rd rel a K mg W σ H Q1 := by
  refine ⟨ι, T, l, hS, hH, ?_⟩
  cases hr : a l T with
  | ok x T1 =>
    rw [hr] at h
    exact fun v H1 ι1 e p h1 r => hQ x T1 v H1 ι1 e p (hS.ext e p) h1 r (Post.ext e p h)
  | exc c d T1 =>
    rw [hr] at h
    exact h
  | stuck =>
    rw [hr] at h
    exact h.elim
theorem rd_here {rel : Hp → List Addr → β → α → Prop} {K : PySem.W.Frag} {mg : Str → Option Value} {W : WX} {σ : L2.St} {H : Hp} {ι : List Addr} {T : Hq} {l : Lo} {Q : β → Hp → Prop} {m : Lo → Hq → Res α}
    (hS : RelS K H ι σ l) (hH : HR K H ι T) (h : Post rel K mg W σ H ι Q (m l T)) : rd rel m K mg W σ H Q := ⟨ι, T, l, hS, hH, h⟩
end
abbrev Rr (K : PySem.W.Frag) : Hp → List Addr → V → D → Prop := fun H ι v d => R K H ι v d
abbrev Rb : Hp → List Addr → Bool → Bool → Prop := fun _ _ b c => b = c
abbrev Rl (K : PySem.W.Frag) : Hp → List Addr → List V → List D → Prop := fun H ι v d => Rs K H ι v d
abbrev EMn := Lo → Hq → Res D
abbrev BMn := Lo → Hq → Res Bool
abbrev LMn := Lo → Hq → Res (List D)
/-- the expression e means m -/
def SE (X : Cx) (e : Expr) (m : EMn) : Prop := ∀ W, Takes X W → PE X e (rd (Rr X.K) m X.K X.mg W)
def ST (X : Cx) (e : Expr) (m : BMn) : Prop := ∀ W, Takes X W → PT X e (rd Rb m X.K X.mg W)
def SA (X : Cx) (es : List Expr) (m : LMn) : Prop := ∀ W, Takes X W → PA X es (rd (Rl X.K) m X.K X.mg W)

theorem PE.imp {X : Cx} {e : Expr} {t t' : TE} (h : PE X e t) (f : ∀ σ H Q, t' σ H Q → t σ H Q) : PE X e t' := ⟨fun pins s σ H Q I q => h.run pins s σ H Q I (f _ _ _ q)⟩
theorem PT.imp {X : Cx} {e : Expr} {t t' : TT} (h : PT X e t) (f : ∀ σ H Q, t' σ H Q → t σ H Q) : PT X e t' := ⟨fun pins s σ H Q I q => h.run pins s σ H Q I (f _ _ _ q)⟩
theorem PA.imp {X : Cx} {es : List Expr} {t t' : TA} (h : PA X es t) (f : ∀ σ H Q, t' σ H Q → t σ H Q) : PA X es t' := ⟨fun pos pins s σ H Q I q => h.run pos pins s σ H Q I (f _ _ _ q)⟩
theorem PS.imp {X : Cx} {e : Stmt} {t t' : TS} (h : PS X e t) (f : ∀ D σ H, t' D σ H → t D σ H) : PS X e t' := ⟨fun pins s σ H Q I q => h.run pins s σ H Q I (f _ _ _ q)⟩
theorem PSs.imp {X : Cx} {e : List Stmt} {t t' : TS} (h : PSs X e t) (f : ∀ D σ H, t' D σ H → t D σ H) : PSs X e t' := ⟨fun pins s σ H Q I q => h.run pins s σ H Q I (f _ _ _ q)⟩

/-! ### names, constants -/
section
variable {X : Cx}
def mConst (d : D) : EMn := fun _ T => .ok d T
def mVar (i : Nat) : EMn := fun l T => match l[i]? with
  | some (some d) => .ok d T
  | _ => .stuck
theorem se_var {i : Nat} {x : Str} {pos : Pos} (hN : X.N[i]? = some x) (hv : Vis X.env.scope x) (hd : (x == ("__debug__" : Str)) = false) (hcd : (x == ("__classdict__" : Str)) = false) : SE X (.Name x pos) (mVar i) := fun W tk =>
  PE.imp (pe_var hN hv hd hcd) fun σ H Q ⟨ι, T, l, hS, hH, h⟩ => by
    unfold mVar at h
    cases e : l[i]? with
    | none => rw [e] at h; exact h.elim
    | some o =>
      cases o with
      | none => rw [e] at h; exact h.elim
      | some d =>
        rw [e] at h
        obtain ⟨v, e1, r⟩ := hS.2 i d e
        exact ⟨v, e1, h v H ι (Ext.refl H) (Pre.refl ι) hH r⟩
theorem se_const {e : Expr} {v : V} {d : D} (h : PE X e (tC v)) (r : ∀ K H ι, R K H ι v d) : SE X e (mConst d) := fun W tk =>
  PE.imp h fun σ H Q ⟨ι, T, l, hS, hH, q⟩ => q v H ι (Ext.refl H) (Pre.refl ι) hH (r _ _ _)
theorem se_int {i : Int} {j pos} : SE X (.Constant (.int i) j pos) (mConst (.int i)) := se_const pe_int fun _ _ _ => .int i
theorem se_bl {b : Bool} {j pos} : SE X (.Constant (.bool b) j pos) (mConst (.bl b)) := se_const pe_bl fun _ _ _ => .bl b
theorem se_non {j pos} : SE X (.Constant .none j pos) (mConst .non) := se_const pe_non fun _ _ _ => .non
theorem se_str {x : Str} {j pos} (h : PyData.strOk x = true) : SE X (.Constant (.str x) j pos) (mConst (.str x)) := se_const pe_str fun _ _ _ => .str x h

/-! ### argument lists, displays -/
def mNil : LMn := fun _ T => .ok [] T
def mCons (a : EMn) (r : LMn) : LMn := fun l T => (a l T).bind fun x T1 => (r l T1).bind fun xs T2 => .ok (x :: xs) T2
theorem sa_nil : SA X [] mNil := fun W tk => PA.imp pa_nil fun σ H Q ⟨ι, T, l, hS, hH, q⟩ => q [] H ι (Ext.refl H) (Pre.refl ι) hH .nil
theorem sa_cons {e : Expr} {es : List Expr} {a : EMn} {r : LMn} (ha : SE X e a) (hr : SA X es r) (hs : starEach (e :: es) X.env = (false, eval e X.env) :: starEach es X.env) : SA X (e :: es) (mCons a r) := fun W tk =>
  PA.imp (pa_cons (ha W tk) (hr W tk) hs) fun σ H Q ⟨ι, T, l, hS, hH, h⟩ =>
    rd_bind hS hH h fun x T1 v H1 ι1 e1 p1 hS1 h1 r1 q1 => rd_bind hS1 h1 q1 fun xs T2 vs H2 ι2 e2 p2 hS2 h2 r2 q2 =>
      q2 (v :: vs) H2 ι2 (Ext.refl _) (Pre.refl _) h2 (.cons (r1.ext e2 p2) r2)
def mTup (m : LMn) : EMn := fun l T => (m l T).bind fun xs T1 => if xs.length ≤ sizeLine then .ok (.tup xs) T1 else .stuck
theorem se_tup {es : List Expr} {m : LMn} {k pos} (h : SA X es m) : SE X (.Tuple es k pos) (mTup m) := fun W tk =>
  PE.imp (pe_tup (h W tk)) fun σ H Q ⟨ι, T, l, hS, hH, q⟩ =>
    rd_bind hS hH q fun xs T1 vs H1 ι1 e1 p1 hS1 h1 r1 q1 => by
      by_cases hl : xs.length ≤ sizeLine
      · rw [if_pos hl] at q1
        refine ⟨by rw [r1.length]; exact hl, fun p np => q1 _ _ ι1 (Ext.new np) (Pre.side np) (h1.side np) (.tup (.of upd_same) (r1.ext (Ext.new np) (Pre.side np)))⟩
      · rw [if_neg hl] at q1; exact q1.elim
/-- a new list -/
def newL (xs : List D) (T : Hq) : Res D := .ok (.obj T.length) (T ++ [.lst xs])
def mLst (m : LMn) : EMn := fun l T => (m l T).bind fun xs T1 => if xs.length ≤ sizeLine then newL xs T1 else .stuck
theorem post_newL {K : PySem.W.Frag} {mg : Str → Option Value} {W : WX} {σ : L2.St} {H : Hp} {ι : List Addr} {T : Hq} {Q : VK} {xs : List D} {vs : List V} (h : HR K H ι T) (r : Rs K H ι vs xs) (q : Post (Rr K) K mg W σ H ι Q (newL xs T)) :
    ∀ p, H p = none → Q (.ref p) (upd H p (.lst vs)) := fun p np => by
  have E := Ext.new (o := .lst vs) np
  refine q _ _ (ι ++ [p]) E (Pre.app np) (h.new np ⟨vs, upd_same, r.ext E (Pre.app np)⟩) (.obj ?_)
  rw [← h.len]; simp
theorem se_lst {es : List Expr} {m : LMn} {pos} (h : SA X es m) : SE X (.List es pos) (mLst m) := fun W tk =>
  PE.imp (pe_lst (h W tk)) fun σ H Q ⟨ι, T, l, hS, hH, q⟩ =>
    rd_bind hS hH q fun xs T1 vs H1 ι1 e1 p1 hS1 h1 r1 q1 => by
      by_cases hl : xs.length ≤ sizeLine
      · rw [if_pos hl] at q1
        exact ⟨by rw [r1.length]; exact hl, post_newL h1 r1 q1⟩
      · rw [if_neg hl] at q1; exact q1.elim

/-! ### truth, and, or, not -/
def truthD (d : D) (T : Hq) : Option Bool := match d with
  | .non => some false
  | .bl b => some b
  | .int i => some (i != 0)
  | .str y => if y.length ≤ sizeLine then some ((y.length : Int) != 0) else none
  | .tup ds => some (!ds.isEmpty)
  | .rol ds => some (!ds.isEmpty)
  | .obj n => match T[n]? with
    | some (.lst ds) => some (!ds.isEmpty)
    | some (.dct kvs) => some (!kvs.isEmpty)
    | _ => none
  | _ => none
theorem Rs.emp {K : PySem.W.Frag} {H : Hp} {ι : List Addr} {vs : List V} {ds : List D} (r : Rs K H ι vs ds) : ds.isEmpty = vs.isEmpty := by cases r <;> rfl
theorem Rk.emp {K : PySem.W.Frag} {H : Hp} {ι : List Addr} {vs : List (Key × V)} {ds : List (Key × D)} (r : Rk K H ι vs ds) : ds.isEmpty = vs.isEmpty := by cases r <;> rfl
theorem truthD_ok {K : PySem.W.Frag} {H : Hp} {ι : List Addr} {T : Hq} {v : V} {d : D} {k : Bool} (h : HR K H ι T) (r : R K H ι v d) (e : truthD d T = some k) : TruV K v H k := by
  cases r with
  | non => exact (Option.some.inj e).symm
  | bl b => exact (Option.some.inj e).symm
  | int i => exact (Option.some.inj e).symm
  | exn _ _ _ => cases e
  | cex _ _ => cases e
  | tyv _ => cases e
  | cls _ => cases e
  | str x _ =>
    unfold truthD at e
    dsimp only at e
    by_cases hl : x.length ≤ sizeLine
    · rw [if_pos hl] at e; exact ⟨hl, (Option.some.inj e).symm⟩
    · rw [if_neg hl] at e; cases e
  | @tup a xs ds s r => exact .inr (.inl ⟨xs, s, by rw [← (Option.some.inj e), r.emp]⟩)
  | @rol a xs ds s r => exact .inl ⟨xs, s.sq, by rw [← (Option.some.inj e), r.emp]⟩
  | @obj a n ea =>
    obtain ⟨o, eo, ro⟩ := h.live ea
    unfold truthD at e
    dsimp only at e
    rw [eo] at e
    cases o with
    | lst ds =>
      obtain ⟨xs, ex, r⟩ := ro
      exact .inl ⟨xs, .of ex, by rw [← (Option.some.inj e), r.emp]⟩
    | dct ds =>
      obtain ⟨xs, ex, r⟩ := ro
      exact .inr (.inr ⟨xs, ex, by rw [← (Option.some.inj e), r.emp]⟩)
    | ins c fs => cases e
def ofOpt {α : Type} (o : Option α) (T : Hq) : Res α := match o with
  | some a => .ok a T
  | none => .stuck
/-- a value as a test -/
def bVal (m : EMn) : BMn := fun l T => (m l T).bind fun d T1 => ofOpt (truthD d T1) T1
theorem st_val {e : Expr} {m : EMn} (h : SE X e m) (he : ∀ whole, isTrue e X.env whole = (do let v ← whole; standAt e.pos; holding [v] (truthy v))) : ST X e (bVal m) := fun W tk =>
  PT.imp (pt_truth (h W tk) he) fun σ H Q ⟨ι, T, l, hS, hH, q⟩ =>
    rd_bind hS hH q fun d T1 v H1 ι1 e1 p1 hS1 h1 r1 q1 => by
      unfold ofOpt at q1
      cases ek : truthD d T1 with
      | none => rw [ek] at q1; exact q1.elim
      | some k =>
        rw [ek] at q1
        exact ⟨k, truthD_ok h1 r1 ek, q1 k H1 ι1 (Ext.refl _) (Pre.refl _) h1 rfl⟩
def bNot (m : BMn) : BMn := fun l T => (m l T).bind fun b T1 => .ok (!b) T1
theorem st_not {e : Expr} {m : BMn} {pos} (h : ST X e m) : ST X (.UnaryOp .Not e pos) (bNot m) := fun W tk =>
  PT.imp (pt_not (h W tk)) fun σ H Q ⟨ι, T, l, hS, hH, q⟩ =>
    rd_bind hS hH q fun b T1 v H1 ι1 e1 p1 hS1 h1 r1 q1 => by cases r1; exact q1 _ H1 ι1 (Ext.refl _) (Pre.refl _) h1 rfl
def bAnd (a b : BMn) : BMn := fun l T => (a l T).bind fun x T1 => if x = true then b l T1 else .ok false T1
def bOr (a b : BMn) : BMn := fun l T => (a l T).bind fun x T1 => if x = true then .ok true T1 else b l T1
def SW (X : Cx) (e : Expr) (m : BMn) : Prop := ∀ W, Takes X W → PW X e (rd Rb m X.K X.mg W)
theorem PW.imp {X : Cx} {e : Expr} {t t' : TT} (h : PW X e t) (f : ∀ σ H Q, t' σ H Q → t σ H Q) : PW X e t' := ⟨fun wh pins s σ H Q I q => h.run wh pins s σ H Q I (f _ _ _ q)⟩
theorem SW.st {e : Expr} {m : BMn} (h : SW X e m) : ST X e m := fun W tk => (h W tk).pt
theorem sw_and1 {a : Expr} {m : BMn} {pos} (h : ST X a m) : SW X (.BoolOp .And [a] pos) m := fun W tk => pw_and1 (h W tk)
theorem sw_or1 {a : Expr} {m : BMn} {pos} (h : ST X a m) : SW X (.BoolOp .Or [a] pos) m := fun W tk => pw_or1 (h W tk)
theorem sw_and {a b : Expr} {rest : List Expr} {m n : BMn} {pos} (h : ST X a m) (h' : SW X (.BoolOp .And (b :: rest) pos) n) : SW X (.BoolOp .And (a :: b :: rest) pos) (bAnd m n) := fun W tk =>
  PW.imp (pw_and (h W tk) (h' W tk)) fun σ H Q ⟨ι, T, l, hS, hH, q⟩ =>
    rd_bind hS hH q fun b T1 v H1 ι1 e1 p1 hS1 h1 r1 q1 => by
      have r1 : v = b := r1
      subst r1
      cases v with
      | true => simp only [if_true] at q1 ⊢; exact rd_here hS1 h1 q1
      | false => simp only [Bool.false_eq_true, if_false] at q1 ⊢; exact q1 _ H1 ι1 (Ext.refl _) (Pre.refl _) h1 rfl
theorem sw_or {a b : Expr} {rest : List Expr} {m n : BMn} {pos} (h : ST X a m) (h' : SW X (.BoolOp .Or (b :: rest) pos) n) : SW X (.BoolOp .Or (a :: b :: rest) pos) (bOr m n) := fun W tk =>
  PW.imp (pw_or (h W tk) (h' W tk)) fun σ H Q ⟨ι, T, l, hS, hH, q⟩ =>
    rd_bind hS hH q fun b T1 v H1 ι1 e1 p1 hS1 h1 r1 q1 => by
      have r1 : v = b := r1
      subst r1
      cases v with
      | true => simp only [if_true] at q1 ⊢; exact q1 _ H1 ι1 (Ext.refl _) (Pre.refl _) h1 rfl
      | false => simp only [Bool.false_eq_true, if_false] at q1 ⊢; exact rd_here hS1 h1 q1
def mIf (c : BMn) (a b : EMn) : EMn := fun l T => (c l T).bind fun x T1 => if x = true then a l T1 else b l T1
theorem se_if {c a b : Expr} {m : BMn} {n k : EMn} {pos} (hc : ST X c m) (ha : SE X a n) (hb : SE X b k) : SE X (.IfExp c a b pos) (mIf m n k) := fun W tk =>
  PE.imp (pe_ifExp (hc W tk) (ha W tk) (hb W tk)) fun σ H Q ⟨ι, T, l, hS, hH, q⟩ =>
    rd_bind hS hH q fun b T1 v H1 ι1 e1 p1 hS1 h1 r1 q1 => by
      have r1 : v = b := r1
      subst r1
      cases v with
      | true => simp only [if_true] at q1 ⊢; exact rd_here hS1 h1 q1
      | false => simp only [Bool.false_eq_true, if_false] at q1 ⊢; exact rd_here hS1 h1 q1

/-! ### operators on values -/
/-- the reading of a two-place meaning on values -/
def r2 (g : D → D → Hq → Res D) (K : PySem.W.Frag) (mg : Str → Option Value) (W : WX) (σ : L2.St) : R2 := fun x y H Q => ∃ ι T d e, HR K H ι T ∧ R K H ι x d ∧ R K H ι y e ∧ Post (Rr K) K mg W σ H ι Q (g d e T)
def Op2 (X : Cx) (f : Value → Value → Sem Value) (g : D → D → Hq → Res D) : Prop := ∀ W σ, OpR X f (r2 g X.K X.mg W σ)
def mBin (g : D → D → Hq → Res D) (a b : EMn) : EMn := fun l T => (a l T).bind fun x T1 => (b l T1).bind fun y T2 => g x y T2
theorem bin_rd {g : D → D → Hq → Res D} {a b : EMn} {K : PySem.W.Frag} {mg : Str → Option Value} {W : WX} {σ : L2.St} {H : Hp} {Q : VK} (h : rd (Rr K) (mBin g a b) K mg W σ H Q) :
    rd (Rr K) a K mg W σ H fun x H1 => rd (Rr K) b K mg W σ H1 fun y H2 => r2 g K mg W σ x y H2 Q := by
  obtain ⟨ι, T, l, hS, hH, q⟩ := h
  exact rd_bind hS hH q fun x T1 v H1 ι1 e1 p1 hS1 h1 r1 q1 => rd_bind hS1 h1 q1 fun y T2 u H2 ι2 e2 p2 hS2 h2 r2 q2 => ⟨ι2, T2, x, y, h2, r1.ext e2 p2, r2, q2⟩
theorem se_op {op : Operator} {g : D → D → Hq → Res D} {a b : Expr} {m n : EMn} {pos} (ho : Op2 X (binaryOp op) g) (ha : SE X a m) (hb : SE X b n) : SE X (.BinOp a op b pos) (mBin g m n) := fun W tk => by
  refine ⟨fun pins s σ H Q I h => ?_⟩
  exact (pe_op (ho W σ) (ha W tk) (hb W tk)).run pins s σ H Q I (bin_rd h)
theorem se_cmp {op : CmpOp} {g : D → D → Hq → Res D} {a b : Expr} {m n : EMn} {pos} (ho : Op2 X (compareOp op) g) (ha : SE X a m) (hb : SE X b n) (hm : behindInMarks op b = false) : SE X (.Compare a [op] [b] pos) (mBin g m n) := fun W tk => by
  refine ⟨fun pins s σ H Q I h => ?_⟩
  exact (pe_cmpR (ho W σ) (ha W tk) (hb W tk) hm).run pins s σ H Q I (bin_rd h)
/-- a meaning that must be a truth value -/
def asB (m : EMn) : BMn := fun l T => (m l T).bind fun d T1 => match d with
  | .bl b => .ok b T1
  | _ => .stuck
theorem asB_rd {m : EMn} {K : PySem.W.Frag} {mg : Str → Option Value} {W : WX} {σ : L2.St} {H : Hp} {Q : Bool → Hp → Prop} (h : rd Rb (asB m) K mg W σ H Q) : rd (Rr K) m K mg W σ H fun x H' => ∃ k, x = .bl k ∧ Q k H' := by
  obtain ⟨ι, T, l, hS, hH, q⟩ := h
  refine rd_bind hS hH q fun d T1 v H1 ι1 e1 p1 hS1 h1 r1 q1 => ?_
  cases r1 with
  | bl b => exact ⟨b, rfl, q1 b H1 ι1 (Ext.refl _) (Pre.refl _) h1 rfl⟩
  | _ => exact q1.elim
theorem st_cmp {op : CmpOp} {g : D → D → Hq → Res D} {a b : Expr} {m n : EMn} {pos} (ho : Op2 X (compareOp op) g) (ha : SE X a m) (hb : SE X b n) (hm : behindInMarks op b = false) : ST X (.Compare a [op] [b] pos) (asB (mBin g m n)) := fun W tk => by
  refine ⟨fun pins s σ H Q I h => ?_⟩
  exact (pt_cmpR (ho W σ) (ha W tk) (hb W tk) hm).run pins s σ H Q I (bin_rd (asB_rd h))
/-- a op1 b op2 c -/
def mChain (g g' : D → D → Hq → Res D) (a b c : EMn) : EMn := fun l T => (a l T).bind fun x T1 => (b l T1).bind fun y T2 => (g x y T2).bind fun z T3 => match z with
  | .bl true => (c l T3).bind fun w T4 => g' y w T4
  | .bl false => .ok (.bl false) T3
  | _ => .stuck
theorem chain_rd {g g' : D → D → Hq → Res D} {a b c : EMn} {K : PySem.W.Frag} {mg : Str → Option Value} {W : WX} {σ : L2.St} {H : Hp} {Q : VK} (h : rd (Rr K) (mChain g g' a b c) K mg W σ H Q) :
    tChain (r2 g K mg W σ) (r2 g' K mg W σ) (rd (Rr K) a K mg W) (rd (Rr K) b K mg W) (rd (Rr K) c K mg W) σ H Q := by
  obtain ⟨ι, T, l, hS, hH, q⟩ := h
  refine rd_bind hS hH q fun x T1 v H1 ι1 e1 p1 hS1 h1 r1 q1 => rd_bind hS1 h1 q1 fun y T2 u H2 ι2 e2 p2 hS2 h2 r2 q2 => ?_
  refine ⟨ι2, T2, x, y, h2, r1.ext e2 p2, r2, ?_⟩
  cases hz : g x y T2 with
  | stuck => rw [hz] at q2; exact q2.elim
  | exc cc d T3 => rw [hz] at q2; exact q2
  | ok z T3 =>
    rw [hz] at q2
    simp only [Res.bind_ok] at q2
    intro vz H3 ι3 e3 p3 h3 r3
    cases r3 with
    | bl k =>
      refine ⟨k, rfl, ?_⟩
      cases k with
      | true =>
        simp only [if_true]
        dsimp only at q2
        exact rd_bind (hS2.ext e3 p3) h3 (Post.ext e3 p3 q2) fun w T4 vw H4 ι4 e4 p4 hS4 h4 r4 q4 => ⟨ι4, T4, y, w, h4, (r2.ext e3 p3).ext e4 p4, r4, q4⟩
      | false =>
        simp only [Bool.false_eq_true, if_false]
        dsimp only at q2
        exact q2 _ H3 ι3 e3 p3 h3 (.bl false)
    | _ => exact q2.elim
theorem se_chain {op op' : CmpOp} {g g' : D → D → Hq → Res D} {a b c : Expr} {m n k : EMn} {pos} (ho : Op2 X (compareOp op) g) (ho' : Op2 X (compareOp op') g') (ha : SE X a m) (hb : SE X b n) (hc : SE X c k) (hm : lastMarks [op, op'] [b, c] = false) :
    SE X (.Compare a [op, op'] [b, c] pos) (mChain g g' m n k) := fun W tk => by
  refine ⟨fun pins s σ H Q I h => ?_⟩
  exact (pe_chain (ho W σ) (ho' W σ) (ha W tk) (hb W tk) (hc W tk) hm).run pins s σ H Q I (chain_rd h)
theorem st_chain {op op' : CmpOp} {g g' : D → D → Hq → Res D} {a b c : Expr} {m n k : EMn} {pos} (ho : Op2 X (compareOp op) g) (ho' : Op2 X (compareOp op') g') (ha : SE X a m) (hb : SE X b n) (hc : SE X c k) (hm : lastMarks [op, op'] [b, c] = false) :
    ST X (.Compare a [op, op'] [b, c] pos) (asB (mChain g g' m n k)) := fun W tk => by
  refine ⟨fun pins s σ H Q I h => ?_⟩
  refine (pt_chain (ho W σ) (ho' W σ) (ha W tk) (hb W tk) (hc W tk) hm).run pins s σ H Q I ?_
  refine chain_rd ?_
  exact asB_rd h
end
end Mn

set_option Elab.async false
set_option linter.all false
set_option maxRecDepth 100000
set_option maxHeartbeats 1000000
/-! Mini 3: statements. -/
namespace Mn
open PySem PySem.Spec PyProof.Rows L2

inductive SR where
  | nx (l : Lo) (T : Hq) | rt (d : D) (T : Hq) | bk (l : Lo) (T : Hq) | ct (l : Lo) (T : Hq) | exc (c : Str) (d : D) (l : Lo) (T : Hq) | stuck
abbrev SMn := Lo → Hq → SR
/-- an expression's result, then a statement's -/
def Res.sb {α : Type} (r : Res α) (l : Lo) (k : α → Hq → SR) : SR := match r with
  | .ok a T => k a T
  | .exc c d T => .exc c d l T
  | .stuck => .stuck
@[simp] theorem Res.sb_ok {α : Type} (a : α) (T : Hq) (l : Lo) (k : α → Hq → SR) : (Res.ok a T).sb l k = k a T := rfl
@[simp] theorem Res.sb_exc {α : Type} (c : Str) (d : D) (T : Hq) (l : Lo) (k : α → Hq → SR) : (Res.exc c d T : Res α).sb l k = .exc c d l T := rfl
@[simp] theorem Res.sb_stuck {α : Type} (l : Lo) (k : α → Hq → SR) : (Res.stuck : Res α).sb l k = .stuck := rfl
def PostS (K : PySem.W.Frag) (mg : Str → Option Value) (W : WX) (D : Ends) (H : Hp) (ι : List Addr) : SR → Prop
  | .nx l T => ∀ σ' H' ι', Ext H H' → Pre H ι H' ι' → HR K H' ι' T → RelS K H' ι' σ' l → D.nx σ' H'
  | .rt d T => ∀ v H' ι', Ext H H' → Pre H ι H' ι' → HR K H' ι' T → R K H' ι' v d → D.rt v H'
  | .bk l T => ∀ σ' H' ι', Ext H H' → Pre H ι H' ι' → HR K H' ι' T → RelS K H' ι' σ' l → D.bk σ' H'
  | .ct l T => ∀ σ' H' ι', Ext H H' → Pre H ι H' ι' → HR K H' ι' T → RelS K H' ι' σ' l → D.ct σ' H'
  | .exc c d l T => ∀ cls dx σ' H' ι', Ext H H' → Pre H ι H' ι' → HR K H' ι' T → XR K mg H' ι' cls dx c d → RelS K H' ι' σ' l → W cls dx σ' H'
  | .stuck => False
section
variable {K : PySem.W.Frag} {mg : Str → Option Value} {W : WX} {D D' : Ends} {H H1 : Hp} {ι ι1 : List Addr} {r : SR}
theorem PostS.ext (e : Ext H H1) (p : Pre H ι H1 ι1) (h : PostS K mg W D H ι r) : PostS K mg W D H1 ι1 r := by
  cases r with
  | nx l T => exact fun σ' H' ι' e' p' => h σ' H' ι' (e.trans e') (p.trans p')
  | rt l T => exact fun σ' H' ι' e' p' => h σ' H' ι' (e.trans e') (p.trans p')
  | bk l T => exact fun σ' H' ι' e' p' => h σ' H' ι' (e.trans e') (p.trans p')
  | ct l T => exact fun σ' H' ι' e' p' => h σ' H' ι' (e.trans e') (p.trans p')
  | exc c d l T => exact fun cls dx σ' H' ι' e' p' => h cls dx σ' H' ι' (e.trans e') (p.trans p')
  | stuck => exact h.elim
end
def rdS (m : SMn) (K : PySem.W.Frag) (mg : Str → Option Value) (W : WX) : TS := fun D σ H => ∃ ι T l, RelS K H ι σ l ∧ HR K H ι T ∧ PostS K mg W D H ι (m l T)
def SS (X : Cx) (st : Stmt) (m : SMn) : Prop := ∀ W, Takes X W → PS X st (rdS m X.K X.mg W)
def SSs (X : Cx) (sts : List Stmt) (m : SMn) : Prop := ∀ W, Takes X W → PSs X sts (rdS m X.K X.mg W)
theorem rdS_here {K : PySem.W.Frag} {mg : Str → Option Value} {W : WX} {D : Ends} {σ : L2.St} {H : Hp} {ι : List Addr} {T : Hq} {l : Lo} {m : SMn} (hS : RelS K H ι σ l) (hH : HR K H ι T) (h : PostS K mg W D H ι (m l T)) : rdS m K mg W D σ H := ⟨ι, T, l, hS, hH, h⟩
/-- an expression ahead of a statement's rest -/
theorem rdS_e {α β : Type} {rel : Hp → List Addr → β → α → Prop} {K : PySem.W.Frag} {mg : Str → Option Value} {W : WX} {D : Ends} {σ : L2.St} {H : Hp} {ι : List Addr} {T : Hq} {l : Lo} {Q1 : β → Hp → Prop} {a : Lo → Hq → Res α} {k : α → Hq → SR}
    (hS : RelS K H ι σ l) (hH : HR K H ι T) (h : PostS K mg W D H ι ((a l T).sb l k))
    (hQ : ∀ x T1 v H1 ι1, Ext H H1 → Pre H ι H1 ι1 → RelS K H1 ι1 σ l → HR K H1 ι1 T1 → rel H1 ι1 v x → PostS K mg W D H1 ι1 (k x T1) → Q1 v H1) : rd rel a K mg W σ H Q1 := by
  refine ⟨ι, T, l, hS, hH, ?_⟩
  cases hr : a l T with
  | ok x T1 =>
    rw [hr] at h
    exact fun v H1 ι1 e p h1 r => hQ x T1 v H1 ι1 e p (hS.ext e p) h1 r (PostS.ext e p h)
  | exc c d T1 =>
    rw [hr] at h
    exact fun cls dx H' ι' e p h' x => h cls dx σ H' ι' e p h' x (hS.ext e p)
  | stuck =>
    rw [hr] at h
    exact h.elim
section
variable {X : Cx}
def sNext : SMn := fun l T => .nx l T
def sSeq (m n : SMn) : SMn := fun l T => match m l T with
  | .nx l' T' => n l' T'
  | r => r
theorem seq_rd {m n : SMn} {K : PySem.W.Frag} {mg : Str → Option Value} {W : WX} {D : Ends} {σ : L2.St} {H : Hp} (h : rdS (sSeq m n) K mg W D σ H) : rdS m K mg W { D with nx := rdS n K mg W D } σ H := by
  obtain ⟨ι, T, l, hS, hH, q⟩ := h
  refine ⟨ι, T, l, hS, hH, ?_⟩
  unfold sSeq at q
  cases hr : m l T with
  | nx l' T' =>
    rw [hr] at q
    exact fun σ' H' ι' e p h' s' => ⟨ι', T', l', s', h', PostS.ext e p q⟩
  | rt d T' => rw [hr] at q; exact q
  | bk l' T' => rw [hr] at q; exact q
  | ct l' T' => rw [hr] at q; exact q
  | exc c d l' T' => rw [hr] at q; exact q
  | stuck => rw [hr] at q; exact q
theorem sss_nil : SSs X [] sNext := fun W tk => PSs.imp pss_nil fun D σ H ⟨ι, T, l, hS, hH, q⟩ => q σ H ι (Ext.refl _) (Pre.refl _) hH hS
theorem sss_cons {st : Stmt} {rest : List Stmt} {m n : SMn} (h : SS X st m) (h' : SSs X rest n) : SSs X (st :: rest) (sSeq m n) := fun W tk => PSs.imp (pss_cons (h W tk) (h' W tk)) fun D σ H q => seq_rd q
theorem sss_one {st : Stmt} {m : SMn} (h : SS X st m) : SSs X [st] m := fun W tk => pss_one (h W tk)
theorem ss_pass {pos} : SS X (.Pass pos) sNext := fun W tk => PS.imp ps_pass fun D σ H ⟨ι, T, l, hS, hH, q⟩ => q σ H ι (Ext.refl _) (Pre.refl _) hH hS
def sBreak : SMn := fun l T => .bk l T
def sCont : SMn := fun l T => .ct l T
theorem ss_break {pos} : SS X (.Break pos) sBreak := fun W tk => PS.imp ps_break fun D σ H ⟨ι, T, l, hS, hH, q⟩ => q σ H ι (Ext.refl _) (Pre.refl _) hH hS
theorem ss_cont {pos} : SS X (.Continue pos) sCont := fun W tk => PS.imp ps_continue fun D σ H ⟨ι, T, l, hS, hH, q⟩ => q σ H ι (Ext.refl _) (Pre.refl _) hH hS
def sExpr (m : EMn) : SMn := fun l T => (m l T).sb l fun _ T1 => .nx l T1
theorem ss_expr {e : Expr} {m : EMn} {pos : Pos} (h : SE X e m) (hs : swapsWith e none pos.line X.env = pure false) : SS X (.Expr e pos) (sExpr m) := fun W tk =>
  PS.imp (ps_expr (h W tk) hs) fun D σ H ⟨ι, T, l, hS, hH, q⟩ => rdS_e hS hH q fun x T1 v H1 ι1 e1 p1 hS1 h1 r1 q1 => q1 σ H1 ι1 (Ext.refl _) (Pre.refl _) h1 hS1
theorem ss_doc {x j pos pos'} : SS X (.Expr (.Constant (.str x) j pos) pos') sNext := fun W tk => PS.imp ps_doc fun D σ H ⟨ι, T, l, hS, hH, q⟩ => q σ H ι (Ext.refl _) (Pre.refl _) hH hS
def sRet (m : EMn) : SMn := fun l T => (m l T).sb l fun d T1 => .rt d T1
theorem ss_ret {e : Expr} {m : EMn} {pos : Pos} (h : SE X e m) : SS X (.Return (some e) pos) (sRet m) := fun W tk =>
  PS.imp (ps_ret (h W tk)) fun D σ H ⟨ι, T, l, hS, hH, q⟩ => rdS_e hS hH q fun x T1 v H1 ι1 e1 p1 hS1 h1 r1 q1 => q1 v H1 ι1 (Ext.refl _) (Pre.refl _) h1 r1
theorem ss_retN {pos : Pos} : SS X (.Return none pos) (sRet (mConst .non)) := fun W tk =>
  PS.imp ps_retN fun D σ H ⟨ι, T, l, hS, hH, q⟩ => q .non H ι (Ext.refl _) (Pre.refl _) hH .non
def sIf (c : BMn) (a b : SMn) : SMn := fun l T => (c l T).sb l fun x T1 => if x = true then a l T1 else b l T1
theorem ss_if {c : Expr} {a b : List Stmt} {m : BMn} {n k : SMn} {pos : Pos} (hc : ST X c m) (ha : SSs X a n) (hb : SSs X b k) : SS X (.If c a b pos) (sIf m n k) := fun W tk =>
  PS.imp (ps_if (hc W tk) (ha W tk) (hb W tk)) fun D σ H ⟨ι, T, l, hS, hH, q⟩ => rdS_e hS hH q fun b T1 v H1 ι1 e1 p1 hS1 h1 r1 q1 => by
    have r1 : v = b := r1
    subst r1
    cases v with
    | true => simp only [if_true] at q1 ⊢; exact rdS_here hS1 h1 q1
    | false => simp only [Bool.false_eq_true, if_false] at q1 ⊢; exact rdS_here hS1 h1 q1

/-! ### stores -/
def sSet (i : Nat) (m : EMn) : SMn := fun l T => (m l T).sb l fun d T1 => .nx (l.set i (some d)) T1
theorem ss_set {i : Nat} {x : Str} {e : Expr} {m : EMn} {pos pos' : Pos} (hN : X.N.Nodup) (hi : X.N[i]? = some x) (hx : Loc X.env.scope x) (he : SE X e m) (hs : swapsWith e (some (.Name x pos')) pos.line X.env = pure false) (hf : X.fn x = true ∨ X.env.scope.names.lookup x = some .local) :
    SS X (.Assign [.Name x pos'] e pos) (sSet i m) := fun W tk =>
  PS.imp (ps_set hN hi hx (he W tk) hs hf) fun D σ H ⟨ι, T, l, hS, hH, q⟩ => rdS_e hS hH q fun d T1 v H1 ι1 e1 p1 hS1 h1 r1 q1 => q1 _ H1 ι1 (Ext.refl _) (Pre.refl _) h1 (hS1.set r1 i)
/-- a target: what its store does -/
abbrev AMn := D → Lo → Hq → SR
def rdG (g : AMn) (K : PySem.W.Frag) (mg : Str → Option Value) (W : WX) : TG := fun v σ H Q => ∃ ι T l d, RelS K H ι σ l ∧ HR K H ι T ∧ R K H ι v d ∧ PostS K mg W { nx := Q, rt := fun _ _ => False } H ι (g d l T)
def SG (X : Cx) (tg : Expr) (g : AMn) : Prop := ∀ W, Takes X W → PG X tg (rdG g X.K X.mg W)
theorem PG.imp {X : Cx} {e : Expr} {t t' : TG} (h : PG X e t) (f : ∀ v σ H Q, t' v σ H Q → t v σ H Q) : PG X e t' := ⟨fun pins s σ H v u Q I r q => h.run pins s σ H v u Q I r (f _ _ _ _ q)⟩
def aName (i : Nat) : AMn := fun d l T => .nx (l.set i (some d)) T
theorem sg_name {i : Nat} {x : Str} {pos : Pos} (hN : X.N.Nodup) (hi : X.N[i]? = some x) (hx : Loc X.env.scope x) (hf : X.fn x = true ∨ X.env.scope.names.lookup x = some .local) : SG X (.Name x pos) (aName i) := fun W tk =>
  PG.imp (pg_name hN hi hx hf) fun v σ H Q ⟨ι, T, l, d, hS, hH, r, q⟩ => q _ H ι (Ext.refl _) (Pre.refl _) hH (hS.set r i)
def notStar : Expr → Bool
  | .Starred .. => false
  | _ => true
theorem assignEach_cons {e : Expr} {es : List Expr} {env : Env} (h : notStar e = true) : (assignEach (e :: es) env).map (·.2) = assign e env :: (assignEach es env).map (·.2) := by
  cases e <;> first | rfl | cases h
theorem starEach_cons {e : Expr} {es : List Expr} {env : Env} (h : notStar e = true) : starEach (e :: es) env = (false, eval e env) :: starEach es env := by
  cases e <;> first | rfl | cases h
/-- .. of several -/
abbrev AsMn := List D → Lo → Hq → SR
def rdGs (g : AsMn) (K : PySem.W.Frag) (mg : Str → Option Value) (W : WX) : TGs := fun vs σ H Q => ∃ ι T l ds, RelS K H ι σ l ∧ HR K H ι T ∧ Rs K H ι vs ds ∧ PostS K mg W { nx := Q, rt := fun _ _ => False } H ι (g ds l T)
def SGs (X : Cx) (ts : List Expr) (g : AsMn) : Prop := ∀ W, Takes X W → PGs X ts (rdGs g X.K X.mg W)
theorem PGs.imp {X : Cx} {e : List Expr} {t t' : TGs} (h : PGs X e t) (f : ∀ v σ H Q, t' v σ H Q → t v σ H Q) : PGs X e t' := ⟨fun pins s σ H v u Q I r q => h.run pins s σ H v u Q I r (f _ _ _ _ q)⟩
def asNil : AsMn := fun ds l T => match ds with
  | [] => .nx l T
  | _ => .stuck
def asCons (g : AMn) (r : AsMn) : AsMn := fun ds l T => match ds with
  | d :: ds => match g d l T with
    | .nx l' T' => r ds l' T'
    | q => q
  | [] => .stuck
theorem sgs_nil : SGs X [] asNil := fun W tk => PGs.imp pgs_nil fun vs σ H Q ⟨ι, T, l, ds, hS, hH, r, q⟩ => by
  cases r with
  | nil => exact ⟨rfl, q σ H ι (Ext.refl _) (Pre.refl _) hH hS⟩
  | cons _ _ => exact q.elim
theorem sgs_cons {e : Expr} {es : List Expr} {g : AMn} {k : AsMn} (h1 : SG X e g) (h2 : SGs X es k) (hn : notStar e = true) : SGs X (e :: es) (asCons g k) := fun W tk => PGs.imp (pgs_cons (h1 W tk) (h2 W tk) (assignEach_cons hn)) fun vs σ H Q ⟨ι, T, l, ds, hS, hH, r, q⟩ => by
  cases r with
  | nil => exact q.elim
  | @cons v vs d ds r rs =>
    refine ⟨_, _, rfl, ι, T, l, d, hS, hH, r, ?_⟩
    unfold asCons at q
    dsimp only at q
    cases hr : g d l T with
    | nx l' T' =>
      rw [hr] at q
      exact fun σ' H' ι' e p h' s' => ⟨ι', T', l', ds, s', h', rs.ext e p, PostS.ext e p q⟩
    | rt d T' => rw [hr] at q; exact q
    | bk l' T' => rw [hr] at q; exact q
    | ct l' T' => rw [hr] at q; exact q
    | exc c d l' T' => rw [hr] at q; exact q
    | stuck => rw [hr] at q; exact q
/-- a tuple is taken apart -/
def aTup (n : Nat) (g : AsMn) : AMn := fun d l T => match d with
  | .tup ds => if ds.length = n then g ds l T else .stuck
  | _ => .stuck
theorem sg_tup {es : List Expr} {g : AsMn} {k pos} (hc : X.calm = true) (h : SGs X es g) (hn : (es.findIdx? fun | .Starred .. => true | _ => false) = none) (hpg : ∀ t, PGs X es t → PG X (.Tuple es k pos) (gTup X.K es.length t)) : SG X (.Tuple es k pos) (aTup es.length g) := fun W tk =>
  PG.imp (hpg _ (h W tk)) fun v σ H Q ⟨ι, T, l, d, hS, hH, r, q⟩ => by
    cases r with
    | @tup a xs ds s r =>
      unfold aTup at q
      dsimp only at q
      by_cases hl : ds.length = es.length
      · rw [if_pos hl] at q
        exact ⟨a, xs, rfl, s, by rw [r.length]; exact hl, ι, T, l, ds, hS, hH, r, q⟩
      · rw [if_neg hl] at q; exact q.elim
    | _ => exact q.elim
def sAsg (m : EMn) (g : AMn) : SMn := fun l T => (m l T).sb l fun d T1 => match g d l T1 with
  | .nx l' T' => .nx l' T'
  | .exc c d l' T' => .exc c d l' T'
  | _ => .stuck
theorem ss_asg {tg e : Expr} {m : EMn} {g : AMn} {pos : Pos} (he : SE X e m) (hg : SG X tg g) (hs : swapsWithSole [tg] e pos.line X.env = pure false) (hw : swappedStores [tg] e X.env = pure none) (hn : notStar tg = true) : SS X (.Assign [tg] e pos) (sAsg m g) := fun W tk =>
  PS.imp (ps_asg (he W tk) (hg W tk) hs hw (assignEach_cons hn)) fun D σ H ⟨ι, T, l, hS, hH, q⟩ => rdS_e hS hH q fun d T1 v H1 ι1 e1 p1 hS1 h1 r1 q1 => by
    refine ⟨ι1, T1, l, d, hS1, h1, r1, ?_⟩
    cases hr : g d l T1 with
    | nx l' T' => rw [hr] at q1; exact q1
    | exc c d l' T' => rw [hr] at q1; exact q1
    | rt d T' => rw [hr] at q1; exact q1.elim
    | bk l' T' => rw [hr] at q1; exact q1.elim
    | ct l' T' => rw [hr] at q1; exact q1.elim
    | stuck => rw [hr] at q1; exact q1.elim
/-- a, b = x, y -/
def sPar (i j : Nat) (m : LMn) : SMn := fun l T => (m l T).sb l fun ds T1 => match ds with
  | [d, e] => .nx ((l.set i (some d)).set j (some e)) T1
  | _ => .stuck
theorem ss_par {i j : Nat} {x y : Str} {a b : Expr} {m : LMn} {px py pt : Pos} {kt k2 pt2 pos} (hN : X.N.Nodup) (hi : X.N[i]? = some x) (hj : X.N[j]? = some y)
    (h : ∀ t, PA X [a, b] t → PS X (.Assign [.Tuple [.Name x px, .Name y py] kt pt] (.Tuple [a, b] k2 pt2) pos) (tPar i j t)) (hm : SA X [a, b] m) : SS X (.Assign [.Tuple [.Name x px, .Name y py] kt pt] (.Tuple [a, b] k2 pt2) pos) (sPar i j m) := fun W tk =>
  PS.imp (h _ (hm W tk)) fun D σ H ⟨ι, T, l, hS, hH, q⟩ => rdS_e hS hH q fun ds T1 vs H1 ι1 e1 p1 hS1 h1 r1 q1 => by
    have r1 : Rs X.K H1 ι1 vs ds := r1
    cases r1 with
    | nil => exact q1.elim
    | cons ra ra' => cases ra' with
      | nil => exact q1.elim
      | cons rb rb' => cases rb' with
        | nil => exact ⟨_, _, rfl, q1 _ H1 ι1 (Ext.refl _) (Pre.refl _) h1 ((hS1.set ra i).set rb j)⟩
        | cons _ _ => exact q1.elim
def sPar3 (i j k : Nat) (m : LMn) : SMn := fun l T => (m l T).sb l fun ds T1 => match ds with
  | [d, e, f] => .nx (((l.set i (some d)).set j (some e)).set k (some f)) T1
  | _ => .stuck
theorem ss_par3 {i j k : Nat} {st : Stmt} {es : List Expr} {m : LMn} (h : ∀ t, PA X es t → PS X st (tPar3 i j k t)) (hm : SA X es m) : SS X st (sPar3 i j k m) := fun W tk =>
  PS.imp (h _ (hm W tk)) fun D σ H ⟨ι, T, l, hS, hH, q⟩ => rdS_e hS hH q fun ds T1 vs H1 ι1 e1 p1 hS1 h1 r1 q1 => by
    have r1 : Rs X.K H1 ι1 vs ds := r1
    cases r1 with
    | nil => exact q1.elim
    | cons ra ra' => cases ra' with
      | nil => exact q1.elim
      | cons rb rb' => cases rb' with
        | nil => exact q1.elim
        | cons rc rc' => cases rc' with
          | nil => exact ⟨_, _, _, rfl, q1 _ H1 ι1 (Ext.refl _) (Pre.refl _) h1 (((hS1.set ra i).set rb j).set rc k)⟩
          | cons _ _ => exact q1.elim
/-- x op= e -/
def sAug (i : Nat) (g : D → D → Hq → Res D) (m : EMn) : SMn := fun l T => match l[i]? with
  | some (some d) => (m l T).sb l fun e T1 => (g d e T1).sb l fun r T2 => .nx (l.set i (some r)) T2
  | _ => .stuck

/-! ### o[i] = e -/
def rSet (g : D → D → D → Hq → Option Hq) (K : PySem.W.Frag) : TSet := fun o i v H Q => ∃ ι T d k e, HR K H ι T ∧ R K H ι o d ∧ R K H ι i k ∧ R K H ι v e ∧ ∃ T', g d k e T = some T' ∧ ∀ H' ι', Ext H H' → Pre H ι H' ι' → HR K H' ι' T' → Q H'
def aSub (mo mi : EMn) (g : D → D → D → Hq → Option Hq) : AMn := fun e l T => (mo l T).sb l fun d T1 => (mi l T1).sb l fun k T2 => match g d k e T2 with
  | some T3 => .nx l T3
  | none => .stuck
theorem sg_sub {o i : Expr} {mo mi : EMn} {g : D → D → D → Hq → Option Hq} {pos} (ho : SE X o mo) (hi : SE X i mi) (hs : PSet X (rSet g X.K))
    (hpg : ∀ to ti, PE X o to → PE X i ti → PG X (.Subscript o i pos) (gSub to ti (rSet g X.K))) : SG X (.Subscript o i pos) (aSub mo mi g) := fun W tk =>
  PG.imp (hpg _ _ (ho W tk) (hi W tk)) fun v σ H Q ⟨ι, T, l, e, hS, hH, r, q⟩ =>
    rdS_e (D := { nx := Q, rt := fun _ _ => False }) hS hH q fun d T1 vo H1 ι1 e1 p1 hS1 h1 r1 q1 => rdS_e (D := { nx := Q, rt := fun _ _ => False }) hS1 h1 q1 fun k T2 vi H2 ι2 e2 p2 hS2 h2 r2 q2 => by
      cases hg : g d k e T2 with
      | none => rw [hg] at q2; exact q2.elim
      | some T3 =>
        rw [hg] at q2
        exact ⟨ι2, T2, d, k, e, h2, R.ext e2 p2 r1, r2, (r.ext e1 p1).ext e2 p2, T3, hg, fun H' ι' e' p' h' => q2 σ H' ι' e' p' h' (hS2.ext e' p')⟩
end
end Mn

set_option Elab.async false
set_option linter.all false
set_option maxRecDepth 100000
set_option maxHeartbeats 1000000
/-! Mini 4: loops, calls of defs, defs. -/
namespace Mn
open PySem PySem.Spec PyProof.Rows L2

/-! ### for -/
/-- what a walk yields at a turn: nothing is known (none), the end (some none), an item -/
abbrev Get := Hq → Nat → Option (Option D)
def ItRel (K : PySem.W.Frag) (J : It) (g : Get) (H1 : Hp) (ι1 : List Addr) : Prop := ∀ i H ι T, Ext H1 H → Pre H1 ι1 H ι → HR K H ι T → match g T i with
  | none => True
  | some none => J.stop i H
  | some (some d) => J.go i H ∧ ∀ x H', J.yld i H x H' → Ext H H' ∧ Pre H ι H' ι ∧ HR K H' ι T ∧ R K H' ι x d
abbrev IMn := Lo → Hq → Res (Nat × Get)
abbrev RIt (K : PySem.W.Frag) : Hp → List Addr → It → Nat × Get → Prop := fun H ι J p => ItRel K J p.2 H ι
def SI (X : Cx) (tg iter : Expr) (m : IMn) : Prop := ∀ W, Takes X W → PI X tg iter (fun σ H Q => rd (RIt X.K) m X.K X.mg W σ H Q)
def sLoop (g : Get) (tg : AMn) (body : SMn) : Nat → Nat → SMn
  | 0, i => fun l T => match g T i with
    | some none => .nx l T
    | _ => .stuck
  | f + 1, i => fun l T => match g T i with
    | some none => .nx l T
    | some (some d) => match tg d l T with
      | .nx l1 T1 => match body l1 T1 with
        | .nx l2 T2 => sLoop g tg body f (i + 1) l2 T2
        | .ct l2 T2 => sLoop g tg body f (i + 1) l2 T2
        | .bk l2 T2 => .nx l2 T2
        | .rt d T2 => .rt d T2
        | .exc c d l2 T2 => .exc c d l2 T2
        | .stuck => .stuck
      | .exc c d l2 T2 => .exc c d l2 T2
      | _ => .stuck
    | none => .stuck
def sFor (m : IMn) (tg : AMn) (body : SMn) : SMn := fun l T => (m l T).sb l fun p T1 => sLoop p.2 tg body p.1 0 l T1
theorem PI.imp {X : Cx} {tg e : Expr} {t t' : TI} (h : PI X tg e t) (f : ∀ σ H Q, t' σ H Q → t σ H Q) : PI X tg e t' := ⟨fun pins s σ H Q I q => h.run pins s σ H Q I (f _ _ _ q)⟩
section
variable {X : Cx}
theorem for_rd {K : PySem.W.Frag} {mg : Str → Option Value} {W : WX} {m : IMn} {tg : AMn} {body : SMn} {D : Ends} {σ : L2.St} {H : Hp} (h : rdS (sFor m tg body) K mg W D σ H) :
    tFor (fun σ H Q => rd (RIt K) m K mg W σ H Q) (rdG tg K mg W) (rdS body K mg W) D σ H := by
  obtain ⟨ι, T, l, hS, hH, q⟩ := h
  refine rdS_e hS hH q fun p T1 J H1 ι1 e1 p1 hS1 h1 r1 q1 => ?_
  obtain ⟨f0, g⟩ := p
  have r1 : ItRel K J g H1 ι1 := r1
  refine ⟨fun i m σ H => ∃ ι T l, RelS K H ι σ l ∧ HR K H ι T ∧ Ext H1 H ∧ Pre H1 ι1 H ι ∧ PostS K mg W D H ι (sLoop g tg body m i l T), ⟨f0, ι1, T1, l, hS1, h1, Ext.refl _, Pre.refl _, q1⟩, ?_⟩
  rintro i m σ H ⟨ι, T, l, hS, hH, eH, pι, q⟩
  have rr := r1 i H ι T eH pι hH
  have stop : g T i = some none → PostS K mg W D H ι (.nx l T) → J.stop i H ∧ D.nx σ H := fun eg q => by
    rw [eg] at rr
    exact ⟨rr, q σ H ι (Ext.refl _) (Pre.refl _) hH hS⟩
  cases m with
  | zero =>
    unfold sLoop at q
    cases eg : g T i with
    | none => rw [eg] at q; exact q.elim
    | some o =>
      cases o with
      | none => rw [eg] at q; exact .inl (stop eg q)
      | some d => rw [eg] at q; exact q.elim
  | succ f =>
    unfold sLoop at q
    cases eg : g T i with
    | none => rw [eg] at q; exact q.elim
    | some o =>
      cases o with
      | none => rw [eg] at q; exact .inl (stop eg q)
      | some d =>
        rw [eg] at q rr
        dsimp only at q rr
        obtain ⟨go, yld⟩ := rr
        refine .inr ⟨go, fun σ' H' => ∃ ι T l, RelS K H' ι σ' l ∧ HR K H' ι T ∧ Ext H1 H' ∧ Pre H1 ι1 H' ι ∧ PostS K mg W D H' ι (sLoop g tg body f (i + 1) l T), fun σ' H' z => ⟨f, Nat.lt_succ_self f, z⟩, fun x H' y => ?_⟩
        obtain ⟨e2, p2, h2, rx⟩ := yld x H' y
        refine ⟨ι, T, l, d, hS.ext e2 p2, h2, rx, ?_⟩
        cases hr : tg d l T with
        | nx l1 T1 =>
          rw [hr] at q
          dsimp only at q
          intro σ3 H3 ι3 e3 p3 h3 s3
          refine ⟨ι3, T1, l1, s3, h3, ?_⟩
          cases hb : body l1 T1 with
          | nx l2 T2 =>
            rw [hb] at q
            exact fun σ4 H4 ι4 e4 p4 h4 s4 => ⟨ι4, T2, l2, s4, h4, ((eH.trans e2).trans e3).trans e4, ((pι.trans p2).trans p3).trans p4, PostS.ext ((e2.trans e3).trans e4) ((p2.trans p3).trans p4) q⟩
          | ct l2 T2 =>
            rw [hb] at q
            exact fun σ4 H4 ι4 e4 p4 h4 s4 => ⟨ι4, T2, l2, s4, h4, ((eH.trans e2).trans e3).trans e4, ((pι.trans p2).trans p3).trans p4, PostS.ext ((e2.trans e3).trans e4) ((p2.trans p3).trans p4) q⟩
          | bk l2 T2 =>
            rw [hb] at q
            exact fun σ4 H4 ι4 e4 p4 h4 s4 => q σ4 H4 ι4 ((e2.trans e3).trans e4) ((p2.trans p3).trans p4) h4 s4
          | rt d T2 =>
            rw [hb] at q
            exact fun σ4 H4 ι4 e4 p4 h4 s4 => q σ4 H4 ι4 ((e2.trans e3).trans e4) ((p2.trans p3).trans p4) h4 s4
          | exc c d l2 T2 =>
            rw [hb] at q
            exact fun cls dx σ4 H4 ι4 e4 p4 h4 x4 s4 => q cls dx σ4 H4 ι4 ((e2.trans e3).trans e4) ((p2.trans p3).trans p4) h4 x4 s4
          | stuck => rw [hb] at q; exact q.elim
        | exc c d l2 T2 =>
          rw [hr] at q
          exact fun cls dx σ4 H4 ι4 e4 p4 h4 x4 s4 => q cls dx σ4 H4 ι4 (e2.trans e4) (p2.trans p4) h4 x4 s4
        | rt d T' => rw [hr] at q; exact q.elim
        | bk l' T' => rw [hr] at q; exact q.elim
        | ct l' T' => rw [hr] at q; exact q.elim
        | stuck => rw [hr] at q; exact q.elim
theorem ss_for {tg iter : Expr} {body : List Stmt} {m : IMn} {g : AMn} {b : SMn} {pos : Pos} (hp : PassesOwn (model X.prog X.w) X.A X.env X.xe) (hc : X.calm = true) (hi : SI X tg iter m) (hg : SG X tg g) (hb : SSs X body b)
    (hs : ∀ x, foldedSetIterable iter X.env x = pure x) : SS X (.For tg iter body [] pos) (sFor m g b) := fun W tk =>
  PS.imp (ps_for hp hc (hi W tk) (hg W tk) (hb W tk) hs) fun D σ H q => for_rd q

/-! ### what is walked -/
def getL (ds : List D) : Get := fun _ i => some ds[i]?
/-- a list that may change: its items as they stand -/
def getO (n : Nat) : Get := fun T i => match T[n]? with
  | some (.lst ds) => some ds[i]?
  | _ => none
def iSeq (m : EMn) : IMn := fun l T => (m l T).bind fun d T1 => match d with
  | .tup ds => .ok (ds.length, getL ds) T1
  | .rol ds => .ok (ds.length, getL ds) T1
  | .obj n => match T1[n]? with
    | some (.lst ds) => .ok (ds.length, getO n) T1
    | _ => .stuck
  | _ => .stuck
theorem SqL.tr {K : PySem.W.Frag} {H : Hp} {a : Addr} {xs : List V} (h : H a = some (.lst xs)) : SqL K H a xs := .inl (.inl h)
theorem itrel_tup {K : PySem.W.Frag} {a : Addr} {xs : List V} {ds : List D} {H1 : Hp} {ι1 : List Addr} (s : SqT K H1 a xs) (r : Rs K H1 ι1 xs ds) : ItRel K (Itt K a) (getL ds) H1 ι1 := fun i H ι T e p h => by
  have s' := SqT.ext e s
  have r' := Rs.ext e p r
  unfold getL
  cases hd : ds[i]? with
  | none => exact ⟨xs, s', by rw [r.length]; exact List.getElem?_eq_none_iff.mp hd⟩
  | some d =>
    obtain ⟨v, ev, rv⟩ := r'.get hd
    refine ⟨⟨xs, v, s', ev⟩, fun x H' y => ?_⟩
    obtain ⟨eH, y⟩ := y
    subst eH
    have := y xs s'
    rw [ev] at this
    cases this
    exact ⟨Ext.refl _, Pre.refl _, h, rv⟩
end
end Mn

set_option Elab.async false
set_option linter.all false
set_option maxRecDepth 100000
set_option maxHeartbeats 1000000
/-! Mini 5: what is walked; comprehensions. -/
namespace Mn
open PySem PySem.Spec PyProof.Rows L2

section
variable {X : Cx} {tg : Expr}
/-- a list or a tuple, walked -/
def iSq (K : PySem.W.Frag) (tl : TE) : TI := fun σ H Q => tl σ H fun x H1 => ∃ a, x = .ref a ∧ (((∃ xs, SqL K H1 a xs) ∧ Q (Itl K a) H1) ∨ ((∃ xs, SqT K H1 a xs) ∧ Q (Itt K a) H1))
theorem pi_seq {l : Expr} {tl : TE} (hl : PE X l tl) : PI X tg l (iSq X.K tl) := by
  refine ⟨fun pins s σ H Q I h => ?_⟩
  refine thn (hl.run pins s σ H _ I h) fun v s1 ⟨x, H1, I1, r1, q1⟩ => ?_
  obtain ⟨a, e, ⟨⟨xs, hq⟩, q⟩ | ⟨⟨xs, hq⟩, q⟩⟩ := q1
  · subst e
    cases r1
    obtain ⟨its, rv, p, hz⟩ := I1.list hq
    refine wpAny_pyIter_list p.isList ?_
    refine ⟨s1.heap.objs.size, [s1.heap.objs.size], _, _, H1, rfl, I1.kept (t' := s1.toks) fun b o e => Heap.get?_push_of_some _ e, turn_list a _, ⟨_, Heap.get?_push_size _ rfl, rfl, rfl⟩, fun b hb => ?_, q⟩
    have e : b = s1.heap.objs.size := by simpa using hb
    subst e
    exact I1.fpOk (Nat.le_refl _) (I1.hok.fresh (Nat.le_refl _))
  · subst e
    cases r1
    obtain ⟨its, rv, p, hz⟩ := I1.tuple hq
    refine wpAny_pyIter_tuple (show s1.heap.IsTuple a its.toArray from p) ?_
    refine ⟨s1.heap.objs.size, [s1.heap.objs.size], _, _, H1, rfl, I1.kept (t' := s1.toks) fun b o e => Heap.get?_push_of_some _ e, turn_tuple a _, ⟨_, Heap.get?_push_size _ rfl, rfl, rfl⟩, fun b hb => ?_, q⟩
    have e : b = s1.heap.objs.size := by simpa using hb
    subst e
    exact I1.fpOk (Nat.le_refl _) (I1.hok.fresh (Nat.le_refl _))
theorem HR.list {K : PySem.W.Frag} {H : Hp} {ι : List Addr} {T : Hq} (h : HR K H ι T) {n : Nat} {a : Addr} {ds : List D} (ea : ι[n]? = some a) (eo : T[n]? = some (.lst ds)) : ∃ xs, H a = some (.lst xs) ∧ Rs K H ι xs ds := h.at_ eo ea
theorem itrel_rol {K : PySem.W.Frag} {a : Addr} {xs : List V} {ds : List D} {H1 : Hp} {ι1 : List Addr} (s : RoL K H1 a xs) (r : Rs K H1 ι1 xs ds) : ItRel K (Itl K a) (getL ds) H1 ι1 := fun i H ι T e p h => by
  have s' := (RoL.ext e s).sq
  have r' := Rs.ext e p r
  unfold getL
  cases hd : ds[i]? with
  | none => exact ⟨xs, s', by rw [r.length]; exact List.getElem?_eq_none_iff.mp hd⟩
  | some d =>
    obtain ⟨v, ev, rv⟩ := r'.get hd
    refine ⟨⟨xs, v, s', ev⟩, fun x H' y => ?_⟩
    obtain ⟨eH, y⟩ := y
    subst eH
    have := y xs s'
    rw [ev] at this
    cases this
    exact ⟨Ext.refl _, Pre.refl _, h, rv⟩
theorem itrel_obj {K : PySem.W.Frag} {a : Addr} {n : Nat} {H1 : Hp} {ι1 : List Addr} (ea : ι1[n]? = some a) : ItRel K (Itl K a) (getO n) H1 ι1 := fun i H ι T e p h => by
  have ea' := p.at_ n a ea
  unfold getO
  cases eo : T[n]? with
  | none => trivial
  | some o =>
    cases o with
    | lst ds =>
      obtain ⟨xs, hx, r⟩ := h.list ea' eo
      dsimp only
      cases hd : ds[i]? with
      | none => exact ⟨xs, .of hx, by rw [r.length]; exact List.getElem?_eq_none_iff.mp hd⟩
      | some d =>
        obtain ⟨v, ev, rv⟩ := r.get hd
        refine ⟨⟨xs, v, .of hx, ev⟩, fun x H' y => ?_⟩
        obtain ⟨eH, y⟩ := y
        subst eH
        have := y xs (.of hx)
        rw [ev] at this
        cases this
        exact ⟨Ext.refl _, Pre.refl _, h, rv⟩
    | dct _ => trivial
    | ins _ _ => trivial
theorem si_seq {e : Expr} {m : EMn} (h : SE X e m) : SI X tg e (iSeq m) := fun W tk => PI.imp (pi_seq (h W tk)) fun σ H Q ⟨ι, T, l, hS, hH, q⟩ =>
  rd_bind hS hH q fun d T1 v H1 ι1 e1 p1 hS1 h1 r1 q1 => by
    cases r1 with
    | @tup a xs ds s r => exact ⟨a, rfl, .inr ⟨⟨xs, s⟩, q1 _ H1 ι1 (Ext.refl _) (Pre.refl _) h1 (itrel_tup s r)⟩⟩
    | @rol a xs ds s r => exact ⟨a, rfl, .inl ⟨⟨xs, s.sq⟩, q1 _ H1 ι1 (Ext.refl _) (Pre.refl _) h1 (itrel_rol s r)⟩⟩
    | @obj a n ea =>
      obtain ⟨o, eo, ro⟩ := h1.live ea
      dsimp only at q1
      rw [eo] at q1
      cases o with
      | lst ds =>
        obtain ⟨xs, ex, r⟩ := ro
        exact ⟨a, rfl, .inl ⟨⟨xs, .of ex⟩, q1 _ H1 ι1 (Ext.refl _) (Pre.refl _) h1 (itrel_obj ea)⟩⟩
      | dct _ => exact q1.elim
      | ins _ _ => exact q1.elim
    | _ => exact q1.elim
/-- a text, sign by sign -/
def sgs (x : Str) : List D := x.cps.toList.map fun c => .str ⟨#[c]⟩
def iStrM (m : EMn) : IMn := fun l T => (m l T).bind fun d T1 => match d with
  | .str x => .ok (x.cps.toList.length, getL (sgs x)) T1
  | _ => .stuck
theorem ok_sign {x : Str} {i : Nat} {c : Nat} (h : PyData.strOk x = true) (e : x.cps[i]? = some c) : PyData.strOk ⟨#[c]⟩ = true := by
  unfold PyData.strOk at h ⊢
  have h' := Array.all_eq_true'.mp h c (Array.mem_of_getElem? e)
  simpa using h'
theorem itrel_str {K : PySem.W.Frag} {x : Str} {H1 : Hp} {ι1 : List Addr} (hx : PyData.strOk x = true) : ItRel K (Its x) (getL (sgs x)) H1 ι1 := fun i H ι T e p h => by
  unfold getL sgs
  rw [List.getElem?_map]
  cases hc : x.cps.toList[i]? with
  | none =>
    have := List.getElem?_eq_none_iff.mp hc
    show x.cps.size ≤ i
    simpa using this
  | some c =>
    have hc' : x.cps[i]? = some c := by simpa using hc
    refine ⟨(Array.getElem?_eq_some_iff.mp hc').1, fun v H' y => ?_⟩
    obtain ⟨eH, c', ec, ev⟩ := y
    subst eH
    rw [hc'] at ec
    cases ec
    subst ev
    exact ⟨Ext.refl _, Pre.refl _, h, .str _ (ok_sign hx hc')⟩
theorem si_str {e : Expr} {m : EMn} (h : SE X e m) : SI X tg e (iStrM m) := fun W tk => PI.imp (pi_str (h W tk)) fun σ H Q ⟨ι, T, l, hS, hH, q⟩ =>
  rd_bind hS hH q fun d T1 v H1 ι1 e1 p1 hS1 h1 r1 q1 => by
    cases r1 with
    | str x hx => exact ⟨x, rfl, q1 _ H1 ι1 (Ext.refl _) (Pre.refl _) h1 (itrel_str hx)⟩
    | _ => exact q1.elim
/-- range -/
def getR (lo : Int) (n : Nat) : Get := fun _ i => some (if i < n then some (.int (lo + i)) else none)
def RgB (i : Int) : Prop := -(2 ^ 62) ≤ i ∧ i < 2 ^ 62
instance (i : Int) : Decidable (RgB i) := by unfold RgB; exact inferInstance
def iRng (m : LMn) : IMn := fun l T => (m l T).bind fun ds T1 => match ds with
  | [.int j] => if RgB j then .ok (j.toNat, getR 0 j.toNat) T1 else .stuck
  | _ => .stuck
def iRngT (m : LMn) : IMn := fun l T => (m l T).bind fun ds T1 => match ds with
  | [.int i, .int j] => if RgB i ∧ RgB j then .ok ((j - i).toNat, getR i (j - i).toNat) T1 else .stuck
  | _ => .stuck
theorem itrel_rng {K : PySem.W.Frag} {lo : Int} {n : Nat} {H1 : Hp} {ι1 : List Addr} : ItRel K (Itr lo n) (getR lo n) H1 ι1 := fun i H ι T e p h => by
  unfold getR
  by_cases hi : i < n
  · rw [if_pos hi]
    refine ⟨hi, fun v H' y => ?_⟩
    obtain ⟨eH, ev⟩ := y
    subst eH ev
    exact ⟨Ext.refl _, Pre.refl _, h, .int _⟩
  · rw [if_neg hi]
    exact Nat.le_of_not_lt hi
theorem Rs.inv1 {K : PySem.W.Frag} {H : Hp} {ι : List Addr} {vs : List V} {d : D} (r : Rs K H ι vs [d]) : ∃ v, vs = [v] ∧ R K H ι v d := by
  cases r with
  | cons r t => cases t; exact ⟨_, rfl, r⟩
theorem Rs.inv2 {K : PySem.W.Frag} {H : Hp} {ι : List Addr} {vs : List V} {d e : D} (r : Rs K H ι vs [d, e]) : ∃ v u, vs = [v, u] ∧ R K H ι v d ∧ R K H ι u e := by
  cases r with
  | cons r t => obtain ⟨u, rfl, r'⟩ := t.inv1; exact ⟨_, _, rfl, r, r'⟩
theorem si_rng {a : Expr} {m : LMn} {p pos : Pos} (hg : Gl X "range") (hm : X.mg "range" = none) (h : SA X [a] m) (hs : starEach [a] X.env = [(false, eval a X.env)]) : SI X tg (.Call (.Name "range" p) [a] [] pos) (iRng m) := fun W tk =>
  PI.imp (pi_range1 hg hm (h W tk) hs) fun σ H Q ⟨ι, T, l, hS, hH, q⟩ => rd_bind hS hH q fun ds T1 vs H1 ι1 e1 p1 hS1 h1 r1 q1 => by
    match ds, r1, q1 with
    | [.int j], r1, q1 =>
      obtain ⟨v, rfl, r⟩ := Rs.inv1 r1
      cases r
      by_cases hb : RgB j
      · simp only [if_pos hb] at q1
        exact ⟨j, rfl, hb.1, hb.2, q1 _ H1 ι1 (Ext.refl _) (Pre.refl _) h1 itrel_rng⟩
      · simp only [if_neg hb] at q1; exact q1.elim
theorem si_rngT {a b : Expr} {m : LMn} {p pos : Pos} (hg : Gl X "range") (hm : X.mg "range" = none) (h : SA X [a, b] m) (hs : starEach [a, b] X.env = [(false, eval a X.env), (false, eval b X.env)]) (hs2 : starEach [b] X.env = [(false, eval b X.env)]) :
    SI X tg (.Call (.Name "range" p) [a, b] [] pos) (iRngT m) := fun W tk =>
  PI.imp (pi_range2 hg hm (h W tk) hs hs2) fun σ H Q ⟨ι, T, l, hS, hH, q⟩ => rd_bind hS hH q fun ds T1 vs H1 ι1 e1 p1 hS1 h1 r1 q1 => by
    match ds, r1, q1 with
    | [.int i, .int j], r1, q1 =>
      obtain ⟨v, u, rfl, r, r'⟩ := Rs.inv2 r1
      cases r
      cases r'
      by_cases hb : RgB i ∧ RgB j
      · simp only [if_pos hb] at q1
        exact ⟨i, j, rfl, ⟨hb.1.1, hb.1.2, hb.2.1, hb.2.2⟩, q1 _ H1 ι1 (Ext.refl _) (Pre.refl _) h1 itrel_rng⟩
      · simp only [if_neg hb] at q1; exact q1.elim
/-- zip of two tuples, of two lists -/
def zipD : List D → List D → List D
  | x :: xs, y :: ys => .tup [x, y] :: zipD xs ys
  | _, _ => []
theorem zipD_get : ∀ (xs ys : List D) (i : Nat), (zipD xs ys)[i]? = match xs[i]?, ys[i]? with
    | some x, some y => some (.tup [x, y])
    | _, _ => none
  | [], ys, i => by simp [zipD]
  | x :: xs, [], i => by simp [zipD]
  | x :: xs, y :: ys, 0 => by simp [zipD]
  | x :: xs, y :: ys, i + 1 => by simp only [zipD, List.getElem?_cons_succ]; exact zipD_get xs ys i
def getZO (n m : Nat) : Get := fun T i => match T[n]?, T[m]? with
  | some (.lst xs), some (.lst ys) => some (zipD xs ys)[i]?
  | _, _ => none
def iZip (m : LMn) : IMn := fun l T => (m l T).bind fun ds T1 => match ds with
  | [.tup xs, .tup ys] => .ok ((zipD xs ys).length, getL (zipD xs ys)) T1
  | [.obj n, .obj k] => match T1[n]?, T1[k]? with
    | some (.lst xs), some (.lst ys) => .ok ((zipD xs ys).length, getZO n k) T1
    | _, _ => .stuck
  | _ => .stuck
theorem zip_pair {K : PySem.W.Frag} {H : Hp} {ι : List Addr} {T : Hq} {p : Addr} {x y : V} {d e : D} (h : HR K H ι T) (np : H p = none) (rx : R K H ι x d) (ry : R K H ι y e) :
    Ext H (upd H p (.tup [x, y])) ∧ Pre H ι (upd H p (.tup [x, y])) ι ∧ HR K (upd H p (.tup [x, y])) ι T ∧ R K (upd H p (.tup [x, y])) ι (.ref p) (.tup [d, e]) :=
  ⟨Ext.new np, Pre.side np, h.side np, .tup (.of upd_same) (.cons (rx.ext (Ext.new np) (Pre.side np)) (.cons (ry.ext (Ext.new np) (Pre.side np)) .nil))⟩
theorem itrel_zipT {K : PySem.W.Frag} {a b : Addr} {xs ys : List V} {ds es : List D} {H1 : Hp} {ι1 : List Addr} (s : SqT K H1 a xs) (r : Rs K H1 ι1 xs ds) (s' : SqT K H1 b ys) (r' : Rs K H1 ι1 ys es) :
    ItRel K (RZ.ItzT K a b) (getL (zipD ds es)) H1 ι1 := fun i H ι T e p h => by
  have s1 := SqT.ext e s
  have s2 := SqT.ext e s'
  have r1 := Rs.ext e p r
  have r2 := Rs.ext e p r'
  unfold getL
  rw [zipD_get]
  cases hd : ds[i]? with
  | none => exact ⟨xs, ys, s1, s2, .inl (by rw [r.length]; exact List.getElem?_eq_none_iff.mp hd)⟩
  | some d =>
    cases he : es[i]? with
    | none => exact ⟨xs, ys, s1, s2, .inr (by rw [r'.length]; exact List.getElem?_eq_none_iff.mp he)⟩
    | some d' =>
      obtain ⟨v, ev, rv⟩ := r1.get hd
      obtain ⟨u, eu, ru⟩ := r2.get he
      refine ⟨⟨xs, ys, v, u, s1, s2, ev, eu⟩, fun x H' y => ?_⟩
      obtain ⟨p', x', y', rfl, np, rfl, k1, k2⟩ := y
      have z1 := k1 xs s1
      have z2 := k2 ys s2
      rw [ev] at z1
      rw [eu] at z2
      cases z1
      cases z2
      exact zip_pair h np rv ru
theorem itrel_zipL {K : PySem.W.Frag} {a b : Addr} {n m : Nat} {H1 : Hp} {ι1 : List Addr} (ea : ι1[n]? = some a) (eb : ι1[m]? = some b) : ItRel K (Itz K a b) (getZO n m) H1 ι1 := fun i H ι T e p h => by
  have ea' := p.at_ n a ea
  have eb' := p.at_ m b eb
  unfold getZO
  cases eo : T[n]? with
  | none => trivial
  | some o =>
    cases o with
    | lst ds =>
      cases eo2 : T[m]? with
      | none => trivial
      | some o2 =>
        cases o2 with
        | lst es =>
          obtain ⟨xs, hx, r⟩ := h.list ea' eo
          obtain ⟨ys, hy, r'⟩ := h.list eb' eo2
          dsimp only
          rw [zipD_get]
          cases hd : ds[i]? with
          | none => exact ⟨xs, ys, .of hx, .of hy, .inl (by rw [r.length]; exact List.getElem?_eq_none_iff.mp hd)⟩
          | some d =>
            cases he : es[i]? with
            | none => exact ⟨xs, ys, .of hx, .of hy, .inr (by rw [r'.length]; exact List.getElem?_eq_none_iff.mp he)⟩
            | some d' =>
              obtain ⟨v, ev, rv⟩ := r.get hd
              obtain ⟨u, eu, ru⟩ := r'.get he
              refine ⟨⟨xs, ys, v, u, .of hx, .of hy, ev, eu⟩, fun x H' y => ?_⟩
              obtain ⟨p', x', y', rfl, np, rfl, k1, k2⟩ := y
              have z1 := k1 xs (.of hx)
              have z2 := k2 ys (.of hy)
              rw [ev] at z1
              rw [eu] at z2
              cases z1
              cases z2
              exact zip_pair h np rv ru
        | dct _ => trivial
        | ins _ _ => trivial
    | dct _ => trivial
    | ins _ _ => trivial
theorem si_zip {e e2 : Expr} {m : LMn} {p pos tpos : Pos} {elts : List Expr} {kk : Nat} (hg : Gl X "zip") (hm : X.mg "zip" = none) (ha : SA X [e, e2] m)
    (hs : starEach [e, e2] X.env = (false, eval e X.env) :: starEach [e2] X.env) (hpl : (backTo pos (starEach [e2] X.env)).any (·.1) = false) : SI X (.Tuple elts kk tpos) (.Call (.Name "zip" p) [e, e2] [] pos) (iZip m) := fun W tk =>
  PI.imp (RZ.pi_zipA hg hm (ha W tk) hs hpl) fun σ H Q ⟨ι, T, l, hS, hH, q⟩ => rd_bind hS hH q fun ds T1 vs H1 ι1 e1 p1 hS1 h1 r1 q1 => by
    match ds, r1, q1 with
    | [.tup xs, .tup ys], r1, q1 =>
      obtain ⟨v, u, rfl, r, r'⟩ := Rs.inv2 r1
      cases r with
      | @tup a vs _ s r => cases r' with
        | @tup b us _ s' r' => exact ⟨a, b, vs, us, rfl, .inr ⟨s, s', q1 _ H1 ι1 (Ext.refl _) (Pre.refl _) h1 (itrel_zipT s r s' r')⟩⟩
    | [.obj n, .obj k], r1, q1 =>
      obtain ⟨v, u, rfl, r, r'⟩ := Rs.inv2 r1
      cases r with
      | @obj a _ ea => cases r' with
        | @obj b _ eb =>
          obtain ⟨o, eo, ro⟩ := h1.live ea
          obtain ⟨o2, eo2, ro2⟩ := h1.live eb
          dsimp only at q1
          rw [eo, eo2] at q1
          cases o with
          | lst ds =>
            cases o2 with
            | lst es =>
              obtain ⟨xs, ex, _⟩ := ro
              obtain ⟨ys, ey, _⟩ := ro2
              exact ⟨a, b, xs, ys, rfl, .inl ⟨.of ex, .of ey, q1 _ H1 ι1 (Ext.refl _) (Pre.refl _) h1 (itrel_zipL ea eb)⟩⟩
            | dct _ => exact q1.elim
            | ins _ _ => exact q1.elim
          | dct _ => exact q1.elim
          | ins _ _ => exact q1.elim
end
end Mn

set_option Elab.async false
set_option linter.all false
set_option maxRecDepth 100000
set_option maxHeartbeats 1000000
/-! Mini 6: list comprehensions whose elements raise nothing. -/
namespace Mn
open PySem PySem.Spec PyProof.Rows L2

/-- the target of a clause: one name, or a tuple of names, by their slots -/
inductive Pat where
  | one (i : Nat) | many (is : List Nat)
def Pat.slots : Pat → List Nat
  | .one i => [i]
  | .many is => is
/-- what a clause's target makes of an item -/
def setAll : List Nat → List D → Lo → Option Lo
  | [], [], l => some l
  | i :: is, d :: ds, l => setAll is ds (l.set i (some d))
  | _, _, _ => none
def Pat.put (p : Pat) (d : D) (l : Lo) : Option Lo := match p with
  | .one i => some (l.set i (some d))
  | .many is => match d with
    | .tup ds => setAll is ds l
    | _ => none
def gNames : List Nat → TGs
  | [] => gNil
  | i :: is => gCons (gName i) (gNames is)
def Pat.g (K : PySem.W.Frag) : Pat → TG
  | .one i => gName i
  | .many is => gTup K is.length (gNames is)
def wipeL (l : Lo) : List Nat → Lo
  | [] => l
  | v :: vs => (wipeL l vs).set v none
section
variable {K : PySem.W.Frag} {H : Hp} {ι : List Addr} {T : Hq}
theorem RelS.wipe {σ : L2.St} {l : Lo} (h : RelS K H ι σ l) : ∀ vs : List Nat, RelS K H ι (wipe σ vs) (wipeL l vs)
  | [] => h
  | v :: vs => (RelS.wipe h vs).drop v
/-- slots that are no others' -/
theorem wipe_same {σ σ' : L2.St} : ∀ {vs : List Nat}, σ'.length = σ.length → (∀ j, j ∉ vs → σ'[j]? = σ[j]?) → wipe σ' vs = wipe σ vs := fun {vs} hl h => by
  have get : ∀ (vs : List Nat) (σ : L2.St) (j : Nat), (wipe σ vs)[j]? = if j ∈ vs ∧ j < σ.length then some none else σ[j]? := by
    intro vs
    induction vs with
    | nil => intro σ j; simp [wipe]
    | cons v vs ih =>
      intro σ j
      unfold wipe
      by_cases hv : v = j
      · subst hv
        by_cases hj : v < σ.length
        · rw [List.getElem?_set_self (by rw [wipe_length]; exact hj)]; simp [hj]
        · rw [List.getElem?_eq_none (by simp [wipe_length]; omega), if_neg (by simp [hj]), List.getElem?_eq_none (by omega)]
      · rw [List.getElem?_set_ne hv, ih]
        have : (j ∈ v :: vs) ↔ j ∈ vs := by simp [Ne.symm hv]
        simp only [this]
  apply List.ext_getElem?
  intro j
  rw [get, get]
  by_cases hj : j ∈ vs
  · rw [hl]
    by_cases hlt : j < σ.length
    · simp [hj, hlt]
    · rw [if_neg (by simp [hlt]), if_neg (by simp [hlt]), List.getElem?_eq_none (by omega), List.getElem?_eq_none (by omega)]
  · rw [if_neg (by simp [hj]), if_neg (by simp [hj])]
    exact h j hj
theorem names_rd : ∀ {is : List Nat} {ds : List D} {vs : List V} {σ : L2.St} {l l1 : Lo} {Q : L2.St → Hp → Prop}, setAll is ds l = some l1 → Rs K H ι vs ds → RelS K H ι σ l →
    (∀ σ2, RelS K H ι σ2 l1 → σ2.length = σ.length → (∀ j, j ∉ is → σ2[j]? = σ[j]?) → Q σ2 H) → gNames is vs σ H Q
  | [], [], _, σ, l, l1, Q, e, r, s, h => by
    cases r
    cases e
    exact ⟨rfl, h σ s rfl fun _ _ => rfl⟩
  | i :: is, d :: ds, _, σ, l, l1, Q, e, r, s, h => by
    cases r with
    | @cons v vs _ _ r rs =>
      refine ⟨v, vs, rfl, names_rd (is := is) (ds := ds) e rs (s.set r i) fun σ2 s2 hl hj => h σ2 s2 (by simpa using hl) fun j nj => ?_⟩
      have n1 : i ≠ j := fun z => nj (by simp [z])
      have n2 : j ∉ is := fun z => nj (by simp [z])
      rw [hj j n2, List.getElem?_set_ne n1]
  | [], d :: ds, _, σ, l, l1, Q, e, r, s, h => by cases e
  | i :: is, [], _, σ, l, l1, Q, e, r, s, h => by cases e
theorem setAll_len : ∀ {is : List Nat} {ds : List D} {l l1 : Lo}, setAll is ds l = some l1 → ds.length = is.length
  | [], [], _, _, _ => rfl
  | i :: is, d :: ds, l, l1, e => by simp [setAll_len (is := is) (ds := ds) e]
  | [], d :: ds, _, _, e => by cases e
  | i :: is, [], _, _, e => by cases e
theorem pat_rd {p : Pat} {d : D} {v : V} {σ : L2.St} {l l1 : Lo} {Q : L2.St → Hp → Prop} (e : p.put d l = some l1) (r : R K H ι v d) (s : RelS K H ι σ l)
    (h : ∀ σ2, RelS K H ι σ2 l1 → σ2.length = σ.length → (∀ j, j ∉ p.slots → σ2[j]? = σ[j]?) → Q σ2 H) : p.g K v σ H Q := by
  cases p with
  | one i =>
    have e' : l.set i (some d) = l1 := Option.some.inj e
    subst e'
    exact h _ (s.set r i) (by simp) fun j nj => List.getElem?_set_ne (fun z => nj (by simp [Pat.slots, z]))
  | many is =>
    cases r with
    | @tup a xs ds sq r =>
      have e' : setAll is ds l = some l1 := e
      exact ⟨a, xs, rfl, sq, by rw [r.length]; exact setAll_len e', names_rd e' r s h⟩
    | _ => cases e
end
/-- the items, one after the other -/
def cLoop (g : Get) (p : Pat) (cond : BMn) (elt : EMn) (l : Lo) : Nat → Nat → Hq → Res (List D)
  | 0, i, T => match g T i with
    | some none => .ok [] T
    | _ => .stuck
  | f + 1, i, T => match g T i with
    | some none => .ok [] T
    | some (some d) => match p.put d l with
      | some l1 => (cond l1 T).bind fun b T2 => if b = true then (elt l1 T2).bind fun y T3 => (cLoop g p cond elt l f (i + 1) T3).bind fun ys T4 => .ok (y :: ys) T4
          else cLoop g p cond elt l f (i + 1) T2
      | none => .stuck
    | none => .stuck
/-- what raises nothing -/
def Res.quiet {α : Type} : Res α → Res α
  | .exc _ _ _ => .stuck
  | r => r
def mCompV (own : List Nat) (it : IMn) (p : Pat) (cond : BMn) (elt : EMn) : LMn := fun l T => (it l T).bind fun q T1 => if q.1 ≤ sizeLine then (cLoop q.2 p cond elt (wipeL l own) q.1 0 T1).quiet else .stuck
def mComp (own : List Nat) (it : IMn) (p : Pat) (cond : BMn) (elt : EMn) : EMn := fun l T => (mCompV own it p cond elt l T).bind fun xs T1 => newL xs T1
section
variable {X : Cx}
def STs (X : Cx) (ifs : List Expr) (m : BMn) : Prop := ∀ W, Takes X W → PTs X ifs (rd Rb m X.K X.mg W)
def bYes : BMn := fun _ T => .ok true T
theorem sts_nil : STs X [] bYes := fun W tk => ⟨fun pins s σ H Q I ⟨ι, T, l, hS, hH, q⟩ => pts_nil.run pins s σ H Q I (q true H ι (Ext.refl _) (Pre.refl _) hH rfl)⟩
theorem sts_one {c : Expr} {m : BMn} (h : ST X c m) : STs X [c] m := fun W tk => pts_one (h W tk)
abbrev wNo : WX := fun _ _ _ _ => False
theorem rd_quiet {α β γ δ : Type} {rel : Hp → List Addr → β → α → Prop} {K : PySem.W.Frag} {mg : Str → Option Value} {σ : L2.St} {H : Hp} {ι : List Addr} {T : Hq} {l : Lo} {Q1 : β → Hp → Prop} {a : Lo → Hq → Res α} {k : α → Hq → Res γ} {k2 : γ → Hq → Res δ}
    (P : Res δ → Prop) (hP : ¬ P .stuck) (hS : RelS K H ι σ l) (hH : HR K H ι T) (h : P ((((a l T).bind k).quiet).bind k2))
    (hQ : ∀ x T1 v H1 ι1, Ext H H1 → Pre H ι H1 ι1 → RelS K H1 ι1 σ l → HR K H1 ι1 T1 → rel H1 ι1 v x → P (((k x T1).quiet).bind k2) → Q1 v H1) : rd rel a K mg wNo σ H Q1 := by
  refine ⟨ι, T, l, hS, hH, ?_⟩
  cases hr : a l T with
  | ok x T1 =>
    rw [hr] at h
    exact fun v H1 ι1 e p h1 r => hQ x T1 v H1 ι1 e p (hS.ext e p) h1 r h
  | exc c d T1 => rw [hr] at h; exact absurd h hP
  | stuck => rw [hr] at h; exact absurd h hP
theorem comp_rd {K : PySem.W.Frag} {mg : Str → Option Value} {W : WX} {own : List Nat} {it : IMn} {p : Pat} {cond : BMn} {elt : EMn} {σ : L2.St} {H : Hp} {Q : VK} (hp : ∀ i ∈ p.slots, i ∈ own) (h : rd (Rr K) (mComp own it p cond elt) K mg W σ H Q) :
    tLc (fun σ H Q => rd (RIt K) it K mg W σ H Q) (p.g K) (rd Rb cond K mg wNo) (rd (Rr K) elt K mg wNo) own σ H Q := by
  obtain ⟨ι, T, l, hS, hH, q⟩ := h
  unfold mComp mCompV at q
  rw [Res.bind_assoc] at q
  refine rd_bind hS hH q fun pr T1 J H1 ι1 e1 p1 hS1 h1 r1 q1 => ?_
  obtain ⟨f0, g⟩ := pr
  have r1 : ItRel K J g H1 ι1 := r1
  by_cases hz : f0 ≤ sizeLine
  case neg => rw [if_neg hz] at q1; exact q1.elim
  rw [if_pos hz] at q1
  intro D nD
  have eD := Ext.new (o := .lst []) nD
  have pD : Pre H1 ι1 (upd H1 D (.lst [])) ι1 := Pre.side nD
  have nin : D ∉ ι1 := h1.nin nD
  have PN : ¬ Post (Rr K) K mg W σ H1 ι1 Q .stuck := fun z => z
  -- the invariant: acc stands at D, the rest of the loop gives the rest
  refine ⟨fun i m H => ∃ ι T acc accD, HR K H ι T ∧ Ext H1 H ∧ Pre H1 ι1 H ι ∧ D ∉ ι ∧ H D = some (.lst acc) ∧ Rs K H ι acc accD ∧ acc.length + m ≤ f0 ∧
      Post (Rr K) K mg W σ H1 ι1 Q (((cLoop g p cond elt (wipeL l own) m i T).quiet).bind fun ys T2 => newL (accD ++ ys) T2),
    ⟨f0, ι1, T1, [], [], h1.side nD, eD, pD, nin, upd_same, .nil, by simp, q1⟩, ?_⟩
  rintro i m H ⟨ι, T, acc, accD, hH, eH, pι, nD', hD, rA, hm, q⟩
  have rr := r1 i H ι T eH pι hH
  have stop : g T i = some none → Post (Rr K) K mg W σ H1 ι1 Q (newL (accD ++ []) T) → J.stop i H ∧ Q (.ref D) H := fun eg q => by
    rw [eg] at rr
    refine ⟨rr, ?_⟩
    rw [List.append_nil] at q
    refine q _ H (ι ++ [D]) eH ⟨fun n a z => Pr.app _ _ n a (pι.at_ n a z), fun a o e n => ?_⟩ (hH.adopt nD' ⟨acc, hD, rA.mv (Ext.refl _) (Pr.app _ _)⟩) (.obj (by rw [← hH.len]; simp))
    obtain ⟨n1, o', e', k⟩ := pι.kp a o e n
    exact ⟨fun z => (List.mem_append.mp z).elim n1 fun z => ne_of_none e nD (by simpa using z), o', e', k⟩
  cases m with
  | zero =>
    unfold cLoop at q
    cases eg : g T i with
    | none => rw [eg] at q; exact q.elim
    | some o =>
      cases o with
      | none => rw [eg] at q; exact .inl (stop eg q)
      | some d => rw [eg] at q; exact q.elim
  | succ f =>
    unfold cLoop at q
    cases eg : g T i with
    | none => rw [eg] at q; exact q.elim
    | some o =>
      cases o with
      | none => rw [eg] at q; exact .inl (stop eg q)
      | some d =>
        rw [eg] at q rr
        dsimp only at q rr
        obtain ⟨go, yld⟩ := rr
        refine .inr ⟨go, fun H => ∃ ι T acc accD, HR K H ι T ∧ Ext H1 H ∧ Pre H1 ι1 H ι ∧ D ∉ ι ∧ H D = some (.lst acc) ∧ Rs K H ι acc accD ∧ acc.length + f ≤ f0 ∧
          Post (Rr K) K mg W σ H1 ι1 Q (((cLoop g p cond elt (wipeL l own) f (i + 1) T).quiet).bind fun ys T2 => newL (accD ++ ys) T2), fun H' z => ⟨f, Nat.lt_succ_self f, z⟩, fun x H' y => ?_⟩
        obtain ⟨e2, p2, h2, rx⟩ := yld x H' y
        have hS2 : RelS K H' ι (wipe σ own) (wipeL l own) := (RelS.wipe hS1 own).ext (eH.trans e2) (pι.trans p2)
        cases hput : p.put d (wipeL l own) with
        | none => rw [hput] at q; exact q.elim
        | some l1 =>
          rw [hput] at q
          dsimp only at q
          refine pat_rd hput rx hS2 fun σ2 s2 hl hj => ⟨?_, ?_⟩
          · have w1 : wipe σ2 own = wipe (wipe σ own) own := wipe_same hl fun j nj => hj j fun z => nj (hp j z)
            rw [w1]
            exact wipe_same (wipe_length _ _) fun j nj => by
              cases e : (wipe σ own)[j]? with
              | none =>
                have := List.getElem?_eq_none_iff.mp e
                rw [wipe_length] at this
                exact (List.getElem?_eq_none_iff.mpr this).symm
              | some o => 
                have hlt : j < σ.length := by rw [← wipe_length σ own]; exact (List.getElem?_eq_some_iff.mp e).1
                have : ∀ (vs : List Nat), j ∉ vs → (wipe σ vs)[j]? = σ[j]? := by
                  intro vs
                  induction vs with
                  | nil => intro _; rfl
                  | cons v vs ih => intro n; unfold wipe; rw [List.getElem?_set_ne (fun z => n (by simp [z])), ih fun z => n (by simp [z])]
                rw [← e, this own nj]
          have hD2 := p2.keep hD nD' (fun ps z => by cases z)
          refine rd_quiet (Post (Rr K) K mg W σ H1 ι1 Q) PN s2 h2 q fun b T2 vb H3 ι3 e3 p3 s3 h3 rb q3 => ?_
          have rb : vb = b := rb
          subst rb
          have hD3 := p3.keep hD2.1 hD2.2 (fun ps z => by cases z)
          have rA3 : Rs K H3 ι3 acc accD := (rA.ext e2 p2).ext e3 p3
          cases vb with
          | false =>
            simp only [Bool.false_eq_true, if_false] at q3 ⊢
            exact ⟨ι3, T2, acc, accD, h3, (eH.trans e2).trans e3, (pι.trans p2).trans p3, hD3.2, hD3.1, rA3, by omega, q3⟩
          | true =>
            simp only [if_true] at q3 ⊢
            refine rd_quiet (Post (Rr K) K mg W σ H1 ι1 Q) PN s3 h3 q3 fun y T4 vy H4 ι4 e4 p4 s4 h4 ry q4 => ?_
            have hD4 := p4.keep hD3.1 hD3.2 (fun ps z => by cases z)
            have rA4 : Rs K H4 ι4 acc accD := rA3.ext e4 p4
            refine ⟨acc, hD4.1, by omega, ?_⟩
            have E5 : Ext H4 (upd H4 D (.lst (acc ++ [vy]))) := Ext.write hD4.1 rfl
            have nw : ∀ (n : Nat) (a : Addr), ι4[n]? = some a → upd H4 D (.lst (acc ++ [vy])) a = H4 a := fun n a ea => upd_ne fun z => hD4.2 (by rw [← z]; exact List.mem_of_getElem? ea)
            refine ⟨ι4, T4, acc ++ [vy], accD ++ [y], h4.mono E5 nw, ((eH.trans e2).trans e3).trans (e4.trans E5), ?_, hD4.2, upd_same, (rA4.mv E5 (fun _ _ z => z)).app (.cons (R.mv E5 (fun _ _ z => z) ry) .nil), by simp; omega, ?_⟩
            · have pp := (((pι.trans p2).trans p3).trans p4)
              refine ⟨pp.at_, fun a o e n => ?_⟩
              obtain ⟨n1, o', e', k⟩ := pp.kp a o e n
              exact ⟨n1, o', by rw [upd_ne (ne_of_none e nD)]; exact e', k⟩
            · have eqr : ∀ r : Res (List Mn.D), ((r.bind fun ys T4 => Res.ok (y :: ys) T4).quiet).bind (fun ys T2 => newL (accD ++ ys) T2) = (r.quiet).bind fun ys T2 => newL (accD ++ [y] ++ ys) T2 := fun r => by
                cases r with
                | ok a T => show newL (accD ++ y :: a) T = newL (accD ++ [y] ++ a) T; rw [List.append_assoc]; rfl
                | exc c d T => rfl
                | stuck => rfl
              rw [eqr] at q4
              exact q4
theorem se_comp {elt tg iter : Expr} {ifs : List Expr} {scope : Scope} {own : List (Str × Nat)} {pos : Pos} {it : IMn} {p : Pat} {cond : BMn} {el : EMn} (hc : X.calm = true) (hN : X.N.Nodup) (hi : SI X tg iter it) (ok : BlkOk X.N X.env.scope scope own) (hp : ∀ i ∈ p.slots, i ∈ own.map (·.2))
    (hg : ∀ (s : Shared) (H : Hp) (C : Addr) (cl : List (Str × Addr)) (fp : List Addr), PG (X.blk s H scope (compEnvC scope cl C X.env) fp) tg (p.g X.K)) (ht : ∀ (s : Shared) (H : Hp) (C : Addr) (cl : List (Str × Addr)) (fp : List Addr), STs (X.blk s H scope (compEnvC scope cl C X.env) fp) ifs cond)
    (he : ∀ (s : Shared) (H : Hp) (C : Addr) (cl : List (Str × Addr)) (fp : List Addr), SE (X.blk s H scope (compEnvC scope cl C X.env) fp) elt el) (hs : ∀ x, foldedSetIterable iter X.env x = pure x) :
    SE X (.ListComp elt [⟨tg, iter, ifs, 0⟩] scope pos) (mComp (own.map (·.2)) it p cond el) := fun W tk =>
  PE.imp (pe_lc hc hN (hi W tk) ok hg (fun s H C cl fp => ht s H C cl fp wNo takes_none5) (fun s H C cl fp => he s H C cl fp wNo takes_none5) hs) fun σ H Q h => comp_rd hp h
/-- y = [..] -/
theorem ss_setComp {i : Nat} {y : Str} {py spos : Pos} {elt tg iter : Expr} {ifs : List Expr} {scope : Scope} {own : List (Str × Nat)} {pos : Pos} {it : IMn} {p : Pat} {cond : BMn} {el : EMn} (hc : X.calm = true) (hN : X.N.Nodup) (hy : X.N[i]? = some y) (hyl : X.env.scope.names.lookup y = some .local)
    (hsw : swapsWith (.ListComp elt [⟨tg, iter, ifs, 0⟩] scope pos) (some (.Name y py)) spos.line X.env = pure true) (hi : SI X tg iter it) (ok : BlkOk X.N X.env.scope scope own) (hp : ∀ i ∈ p.slots, i ∈ own.map (·.2))
    (hg : ∀ (s : Shared) (H : Hp) (C : Addr) (cl : List (Str × Addr)) (fp : List Addr), PG (X.blk s H scope (compEnvC scope cl C X.env) fp) tg (p.g X.K)) (ht : ∀ (s : Shared) (H : Hp) (C : Addr) (cl : List (Str × Addr)) (fp : List Addr), STs (X.blk s H scope (compEnvC scope cl C X.env) fp) ifs cond)
    (he : ∀ (s : Shared) (H : Hp) (C : Addr) (cl : List (Str × Addr)) (fp : List Addr), SE (X.blk s H scope (compEnvC scope cl C X.env) fp) elt el) (hs : ∀ x, foldedSetIterable iter X.env x = pure x) :
    SS X (.Assign [.Name y py] (.ListComp elt [⟨tg, iter, ifs, 0⟩] scope pos) spos) (sSet i (mComp (own.map (·.2)) it p cond el)) := fun W tk =>
  PS.imp (ps_setLc hc hN hy hyl hsw (hi W tk) ok hg (fun s H C cl fp => ht s H C cl fp wNo takes_none5) (fun s H C cl fp => he s H C cl fp wNo takes_none5) hs) fun D σ H ⟨ι, T, l, hS, hH, q⟩ =>
    comp_rd hp (rdS_e hS hH q fun d T1 v H1 ι1 e1 p1 hS1 h1 r1 q1 => q1 _ H1 ι1 (Ext.refl _) (Pre.refl _) h1 (hS1.set r1 i))
theorem pg_one {i : Nat} {x : Str} {pos : Pos} (hN : X.N.Nodup) (hi : X.N[i]? = some x) (hx : Loc X.env.scope x) (hf : X.fn x = true ∨ X.env.scope.names.lookup x = some .local) : PG X (.Name x pos) ((Pat.one i).g X.K) := pg_name hN hi hx hf
end
end Mn

set_option Elab.async false
set_option linter.all false
set_option maxRecDepth 100000
set_option maxHeartbeats 1000000
/-! Mini 7: defs and their calls. -/
namespace Mn
open PySem PySem.Spec PyProof.Rows L2

/-- what a def means: of arguments and heap -/
abbrev FMn := List D → Hq → Res D
/-- its promise over the layer -/
def spOf (n : Nat) (K : PySem.W.Frag) (mg : Str → Option Value) (F : FMn) : Sp := fun vs H Q E => vs.length = n ∧ ∃ ι T ds, HR K H ι T ∧ Rs K H ι vs ds ∧ Post (Rr K) K mg (fun cls dx _ H' => E cls dx H') [] H ι Q (F ds T)
/-- a def of the module, callable at level k -/
structure DefOk (P : Program) (w : World) (K : PySem.W.Frag) (mg : Str → Option Value) (base : Heap) (k : Nat) (x : Str) (n : Nat) (F : FMn) : Prop where
  ex : ∃ f fd ps, mg x = some (.ref f) ∧ PySem.W.keepIn K (.ref f) = true ∧ ps.length = n ∧ Binds K fd ps [] ∧ FnOk P w K mg base (L2.CX P w) k f fd ps (spOf n K mg F)
def mCall (n : Nat) (F : FMn) (m : LMn) : EMn := fun l T => (m l T).bind fun ds T1 => if ds.length = n then F ds T1 else .stuck
section
variable {X : Cx} {k n : Nat} {F : FMn}
theorem wpAny_callSD0 {f : Addr} {fd : FuncData} {ps : List Str} {sp : Sp} {E : L2.St → XK} {x : Str} {p pos : Pos} {CX : CXT} (Fn : FnOk X.prog X.w X.K X.mg X.base CX k f fd ps sp) (hr : Room k X.A) (hg : Gl X x) (hm : X.mg x = some (.ref f)) (hk : PySem.W.keepIn X.K (.ref f) = true) (hb : Binds X.K fd ps []) (hx : ∀ σ, PassesAt CX X σ (E σ))
    (hdb : (x == ("__debug__" : Str)) = false) : PE X (.Call (.Name x p) [] [] pos) (tCallSD sp [] E tNil) := by
  refine ⟨fun pins s σ H Q I h => ?_⟩
  refine wpAny_Call_Name_kw (ld_glob I hg hm ?_ hdb)
  exact PySem.W.callWith_K0 I.kIn hk (run_fnSD (us := []) Fn hr hb .nil (hx σ) I .nil h)
theorem call_rd {K : PySem.W.Frag} {mg : Str → Option Value} {W : WX} {m : LMn} {σ : L2.St} {H : Hp} {Q : VK} (h : rd (Rr K) (mCall n F m) K mg W σ H Q) : tCallSD (spOf n K mg F) [] (fun σ => WE W σ) (rd (Rl K) m K mg W) σ H Q := by
  obtain ⟨ι, T, l, hS, hH, q⟩ := h
  refine rd_bind hS hH q fun ds T1 vs H1 ι1 e1 p1 hS1 h1 r1 q1 => ?_
  have r1 : Rs K H1 ι1 vs ds := r1
  by_cases hl : ds.length = n
  · rw [if_pos hl] at q1
    rw [List.append_nil]
    refine ⟨by rw [r1.length]; exact hl, ι1, T1, ds, h1, r1, ?_⟩
    cases hr : F ds T1 with
    | ok d T2 => rw [hr] at q1; exact q1
    | exc c d T2 => rw [hr] at q1; exact q1
    | stuck => rw [hr] at q1; exact q1.elim
  · rw [if_neg hl] at q1; exact q1.elim
theorem se_call {x : Str} {p pos : Pos} {e : Expr} {es : List Expr} {m : LMn} (hd : DefOk X.prog X.w X.K X.mg X.base k x n F) (hr : Room k X.A) (hg : Gl X x) (ha : SA X (e :: es) m) (hdb : (x == ("__debug__" : Str)) = false)
    (he : starEach (e :: es) X.env = (false, eval e X.env) :: starEach es X.env) (hpl : (backTo pos (starEach es X.env)).any (·.1) = false) : SE X (.Call (.Name x p) (e :: es) [] pos) (mCall n F m) := fun W tk => by
  obtain ⟨f, fd, ps, hm, hk, hn, hb, Fn⟩ := hd.ex
  exact PE.imp (pe_callSD Fn hr hg hm hk hb .nil (fun σ => passAt tk σ) (ha W tk) hdb he hpl) fun σ H Q h => call_rd h
theorem se_call0 {x : Str} {p pos : Pos} (hd : DefOk X.prog X.w X.K X.mg X.base k x n F) (hr : Room k X.A) (hg : Gl X x) (hdb : (x == ("__debug__" : Str)) = false) : SE X (.Call (.Name x p) [] [] pos) (mCall n F mNil) := fun W tk => by
  obtain ⟨f, fd, ps, hm, hk, hn, hb, Fn⟩ := hd.ex
  refine PE.imp (wpAny_callSD0 Fn hr hg hm hk hb (fun σ => passAt tk σ) hdb) fun σ H Q h => ?_
  have z := call_rd h
  obtain ⟨ι, T, l, hS, hH, q⟩ := z
  exact q [] H ι (Ext.refl _) (Pre.refl _) hH .nil
end
/-- a def's body, from its arguments on -/
def startD (n : Nat) (ds : List D) : Lo := ds.map some ++ List.replicate (n - ds.length) none
def runBody (nN n : Nat) (m : SMn) : FMn := fun ds T => if ds.length = n then match m (startD nN ds) T with
    | .nx _ T' => .ok .non T'
    | .rt d T' => .ok d T'
    | .exc c d _ T' => .exc c d T'
    | _ => .stuck
  else .stuck
theorem relS_start {K : PySem.W.Frag} {H : Hp} {ι : List Addr} {N : List Str} {vs : List V} {ds : List D} (r : Rs K H ι vs ds) : RelS K H ι (start N vs) (startD N.length ds) := by
  unfold L2.start startD
  refine ⟨by simp [r.length], fun i d e => ?_⟩
  by_cases hi : i < ds.length
  · rw [List.getElem?_append_left (by simpa using hi), List.getElem?_map] at e
    cases hd : ds[i]? with
    | none => rw [hd] at e; cases e
    | some d' =>
      rw [hd] at e
      cases e
      obtain ⟨v, ev, rv⟩ := r.get hd
      refine ⟨v, ?_, rv⟩
      rw [List.getElem?_append_left (by simpa [r.length] using hi), List.getElem?_map, ev]
      rfl
  · rw [List.getElem?_append_right (by simpa using hi), List.getElem?_replicate] at e
    split at e <;> cases e
/-- the context of a def's body -/
abbrev bodyCx (P : Program) (w : World) (K : PySem.W.Frag) (mg : Str → Option Value) (base : Heap) (N : List Str) (qual : Str) (scope : Scope) (f : Addr) (cdv : Value) (A : Around) (outer : List Env) (s : Shared) (H : Hp) (E : XK) : Cx :=
  cxOf (L2.CX P w) P w K mg base N qual scope f cdv A outer s H E
/-- THE RULE for a def: its body's meaning -/
theorem fn_ok {P : Program} {w : World} {K : PySem.W.Frag} {mg : Str → Option Value} {base : Heap} {x qual : Str} {params : Arguments} {body : List Stmt} {scope : Scope} {dvs : List V} {kws : List (Str × V)} {f : Addr} {fd : FuncData} {N ps : List Str} {k : Nat} {m : SMn}
    (F : FunD K x qual params body scope dvs kws f fd) (S : FnScope N ps scope)
    (hb : ∀ (cdv : Value) (A : Around) (outer : List Env) (s : Shared) (H : Hp) (E : XK), Room k (A.deeper (envOfC qual scope s.heap.objs.size f cdv)) → SSs (bodyCx P w K mg base N qual scope f cdv A outer s H E) body m) :
    FnOk P w K mg base (L2.CX P w) (k + 1) f fd ps (spOf ps.length K mg (runBody N.length ps.length m)) := by
  refine F.ok S (fun vs H Q E h => h.1) fun cdv A outer s H vs Q E hr h => ?_
  obtain ⟨hl, ι, T, ds, hH, r, q⟩ := h
  refine ⟨_, hb cdv A outer s H E hr (fun cls dx _ H' => E cls dx H') (takes_of rfl rfl rfl rfl), ι, T, _, relS_start r, hH, ?_⟩
  unfold runBody at q
  rw [if_pos (by rw [← r.length]; exact hl)] at q
  cases hm : m (startD N.length ds) T with
  | nx l T' => rw [hm] at q; exact fun σ' H' ι' e p h' _ => q .non H' ι' e p h' .non
  | rt d T' => rw [hm] at q; exact q
  | exc c d l T' => rw [hm] at q; exact fun cls dx σ' H' ι' e p h' x _ => q cls dx H' ι' e p h' x
  | bk l T' => rw [hm] at q; exact q.elim
  | ct l T' => rw [hm] at q; exact q.elim
  | stuck => rw [hm] at q; exact q.elim
/-! ### built-ins by name -/
def CallD (X : Cx) (f : Value) (g : List D → Hq → Res D) : Prop := ∀ W σ, CallR X f (fun vs H Q => ∃ ι T ds, HR X.K H ι T ∧ Rs X.K H ι vs ds ∧ Post (Rr X.K) X.K X.mg W σ H ι Q (g ds T))
def mCallB (g : List D → Hq → Res D) (m : LMn) : EMn := fun l T => (m l T).bind g
section
variable {X : Cx}
theorem callB_rd {K : PySem.W.Frag} {mg : Str → Option Value} {W : WX} {m : LMn} {g : List D → Hq → Res D} {σ : L2.St} {H : Hp} {Q : VK} (h : rd (Rr K) (mCallB g m) K mg W σ H Q) :
    rd (Rl K) m K mg W σ H fun vs H1 => ∃ ι T ds, HR K H1 ι T ∧ Rs K H1 ι vs ds ∧ Post (Rr K) K mg W σ H1 ι Q (g ds T) := by
  obtain ⟨ι, T, l, hS, hH, q⟩ := h
  exact rd_bind hS hH q fun ds T1 vs H1 ι1 e1 p1 hS1 h1 r1 q1 => ⟨ι1, T1, ds, h1, r1, q1⟩
end
end Mn

set_option Elab.async false
set_option linter.all false
set_option maxRecDepth 100000
set_option maxHeartbeats 1000000
/-! Mini 8: operators. -/
namespace Mn
open PySem PySem.Spec PyProof.Rows L2

section
variable {X : Cx} {K : PySem.W.Frag} {mg : Str → Option Value} {W : WX} {σ : L2.St} {H : Hp} {ι : List Addr} {T : Hq}
/-- a result that is there -/
theorem post_ok {Q : VK} {d : D} {v : V} (h : HR K H ι T) (r : R K H ι v d) (q : Post (Rr K) K mg W σ H ι Q (.ok d T)) : Q v H := q v H ι (Ext.refl _) (Pre.refl _) h r
/-- a new tuple -/
theorem post_tup {Q : VK} {ds : List D} {vs : List V} {p : Addr} (h : HR K H ι T) (r : Rs K H ι vs ds) (q : Post (Rr K) K mg W σ H ι Q (.ok (.tup ds) T)) (np : H p = none) : Q (.ref p) (upd H p (.tup vs)) :=
  q _ _ ι (Ext.new np) (Pre.side np) (h.side np) (.tup (.of upd_same) (r.ext (Ext.new np) (Pre.side np)))
end
def addD (d e : D) (T : Hq) : Res D := match d, e with
  | .int i, .int j => .ok (.int (i + j)) T
  | .str a, .str b => if a.length + b.length ≤ sizeLine then .ok (.str (a ++ b)) T else .stuck
  | .tup xs, .tup ys => if xs.length + ys.length ≤ sizeLine then .ok (.tup (xs ++ ys)) T else .stuck
  | .obj n, .obj m => match T[n]?, T[m]? with
    | some (.lst xs), some (.lst ys) => if xs.length + ys.length ≤ sizeLine then newL (xs ++ ys) T else .stuck
    | _, _ => .stuck
  | _, _ => .stuck
theorem ok_app {a b : Str} (ha : PyData.strOk a = true) (hb : PyData.strOk b = true) : PyData.strOk (a ++ b) = true := by
  unfold PyData.strOk at ha hb ⊢
  have : (a ++ b).cps = a.cps ++ b.cps := rfl
  rw [this, Array.all_append, ha, hb]; rfl
theorem ok_list {x : Str} : PyData.strOk x = x.cps.toList.all (· < 0x110000) := by
  unfold PyData.strOk
  simp
theorem ok_rep {a : Str} (n : Nat) (ha : PyData.strOk a = true) : PyData.strOk ⟨(List.replicate n a.cps.toList).flatten.toArray⟩ = true := by
  rw [ok_list] at ha ⊢
  simp only [List.all_eq_true, decide_eq_true_eq] at ha ⊢
  intro c hc
  have hc : c ∈ (List.replicate n a.cps.toList).flatten := by simpa using hc
  obtain ⟨l, hl, hcl⟩ := List.mem_flatten.mp hc
  rw [(List.mem_replicate.mp hl).2] at hcl
  exact ha c hcl
section
variable {X : Cx}
theorem o2_add : Op2 X (binaryOp .Add) addD := by
  intro W σ pins s σ0 H x y v u Q I rx ry ⟨ι, T, d, e, hH, r1, r2', q⟩
  unfold addD at q
  cases r1 with
  | int i => cases r2' with
    | int j => exact op_add pins s σ0 H _ _ v u Q I rx ry ⟨i, j, rfl, rfl, post_ok hH (.int _) q⟩
    | _ => exact q.elim
  | str a ha => cases r2' with
    | str b hb =>
      dsimp only at q
      by_cases hl : a.length + b.length ≤ sizeLine
      · rw [if_pos hl] at q
        exact op_add_str pins s σ0 H _ _ v u Q I rx ry ⟨a, b, rfl, rfl, hl, post_ok hH (.str _ (ok_app ha hb)) q⟩
      · rw [if_neg hl] at q; exact q.elim
    | _ => exact q.elim
  | @tup a vs xs sa ra => cases r2' with
    | @tup b us ys sb rb =>
      dsimp only at q
      by_cases hl : xs.length + ys.length ≤ sizeLine
      · rw [if_pos hl] at q
        refine op_catA pins s σ0 H _ _ v u Q I rx ry ⟨a, b, vs, us, rfl, rfl, sa, sb, by rw [ra.length, rb.length]; exact hl, fun e => ?_, fun e1 e2 => ?_, fun _ _ p np => post_tup hH (ra.app rb) q np⟩
        · subst e
          cases ra
          exact post_ok hH (.tup sb rb) q
        · subst e2
          cases rb
          rw [List.append_nil] at q
          exact post_ok hH (.tup sa ra) q
      · rw [if_neg hl] at q; exact q.elim
    | _ => exact q.elim
  | @obj a n ea => cases r2' with
    | @obj b m eb =>
      obtain ⟨o, eo, ro⟩ := hH.live ea
      obtain ⟨o2, eo2, ro2⟩ := hH.live eb
      dsimp only at q
      rw [eo, eo2] at q
      cases o with
      | lst xs => cases o2 with
        | lst ys =>
          dsimp only at q
          obtain ⟨vs, ex, ra⟩ := ro
          obtain ⟨us, ey, rb⟩ := ro2
          by_cases hl : xs.length + ys.length ≤ sizeLine
          · rw [if_pos hl] at q
            exact op_cat pins s σ0 H _ _ v u Q I rx ry ⟨a, b, vs, us, rfl, rfl, ex, ey, by rw [ra.length, rb.length]; exact hl, post_newL hH (ra.app rb) q⟩
          · rw [if_neg hl] at q; exact q.elim
        | _ => exact q.elim
      | _ => exact q.elim
    | _ => exact q.elim
  | _ => exact q.elim
def subD (d e : D) (T : Hq) : Res D := match d, e with
  | .int i, .int j => .ok (.int (i - j)) T
  | _, _ => .stuck
theorem o2_sub : Op2 X (binaryOp .Sub) subD := by
  intro W σ pins s σ0 H x y v u Q I rx ry ⟨ι, T, d, e, hH, r1, r2', q⟩
  unfold subD at q
  cases r1 with
  | int i => cases r2' with
    | int j => exact op_sub pins s σ0 H _ _ v u Q I rx ry ⟨i, j, rfl, rfl, post_ok hH (.int _) q⟩
    | _ => exact q.elim
  | _ => exact q.elim
/-- a text, so many times -/
def repS (x : Str) (n : Nat) : Str := ⟨(List.replicate n x.cps.toList).flatten.toArray⟩
instance (i j : Int) : Decidable (CMul i j) := by unfold CMul; exact inferInstance
def mulD (d e : D) (T : Hq) : Res D := match d, e with
  | .int i, .int j => if CMul i j then .ok (.int (i * j)) T else .stuck
  | .str a, .int j => if 1 ≤ j ∧ j ≤ 1000 ∧ a.length ≤ 1000 then .ok (.str (repS a j.toNat)) T else .stuck
  | .obj n, .int j => match T[n]? with
    | some (.lst xs) => if 0 ≤ j ∧ j < 2 ^ 63 ∧ xs.length * j.toNat ≤ sizeLine then newL (List.replicate j.toNat xs).flatten T else .stuck
    | _ => .stuck
  | _, _ => .stuck

theorem repS_eq (x : Str) (n : Nat) : (⟨(List.replicate n x.cps).foldl (· ++ ·) #[]⟩ : Str) = repS x n := by
  have h : ∀ (l : List (Array Nat)) (a : Array Nat), (l.foldl (· ++ ·) a).toList = a.toList ++ (l.map Array.toList).flatten := by
    intro l
    induction l with
    | nil => intro a; simp
    | cons b l ih => intro a; rw [List.foldl_cons, ih]; simp
  unfold repS
  congr 1
  apply Array.ext'
  rw [h]
  simp
theorem o2_mul : Op2 X (binaryOp .Mult) mulD := by
  intro W σ pins s σ0 H x y v u Q I rx ry ⟨ι, T, d, e, hH, r1, r2', q⟩
  unfold mulD at q
  cases r1 with
  | int i => cases r2' with
    | int j =>
      dsimp only at q
      by_cases hc : CMul i j
      · rw [if_pos hc] at q
        exact op_mul pins s σ0 H _ _ v u Q I rx ry ⟨i, j, rfl, rfl, hc, post_ok hH (.int _) q⟩
      · rw [if_neg hc] at q; exact q.elim
    | _ => exact q.elim
  | str a ha => cases r2' with
    | int j =>
      dsimp only at q
      by_cases hc : 1 ≤ j ∧ j ≤ 1000 ∧ a.length ≤ 1000
      case neg => rw [if_neg hc] at q; exact q.elim
      rw [if_pos hc] at q
      obtain ⟨t, rfl⟩ := rx
      obtain ⟨t', rfl⟩ := ry
      have hz : a.length * j.toNat ≤ 1000 * 1000 := Nat.mul_le_mul hc.2.2 (by omega)
      have q' : Q (.str (repS a j.toNat)) H := post_ok hH (.str _ (ok_rep _ ha)) q
      have fin : ∀ t tk, EP X pins σ0 Q (.str (repS a j.toNat) t) { s with toks := tk } := fun t tk => ⟨.str _, H, I.tok _, ⟨_, rfl⟩, q'⟩
      refine PySem.P.mul_str ?_ (fun _ hn => ?_) (fun _ _ => ?_) ?_
      · have h1 : ¬ j < -(2 ^ 63 : Int) := by omega
        have h2 : ¬ j ≥ 2 ^ 63 := by omega
        rw [decide_eq_false h1, decide_eq_false h2]; rfl
      · have h1 : 0 < j := by omega
        have h3 : (1000 : Int) ≤ (2 ^ 63 - 1) / j := (Int.le_ediv_iff_mul_le h1).mpr (by omega)
        omega
      · unfold Builtin.Str.tooLong
        exact decide_eq_false (by rw [sizeLine_eq]; omega)
      · rw [if_neg (by omega)]
        by_cases h1 : (j == 1 || a.length == 0) = true
        · rw [if_pos h1]
          have e : repS a j.toNat = a := by
            rcases Bool.or_eq_true_iff.mp h1 with z | z
            · have : j = 1 := by simpa using z
              subst this
              unfold repS; simp
            · have z' : a.cps.toList = [] := by
                have : a.length = 0 := by simpa using z
                unfold Str.length at this
                simpa using this
              unfold repS
              rw [z']
              have : (List.replicate j.toNat ([] : List Nat)).flatten = [] := by simp
              rw [this]
              cases a with
              | mk c => congr 1; apply Array.ext'; simpa using z'.symm
          rw [e] at q'
          exact ⟨.str a, H, I, ⟨_, rfl⟩, q'⟩
        · rw [if_neg h1, repS_eq]
          refine ⟨?_, ?_⟩
          · show (repS a j.toNat).length ≤ sizeLine
            have : (repS a j.toNat).length = j.toNat * a.length := by
              show (repS a j.toNat).cps.size = j.toNat * a.cps.size
              unfold repS; simp
            rw [this, sizeLine_eq, Nat.mul_comm]; omega
          · exact fin _ _
    | _ => exact q.elim
  | @obj a n ea => cases r2' with
    | int j =>
      obtain ⟨o, eo, ro⟩ := hH.live ea
      dsimp only at q
      rw [eo] at q
      cases o with
      | lst xs =>
        dsimp only at q
        obtain ⟨vs, ex, ra⟩ := ro
        by_cases hc : 0 ≤ j ∧ j < 2 ^ 63 ∧ xs.length * j.toNat ≤ sizeLine
        case neg => rw [if_neg hc] at q; exact q.elim
        rw [if_pos hc] at q
        have rr : ∀ k : Nat, Rs X.K H ι (List.replicate k vs).flatten (List.replicate k xs).flatten := fun k => by
          induction k with
          | zero => simpa using .nil
          | succ k ih => rw [List.replicate_succ, List.replicate_succ, List.flatten_cons, List.flatten_cons]; exact ra.app ih
        exact op_rep pins s σ0 H _ _ v u Q I rx ry ⟨a, j, vs, rfl, rfl, ex, by omega, hc.2.1, by rw [ra.length]; exact hc.2.2, post_newL hH (rr _) q⟩
      | _ => exact q.elim
    | _ => exact q.elim
  | _ => exact q.elim
/-- % by a positive number -/
def modD (d e : D) (T : Hq) : Res D := match d, e with
  | .int i, .int j => if 0 < j then .ok (.int (i % j)) T else .stuck
  | _, _ => .stuck
theorem o2_mod : Op2 X (binaryOp .Mod) modD := by
  intro W σ pins s σ0 H x y v u Q I rx ry ⟨ι, T, d, e, hH, r1, r2', q⟩
  unfold modD at q
  cases r1 with
  | int i => cases r2' with
    | int j =>
      dsimp only at q
      by_cases hc : 0 < j
      · rw [if_pos hc] at q
        exact op_mod pins s σ0 H _ _ v u Q I rx ry ⟨i, j, rfl, rfl, hc, post_ok hH (.int _) q⟩
      · rw [if_neg hc] at q; exact q.elim
    | _ => exact q.elim
  | _ => exact q.elim
def fdivD (d e : D) (T : Hq) : Res D := match d, e with
  | .int i, .int j => if 0 < j ∧ j < 1073741824 then .ok (.int (i / j)) T else .stuck
  | _, _ => .stuck
theorem o2_fdiv : Op2 X (binaryOp .FloorDiv) fdivD := by
  intro W σ pins s σ0 H x y v u Q I rx ry ⟨ι, T, d, e, hH, r1, r2', q⟩
  unfold fdivD at q
  cases r1 with
  | int i => cases r2' with
    | int j =>
      dsimp only at q
      by_cases hc : 0 < j ∧ j < 1073741824
      · rw [if_pos hc] at q
        exact op_fdiv pins s σ0 H _ _ v u Q I rx ry ⟨i, j, rfl, rfl, hc, post_ok hH (.int _) q⟩
      · rw [if_neg hc] at q; exact q.elim
    | _ => exact q.elim
  | _ => exact q.elim
def powD (d e : D) (T : Hq) : Res D := match d, e with
  | .int i, .int j => if 0 ≤ j ∧ j ≤ 1000000 ∧ i.natAbs < 2 ^ 64 then .ok (.int (i ^ j.toNat)) T else .stuck
  | _, _ => .stuck
theorem o2_pow : Op2 X (binaryOp .Pow) powD := by
  intro W σ pins s σ0 H x y v u Q I rx ry ⟨ι, T, d, e, hH, r1, r2', q⟩
  unfold powD at q
  cases r1 with
  | int i => cases r2' with
    | int j =>
      dsimp only at q
      by_cases hc : 0 ≤ j ∧ j ≤ 1000000 ∧ i.natAbs < 2 ^ 64
      · rw [if_pos hc] at q
        exact op_pow pins s σ0 H _ _ v u Q I rx ry ⟨i, j, rfl, rfl, hc, post_ok hH (.int _) q⟩
      · rw [if_neg hc] at q; exact q.elim
    | _ => exact q.elim
  | _ => exact q.elim
def negD (d : D) (T : Hq) : Res D := match d with
  | .int i => .ok (.int (-i)) T
  | _ => .stuck
def mUn (g : D → Hq → Res D) (m : EMn) : EMn := fun l T => (m l T).bind g
theorem se_neg {a : Expr} {m : EMn} {pos} (h : SE X a m) : SE X (.UnaryOp .USub a pos) (mUn negD m) := fun W tk =>
  PE.imp (pe_un un_neg (h W tk)) fun σ H Q ⟨ι, T, l, hS, hH, q⟩ => rd_bind hS hH q fun d T1 v H1 ι1 e1 p1 hS1 h1 r1 q1 => by
    cases r1 with
    | int i => exact ⟨i, rfl, post_ok h1 (.int _) q1⟩
    | _ => exact q1.elim
/-! ### comparisons of ints and texts -/
def ltS (a b : Str) : Bool := decide (a.cps.toList < b.cps.toList)
def cmpD (fi : Int → Int → Bool) (fs : Str → Str → Bool) (d e : D) (T : Hq) : Res D := match d, e with
  | .int i, .int j => .ok (.bl (fi i j)) T
  | .str a, .str b => .ok (.bl (fs a b)) T
  | _, _ => .stuck
theorem o2_cmp {op : CmpOp} {fi : Int → Int → Bool} {fs : Str → Str → Bool} (h1 : OpR X (compareOp op) (rI0 fun i j => .bl (fi i j))) (h2 : OpR X (compareOp op) (fun x y H Q => ∃ i j, x = .str i ∧ y = .str j ∧ Q (.bl (fs i j)) H)) : Op2 X (compareOp op) (cmpD fi fs) := by
  intro W σ pins s σ0 H x y v u Q I rx ry ⟨ι, T, d, e, hH, r1, r2', q⟩
  unfold cmpD at q
  cases r1 with
  | int i => cases r2' with
    | int j => exact h1 pins s σ0 H _ _ v u Q I rx ry ⟨i, j, rfl, rfl, post_ok hH (.bl _) q⟩
    | _ => exact q.elim
  | str a ha => cases r2' with
    | str b hb => exact h2 pins s σ0 H _ _ v u Q I rx ry ⟨a, b, rfl, rfl, post_ok hH (.bl _) q⟩
    | _ => exact q.elim
  | _ => exact q.elim
abbrev ltD := cmpD (fun i j => decide (i < j)) ltS
abbrev leD := cmpD (fun i j => decide (i ≤ j)) (fun a b => !ltS b a)
abbrev gtD := cmpD (fun i j => decide (j < i)) (fun a b => ltS b a)
abbrev geD := cmpD (fun i j => decide (j ≤ i)) (fun a b => !ltS a b)
theorem o2_lt : Op2 X (compareOp .Lt) ltD := o2_cmp op_lt op_lt_str
theorem o2_le : Op2 X (compareOp .LtE) leD := o2_cmp op_le op_le_str
theorem o2_gt : Op2 X (compareOp .Gt) gtD := o2_cmp op_gt op_gt_str
theorem o2_ge : Op2 X (compareOp .GtE) geD := o2_cmp op_ge op_ge_str
end
end Mn

set_option Elab.async false
set_option linter.all false
set_option maxRecDepth 100000
set_option maxHeartbeats 1000000
/-! Mini 9: ==, is, in. -/
namespace Mn
open PySem PySem.Spec PyProof.Rows L2

def mapO {α β : Type} (f : α → Option β) : List α → Option (List β)
  | [] => some []
  | x :: xs => match f x, mapO f xs with
    | some y, some ys => some (y :: ys)
    | _, _ => none
/-- a tree as the library's data, nested at most n deep -/
def toP (T : Hq) : Nat → D → Option PyData
  | n, d => match d with
    | .non => some .none
    | .bl b => some (.bool b)
    | .int i => some (.int i)
    | .str x => some (.str x)
    | .tup ds => match n with
      | 0 => none
      | n + 1 => (mapO (toP T n) ds).map .tuple
    | .rol ds => match n with
      | 0 => none
      | n + 1 => (mapO (toP T n) ds).map .list
    | .obj k => match n with
      | 0 => none
      | n + 1 => match T[k]? with
        | some (.lst ds) => (mapO (toP T n) ds).map .list
        | _ => none
    | _ => none
section
variable {K : PySem.W.Frag} {H : Hp} {ι : List Addr} {T : Hq}
theorem mapO_dp {f : D → Option PyData} {n : Nat} (ih : ∀ d p v, f d = some p → R K H ι v d → Dp K H v p ∧ p.canLay0 = true ∧ p.depth ≤ n) : ∀ {ds : List D} {ps : List PyData} {vs : List V}, mapO f ds = some ps → Rs K H ι vs ds → DpAll K H vs ps ∧ PyData.canLayAll0 ps = true ∧ PyData.depthAll ps ≤ n
  | [], ps, vs, e, r => by
    cases r
    cases e
    exact ⟨.nil, by simp [PyData.canLayAll0], by simp [PyData.depthAll]⟩
  | d :: ds, ps, vs, e, r => by
    cases r with
    | @cons v vs _ _ r rs =>
      unfold mapO at e
      cases h1 : f d with
      | none => rw [h1] at e; cases e
      | some p =>
        rw [h1] at e
        cases h2 : mapO f ds with
        | none => rw [h2] at e; cases e
        | some qs =>
          rw [h2] at e
          cases e
          obtain ⟨a1, a2, a3⟩ := ih d p v h1 r
          obtain ⟨b1, b2, b3⟩ := mapO_dp ih h2 rs
          exact ⟨.cons a1 b1, by simp [PyData.canLayAll0, a2, b2], by simp only [PyData.depthAll]; omega⟩
theorem toP_dp (h : HR K H ι T) : ∀ (n : Nat) (d : D) (p : PyData) (v : V), toP T n d = some p → R K H ι v d → Dp K H v p ∧ p.canLay0 = true ∧ p.depth ≤ n := by
  intro n
  induction n with
  | zero =>
    intro d p v e r
    cases r with
    | non => cases e; exact ⟨.non, by simp [PyData.canLay0], by simp [PyData.depth]⟩
    | bl b => cases e; exact ⟨.bl _, by simp [PyData.canLay0], by simp [PyData.depth]⟩
    | int b => cases e; exact ⟨.int _, by simp [PyData.canLay0], by simp [PyData.depth]⟩
    | str b hb => cases e; exact ⟨.str _, by simp only [PyData.canLay0]; exact hb, by simp [PyData.depth]⟩
    | tup _ _ => cases e
    | rol _ _ => cases e
    | obj _ => cases e
    | exn _ _ _ => cases e
    | cex _ _ => cases e
    | tyv _ => cases e
    | cls _ => cases e
  | succ n ih =>
    intro d p v e r
    cases r with
    | non => cases e; exact ⟨.non, by simp [PyData.canLay0], by simp [PyData.depth]⟩
    | bl b => cases e; exact ⟨.bl _, by simp [PyData.canLay0], by simp [PyData.depth]⟩
    | int b => cases e; exact ⟨.int _, by simp [PyData.canLay0], by simp [PyData.depth]⟩
    | str b hb => cases e; exact ⟨.str _, by simp only [PyData.canLay0]; exact hb, by simp [PyData.depth]⟩
    | exn _ _ _ => cases e
    | cex _ _ => cases e
    | tyv _ => cases e
    | cls _ => cases e
    | @tup a xs ds s r =>
      simp only [toP] at e
      cases hm : mapO (toP T n) ds with
      | none => rw [hm] at e; cases e
      | some ps =>
        rw [hm] at e
        cases e
        obtain ⟨b1, b2, b3⟩ := mapO_dp ih hm r
        exact ⟨.tup s b1, by simp only [PyData.canLay0]; exact b2, by simp only [PyData.depth]; omega⟩
    | @rol a xs ds s r =>
      simp only [toP] at e
      cases hm : mapO (toP T n) ds with
      | none => rw [hm] at e; cases e
      | some ps =>
        rw [hm] at e
        cases e
        obtain ⟨b1, b2, b3⟩ := mapO_dp ih hm r
        exact ⟨.lst s.sq b1, by simp only [PyData.canLay0]; exact b2, by simp only [PyData.depth]; omega⟩
    | @obj a k ea =>
      obtain ⟨o, eo, ro⟩ := h.live ea
      simp only [toP] at e
      rw [eo] at e
      cases o with
      | lst ds =>
        obtain ⟨xs, ex, r⟩ := ro
        dsimp only at e
        cases hm : mapO (toP T n) ds with
        | none => rw [hm] at e; cases e
        | some ps =>
          rw [hm] at e
          cases e
          obtain ⟨b1, b2, b3⟩ := mapO_dp ih hm r
          exact ⟨.lst (.of ex) b1, by simp only [PyData.canLay0]; exact b2, by simp only [PyData.depth]; omega⟩
      | dct _ => cases e
      | ins _ _ => cases e
theorem toP_shaped (h : HR K H ι T) {n : Nat} (hn : n ≤ 64) {d : D} {p : PyData} {v : V} (e : toP T n d = some p) (r : R K H ι v d) : Dp K H v p ∧ SeqAt.shaped p = true := by
  obtain ⟨a, b, c⟩ := toP_dp h n d p v e r
  refine ⟨a, ?_⟩
  unfold SeqAt.shaped
  rw [b, decide_eq_true (by omega)]; rfl
end
def eqDp (d e : D) (T : Hq) : Option Bool := match toP T 64 d, toP T 64 e with
  | some p, some q => some (PyData.eqv p q)
  | _, _ => none
def eqD (d e : D) (T : Hq) : Res D := match eqDp d e T with
  | some b => .ok (.bl b) T
  | none => .stuck
def neD (d e : D) (T : Hq) : Res D := match eqDp d e T with
  | some b => .ok (.bl (!b)) T
  | none => .stuck
section
variable {X : Cx}
theorem o2_eq (hu : X.A.units + 64 < cLine) : Op2 X (compareOp .Eq) eqD := by
  intro W σ pins s σ0 H x y v u Q I rx ry ⟨ι, T, d, e, hH, r1, r2', q⟩
  unfold eqD eqDp at q
  cases h1 : toP T 64 d with
  | none => rw [h1] at q; exact q.elim
  | some p =>
    rw [h1] at q
    cases h2 : toP T 64 e with
    | none => rw [h2] at q; exact q.elim
    | some p' =>
      rw [h2] at q
      obtain ⟨a1, a2⟩ := toP_shaped hH (Nat.le_refl _) h1 r1
      obtain ⟨b1, b2⟩ := toP_shaped hH (Nat.le_refl _) h2 r2'
      exact op_eqD hu pins s σ0 H x y v u Q I rx ry ⟨p, p', a1, b1, a2, b2, post_ok hH (.bl _) q⟩
theorem o2_ne (hu : X.A.units + 64 < cLine) : Op2 X (compareOp .NotEq) neD := by
  intro W σ pins s σ0 H x y v u Q I rx ry ⟨ι, T, d, e, hH, r1, r2', q⟩
  unfold neD eqDp at q
  cases h1 : toP T 64 d with
  | none => rw [h1] at q; exact q.elim
  | some p =>
    rw [h1] at q
    cases h2 : toP T 64 e with
    | none => rw [h2] at q; exact q.elim
    | some p' =>
      rw [h2] at q
      obtain ⟨a1, a2⟩ := toP_shaped hH (Nat.le_refl _) h1 r1
      obtain ⟨b1, b2⟩ := toP_shaped hH (Nat.le_refl _) h2 r2'
      exact op_neD hu pins s σ0 H x y v u Q I rx ry ⟨p, p', a1, b1, a2, b2, post_ok hH (.bl _) q⟩
def isNonB : D → Bool
  | .non => true
  | _ => false
/-- is: with None, between truths -/
def isDp (d e : D) : Option Bool := match d, e with
  | d, .non => some (isNonB d)
  | .bl a, .bl b => some (decide (a = b))
  | _, _ => none
def isD (d e : D) (T : Hq) : Res D := match isDp d e with
  | some b => .ok (.bl b) T
  | none => .stuck
def isNotD (d e : D) (T : Hq) : Res D := match isDp d e with
  | some b => .ok (.bl (!b)) T
  | none => .stuck
theorem R.isNon {K : PySem.W.Frag} {H : Hp} {ι : List Addr} {v : V} {d : D} (r : R K H ι v d) : decide (v = .non) = isNonB d := by
  cases r <;> simp [isNonB]
theorem o2_is : Op2 X (compareOp .Is) isD := by
  intro W σ pins s σ0 H x y v u Q I rx ry ⟨ι, T, d, e, hH, r1, r2', q⟩
  unfold isD at q
  cases r2' with
  | non =>
    have e : isDp d .non = some (isNonB d) := by cases d <;> rfl
    rw [e] at q
    exact op_isN pins s σ0 H x _ v u Q I rx ry ⟨rfl, by rw [r1.isNon]; exact post_ok hH (.bl _) q⟩
  | bl b => cases r1 with
    | bl a => exact op_isBl pins s σ0 H _ _ v u Q I rx ry ⟨a, b, rfl, rfl, post_ok hH (.bl _) q⟩
    | _ => exact q.elim
  | _ => cases r1 <;> exact q.elim
theorem o2_isnot : Op2 X (compareOp .IsNot) isNotD := by
  intro W σ pins s σ0 H x y v u Q I rx ry ⟨ι, T, d, e, hH, r1, r2', q⟩
  unfold isNotD at q
  cases r2' with
  | non =>
    have e : isDp d .non = some (isNonB d) := by cases d <;> rfl
    rw [e] at q
    exact op_notN pins s σ0 H x _ v u Q I rx ry ⟨rfl, by rw [r1.isNon]; exact post_ok hH (.bl _) q⟩
  | bl b => cases r1 with
    | bl a => exact op_notBl pins s σ0 H _ _ v u Q I rx ry ⟨a, b, rfl, rfl, post_ok hH (.bl _) q⟩
    | _ => exact q.elim
  | _ => cases r1 <;> exact q.elim
/-- in a list or a tuple of data; a text in a text; a key in a dict -/
def inDp (d e : D) (T : Hq) : Option Bool := match d, e with
  | .str a, .str b => some (!(Builtin.Str.occurrences b a 0 b.length 1).isEmpty)
  | d, e => match toP T 64 d, toP T 64 e with
    | some p, some (.list ps) => some (ps.any fun q => PyData.eqv q p)
    | some p, some (.tuple ps) => some (ps.any fun q => PyData.eqv q p)
    | _, _ => none
def inD (d e : D) (T : Hq) : Res D := match inDp d e T with
  | some b => .ok (.bl b) T
  | none => .stuck
def notInD (d e : D) (T : Hq) : Res D := match inDp d e T with
  | some b => .ok (.bl (!b)) T
  | none => .stuck
theorem in_core {op : CmpOp} {g : Bool → Bool} (hu : X.A.units + 65 < cLine) (hs : OpR X (compareOp op) (fun x y H Q => ∃ i j, x = .str i ∧ y = .str j ∧ Q (.bl (g (!(Builtin.Str.occurrences j i 0 j.length 1).isEmpty))) H))
    (hl : ∀ {c x : Value} {xs : List PyData} {d : PyData} {as bs : List Addr} {Q E : Value → Shared → Prop} {s : Shared}, (Reads s.heap c (.list xs) as ∨ Reads s.heap c (.tuple xs) as) → Reads s.heap x d bs → PyData.canLayAll0 xs = true → d.canLay0 = true →
      X.A.units + 1 + min (PyData.depthAll xs) d.depth < cLine → Q (.bool (g (xs.any fun y => PyData.eqv y d))) s → wpAny (model X.prog X.w) X.A (compareOp op x c) Q E s) :
    Op2 X (compareOp op) (fun d e T => match inDp d e T with
      | some b => .ok (.bl (g b)) T
      | none => .stuck) := by
  intro W σ pins s σ0 H x y v u Q I rx ry ⟨ι, T, d, e, hH, r1, r2', q⟩
  dsimp only at q
  have data : ∀ p ps, toP T 64 d = some p → (toP T 64 e = some (.list ps) ∨ toP T 64 e = some (.tuple ps)) → inDp d e T = some (ps.any fun q => PyData.eqv q p) → wpAny (model X.prog X.w) X.A (compareOp op v u) (EP X pins σ0 Q) X.xe s := by
    intro p ps h1 h2 h3
    rw [h3] at q
    obtain ⟨a1, a2, a3⟩ := toP_dp hH 64 d p x h1 r1
    obtain ⟨as, ra⟩ := Dp.reads I p x v a1 rx
    have q' := post_ok hH (.bl _) q
    rcases h2 with h2 | h2
    · obtain ⟨b1, b2, b3⟩ := toP_dp hH 64 e _ y h2 r2'
      obtain ⟨bs, rb⟩ := Dp.reads I _ y u b1 ry
      exact hl (.inl rb) ra (by simpa only [PyData.canLay0] using b2) a2 (by have := Nat.min_le_right (PyData.depthAll ps) p.depth; omega) ⟨.bl _, H, I, rfl, q'⟩
    · obtain ⟨b1, b2, b3⟩ := toP_dp hH 64 e _ y h2 r2'
      obtain ⟨bs, rb⟩ := Dp.reads I _ y u b1 ry
      exact hl (.inr rb) ra (by simpa only [PyData.canLay0] using b2) a2 (by have := Nat.min_le_right (PyData.depthAll ps) p.depth; omega) ⟨.bl _, H, I, rfl, q'⟩
  by_cases hstr : ∃ a b, d = .str a ∧ e = .str b
  · obtain ⟨a, b, rfl, rfl⟩ := hstr
    cases r1
    cases r2'
    exact hs pins s σ0 H _ _ v u Q I rx ry ⟨a, b, rfl, rfl, post_ok hH (.bl _) q⟩
  · have en : inDp d e T = match toP T 64 d, toP T 64 e with
        | some p, some (.list ps) => some (ps.any fun q => PyData.eqv q p)
        | some p, some (.tuple ps) => some (ps.any fun q => PyData.eqv q p)
        | _, _ => none := by
      unfold inDp
      split
      · rename_i a b
        exact absurd ⟨a, b, rfl, rfl⟩ hstr
      · rfl
    cases h1 : toP T 64 d with
    | none => rw [en, h1] at q; exact q.elim
    | some p =>
      cases h2 : toP T 64 e with
      | none => rw [en, h1, h2] at q; exact q.elim
      | some p' =>
        cases p' with
        | list ps => exact data p ps h1 (.inl h2) (by rw [en, h1, h2])
        | tuple ps => exact data p ps h1 (.inr h2) (by rw [en, h1, h2])
        | _ => rw [en, h1, h2] at q; exact q.elim
theorem o2_in (hu : X.A.units + 65 < cLine) : Op2 X (compareOp .In) inD := in_core (g := id) hu op_in_str (fun rc rx h1 h2 h3 h => by
  rcases rc with rc | rc
  · exact SeqAt.in_list_reads rc rx h1 h2 h3 h
  · exact SeqAt.in_tuple_reads rc rx h1 h2 h3 h)
theorem o2_notIn (hu : X.A.units + 65 < cLine) : Op2 X (compareOp .NotIn) notInD := in_core (g := Bool.not) hu op_notIn_str (fun rc rx h1 h2 h3 h => by
  rcases rc with rc | rc
  · exact SeqAt.notIn_list_reads rc rx h1 h2 h3 h
  · exact SeqAt.notIn_tuple_reads rc rx h1 h2 h3 h)
end
end Mn

set_option Elab.async false
set_option linter.all false
set_option maxRecDepth 100000
set_option maxHeartbeats 1000000
/-! Mini 10: subscripts, slices, built-ins, methods. -/
namespace Mn
open PySem PySem.Spec PyProof.Rows L2

section
variable {X : Cx} {K : PySem.W.Frag} {H : Hp} {ι : List Addr} {T : Hq}
/-! ### o[i] -/
theorem Rs.at_ {vs : List V} {ds : List D} {i : Int} {d : D} (r : Rs K H ι vs ds) (e : atI ds i = some d) : ∃ v, atI vs i = some v ∧ R K H ι v d := by
  unfold atI at e ⊢
  rw [r.length]
  cases h : ixN ds.length i with
  | none => rw [h] at e; cases e
  | some j =>
    rw [h] at e
    exact r.get e
def ixDp (d e : D) (T : Hq) : Option D := match d, e with
  | .tup ds, .int i => atI ds i
  | .rol ds, .int i => atI ds i
  | .obj n, .int i => match T[n]? with
    | some (.lst ds) => atI ds i
    | _ => none
  | .str x, .int i => if x.length ≤ sizeLine then (atI x.cps.toList i).map fun c => .str ⟨#[c]⟩ else none
  | _, _ => none
def ofR (o : Option D) (T : Hq) : Res D := match o with
  | some d => .ok d T
  | none => .stuck
def ixD (d e : D) (T : Hq) : Res D := ofR (ixDp d e T) T
theorem ok_at {x : Str} {i : Int} {c : Nat} (h : PyData.strOk x = true) (e : atI x.cps.toList i = some c) : PyData.strOk ⟨#[c]⟩ = true := by
  unfold atI at e
  cases h2 : ixN x.cps.toList.length i with
  | none => rw [h2] at e; cases e
  | some j =>
    rw [h2] at e
    exact ok_sign h (by simpa using e)
theorem ix_ok {W : WX} {σ : L2.St} : IxR X (r2 ixD X.K X.mg W σ) := by
  intro value slice pins s σ0 H x y v u Q I rx ry ⟨ι, T, d, e, hH, r1, r2', q⟩ hs
  unfold ixD at q
  cases hx : ixDp d e T with
  | none => rw [hx] at q; exact q.elim
  | some z =>
    rw [hx] at q
    unfold ixDp at hx
    cases r1 with
    | @tup a vs ds sa ra => cases r2' with
      | int i =>
        obtain ⟨w, e1, rw'⟩ := ra.at_ hx
        exact ix_tup value slice pins s σ0 H _ _ v u Q I rx ry ⟨a, vs, i, w, rfl, rfl, sa, e1, post_ok hH rw' q⟩ hs
      | _ => cases hx
    | @rol a vs ds sa ra => cases r2' with
      | int i =>
        obtain ⟨w, e1, rw'⟩ := ra.at_ hx
        exact ix_list value slice pins s σ0 H _ _ v u Q I rx ry ⟨a, vs, i, w, rfl, rfl, sa.sq, e1, post_ok hH rw' q⟩ hs
      | _ => cases hx
    | @obj a n ea => cases r2' with
      | int i =>
        obtain ⟨o, eo, ro⟩ := hH.live ea
        dsimp only at hx
        rw [eo] at hx
        cases o with
        | lst ds =>
          obtain ⟨vs, ex, ra⟩ := ro
          obtain ⟨w, e1, rw'⟩ := ra.at_ hx
          exact ix_list value slice pins s σ0 H _ _ v u Q I rx ry ⟨a, vs, i, w, rfl, rfl, .of ex, e1, post_ok hH rw' q⟩ hs
        | _ => cases hx
      | _ => cases hx
    | str x hxs => cases r2' with
      | int i =>
        dsimp only at hx
        by_cases hl : x.length ≤ sizeLine
        case neg => rw [if_neg hl] at hx; cases hx
        rw [if_pos hl] at hx
        cases hc : atI x.cps.toList i with
        | none => rw [hc] at hx; cases hx
        | some c =>
          rw [hc] at hx
          cases hx
          exact ix_str value slice pins s σ0 H _ _ v u Q I rx ry ⟨x, i, c, rfl, rfl, hl, hc, post_ok hH (.str _ (ok_at hxs hc)) q⟩ hs
      | _ => cases hx
    | _ => cases r2' <;> cases hx
theorem se_ix {a b : Expr} {m n : EMn} {pos} (ha : SE X a m) (hb : SE X b n) (hs : PlainIx b) : SE X (.Subscript a b pos) (mBin ixD m n) := fun W tk => by
  refine ⟨fun pins s σ H Q I h => ?_⟩
  exact (pe_ix (ix_ok (W := W) (σ := σ)) (ha W tk) (hb W tk) hs).run pins s σ H Q I (bin_rd h)

/-! ### o[i:j] -/
abbrev PMn := Lo → Hq → Res (Option Int)
abbrev Ro : Hp → List Addr → Option Int → Option Int → Prop := fun _ _ a b => a = b
def SP' (X : Cx) (e : Option Expr) (m : PMn) : Prop := ∀ W, Takes X W → PO X e (rd Ro m X.K X.mg W)
theorem PO.imp {e : Option Expr} {t t' : TO} (h : PO X e t) (f : ∀ σ H Q, t' σ H Q → t σ H Q) : PO X e t' := ⟨fun pins s σ H Q I q => h.run pins s σ H Q I (f _ _ _ q)⟩
def pNo : PMn := fun _ T => .ok none T
def pSome (m : EMn) : PMn := fun l T => (m l T).bind fun d T1 => match d with
  | .int i => .ok (some i) T1
  | _ => .stuck
theorem sp_none : SP' X none pNo := fun W tk => PO.imp po_none fun σ H Q ⟨ι, T, l, hS, hH, q⟩ => q none H ι (Ext.refl _) (Pre.refl _) hH rfl
theorem sp_some {e : Expr} {m : EMn} (h : SE X e m) : SP' X (some e) (pSome m) := fun W tk => PO.imp (po_some (h W tk)) fun σ H Q ⟨ι, T, l, hS, hH, q⟩ =>
  rd_bind hS hH q fun d T1 v H1 ι1 e1 p1 hS1 h1 r1 q1 => by
    cases r1 with
    | int i => exact ⟨i, rfl, q1 _ H1 ι1 (Ext.refl _) (Pre.refl _) h1 rfl⟩
    | _ => exact q1.elim
def cutG {α : Type} (xs : List α) (lo hi : Option Int) : List α := (xs.drop (HT.sIx xs.length 0 lo)).take (HT.sIx xs.length xs.length hi - HT.sIx xs.length 0 lo)
theorem Rs.cut {vs : List V} {ds : List D} (r : Rs K H ι vs ds) (lo hi : Option Int) : Rs K H ι (cutV vs lo hi) (cutG ds lo hi) := by
  unfold cutV cutG
  rw [r.length]
  exact (r.drop _).take _
theorem cut_whole {ds : List D} {lo hi : Option Int} (h : HT.sIx ds.length 0 lo = 0 ∧ HT.sIx ds.length ds.length hi = ds.length) : cutG ds lo hi = ds := by
  unfold cutG
  rw [h.1, h.2]
  simp
def slD (d : D) (lo hi : Option Int) (T : Hq) : Res D := match d with
  | .tup ds => .ok (.tup (cutG ds lo hi)) T
  | .rol ds => newL (cutG ds lo hi) T
  | .obj n => match T[n]? with
    | some (.lst ds) => newL (cutG ds lo hi) T
    | _ => .stuck
  | .str x => if x.length ≤ sizeLine then .ok (.str (cutS x lo hi)) T else .stuck
  | _ => .stuck
theorem ok_cut {x : Str} (h : PyData.strOk x = true) (lo hi : Option Int) : PyData.strOk (cutS x lo hi) = true := by
  rw [ok_list] at h ⊢
  unfold cutS
  simp only [List.all_eq_true, decide_eq_true_eq] at h ⊢
  intro c hc
  exact h c (List.mem_of_mem_drop (List.mem_of_mem_take (by simpa using hc)))
theorem sl_ok {W : WX} {σ : L2.St} : SlR X (fun x lo hi H Q => ∃ ι T d, HR X.K H ι T ∧ R X.K H ι x d ∧ Post (Rr X.K) X.K X.mg W σ H ι Q (slD d lo hi T)) := by
  intro pins s σ0 H x v vl vu lo hi sl Q I rx hs pl pu ⟨ι, T, d, hH, r1, q⟩
  unfold slD at q
  cases r1 with
  | @tup a vs ds sa ra =>
    refine sl_tupA pins s σ0 H _ v vl vu lo hi sl Q I rx hs pl pu ⟨a, vs, rfl, sa, fun h => ?_, fun _ p np => post_tup hH (ra.cut lo hi) q np⟩
    rw [ra.length] at h
    dsimp only at q
    rw [cut_whole h] at q
    exact post_ok hH (.tup sa ra) q
  | @rol a vs ds sa ra => exact sl_list pins s σ0 H _ v vl vu lo hi sl Q I rx hs pl pu ⟨a, vs, rfl, sa.sq, post_newL hH (ra.cut lo hi) q⟩
  | @obj a n ea =>
    obtain ⟨o, eo, ro⟩ := hH.live ea
    dsimp only at q
    rw [eo] at q
    cases o with
    | lst ds =>
      obtain ⟨vs, ex, ra⟩ := ro
      exact sl_list pins s σ0 H _ v vl vu lo hi sl Q I rx hs pl pu ⟨a, vs, rfl, .of ex, post_newL hH (ra.cut lo hi) q⟩
    | _ => exact q.elim
  | str x hx =>
    dsimp only at q
    by_cases hl : x.length ≤ sizeLine
    · rw [if_pos hl] at q
      exact sl_str pins s σ0 H _ v vl vu lo hi sl Q I rx hs pl pu ⟨x, rfl, hl, post_ok hH (.str _ (ok_cut hx lo hi)) q⟩
    · rw [if_neg hl] at q; exact q.elim
  | _ => exact q.elim
def mSl (m : EMn) (lo hi : PMn) : EMn := fun l T => (m l T).bind fun d T1 => (lo l T1).bind fun a T2 => (hi l T2).bind fun b T3 => slD d a b T3
theorem se_slice {a : Expr} {lo hi : Option Expr} {m : EMn} {ml mh : PMn} {p2 pos} (ha : SE X a m) (hl : SP' X lo ml) (hh : SP' X hi mh) : SE X (.Subscript a (.Slice lo hi none p2) pos) (mSl m ml mh) := fun W tk => by
  refine ⟨fun pins s σ H Q I ⟨ι, T, l, hS, hH, q⟩ => ?_⟩
  refine (pe_slice (sl_ok (W := W) (σ := σ)) (ha W tk) (hl W tk) (hh W tk)).run pins s σ H Q I ?_
  exact rd_bind hS hH q fun d T1 v H1 ι1 e1 p1 hS1 h1 r1 q1 => rd_bind hS1 h1 q1 fun o1 T2 u H2 ι2 e2 p2 hS2 h2 r2 q2 => rd_bind hS2 h2 q2 fun o2 T3 u2 H3 ι3 e3 p3 hS3 h3 r3 q3 => by
    have r2 : u = o1 := r2
    have r3 : u2 = o2 := r3
    subst r2 r3
    exact ⟨ι3, T3, d, h3, (R.ext e2 p2 r1).ext e3 p3, q3⟩

/-! ### built-ins -/
theorem se_callB {x : Str} {id : String} {p pos : Pos} {e : Expr} {es : List Expr} {m : LMn} {g : List D → Hq → Res D} (hc : CallD X (.builtin id) g) (hg : Gl X x) (hm : X.mg x = none) (hv : bootBuiltins x = some (.builtin id)) (ha : SA X (e :: es) m) (hn : x ≠ "__name__") (hdb : (x == ("__debug__" : Str)) = false)
    (he : starEach (e :: es) X.env = (false, eval e X.env) :: starEach es X.env) (hpl : (backTo pos (starEach es X.env)).any (·.1) = false) : SE X (.Call (.Name x p) (e :: es) [] pos) (mCallB g m) := fun W tk => by
  refine ⟨fun pins s σ H Q I h => ?_⟩
  exact (pe_callB (hc W σ) hg hm hv (ha W tk) hn hdb he hpl).run pins s σ H Q I (callB_rd h)
theorem se_callTy {x : Str} {T : String} {p pos : Pos} {e : Expr} {es : List Expr} {m : LMn} {g : List D → Hq → Res D} (hc : CallD X (.type T) g) (hg : Gl X x) (hm : X.mg x = none) (hv : bootBuiltins x = some (.type T)) (ha : SA X (e :: es) m) (hn : x ≠ "__name__") (hdb : (x == ("__debug__" : Str)) = false)
    (he : starEach (e :: es) X.env = (false, eval e X.env) :: starEach es X.env) (hpl : (backTo pos (starEach es X.env)).any (·.1) = false) : SE X (.Call (.Name x p) (e :: es) [] pos) (mCallB g m) := fun W tk => by
  refine ⟨fun pins s σ H Q I h => ?_⟩
  exact (pe_callTy (hc W σ) hg hm hv (ha W tk) hn hdb he hpl).run pins s σ H Q I (callB_rd h)
def lenDp (d : D) (T : Hq) : Option Nat := match d with
  | .str x => if x.length ≤ sizeLine then some x.length else none
  | .tup ds => some ds.length
  | .rol ds => some ds.length
  | .obj n => match T[n]? with
    | some (.lst ds) => some ds.length
    | _ => none
  | _ => none
def lenD (ds : List D) (T : Hq) : Res D := match ds with
  | [d] => match lenDp d T with
    | some n => .ok (.int n) T
    | none => .stuck
  | _ => .stuck
theorem cd_len : CallD X (.builtin "len") lenD := by
  intro W σ pins s σ0 H xs us Q I rr ⟨ι, T, ds, hH, rs, q⟩
  match ds, rs, q with
  | [], _, q => exact q.elim
  | _ :: _ :: _, _, q => exact q.elim
  | [d], rs, q =>
    obtain ⟨v, rfl, r⟩ := rs.inv1
    unfold lenD at q
    dsimp only at q
    cases hl : lenDp d T with
    | none => rw [hl] at q; exact q.elim
    | some n =>
      rw [hl] at q
      have q' := post_ok hH (.int _) q
      refine call_len pins s σ0 H _ us Q I rr ⟨v, n, rfl, ?_, q'⟩
      unfold lenDp at hl
      cases r with
      | str x _ =>
        dsimp only at hl
        by_cases h : x.length ≤ sizeLine
        · rw [if_pos h] at hl; cases hl; exact ⟨h, rfl⟩
        · rw [if_neg h] at hl; cases hl
      | @tup a vs ds s r => cases hl; exact .inr ⟨vs, s, r.length.symm⟩
      | @rol a vs ds s r => cases hl; exact .inl ⟨vs, s.sq, r.length.symm⟩
      | @obj a n ea =>
        obtain ⟨o, eo, ro⟩ := hH.live ea
        dsimp only at hl
        rw [eo] at hl
        cases o with
        | lst ds =>
          obtain ⟨vs, ex, ra⟩ := ro
          cases hl
          exact .inl ⟨vs, .of ex, ra.length.symm⟩
        | _ => cases hl
      | _ => cases hl
def intD (ds : List D) (T : Hq) : Res D := match ds with
  | [.int i] => .ok (.int i) T
  | [.bl b] => .ok (.int (if b then 1 else 0)) T
  | _ => .stuck
theorem cd_int : CallD X (.type "int") intD := by
  intro W σ pins s σ0 H xs us Q I rr ⟨ι, T, ds, hH, rs, q⟩
  unfold intD at q
  split at q
  · obtain ⟨v, rfl, r⟩ := rs.inv1
    cases r
    exact call_int1 pins s σ0 H _ us Q I rr (.inl ⟨_, rfl, post_ok hH (.int _) q⟩)
  · obtain ⟨v, rfl, r⟩ := rs.inv1
    cases r
    exact call_int1 pins s σ0 H _ us Q I rr (.inr ⟨_, rfl, post_ok hH (.int _) q⟩)
  · exact q.elim
def absD (ds : List D) (T : Hq) : Res D := match ds with
  | [.int i] => .ok (.int (if i < 0 then -i else i)) T
  | _ => .stuck
theorem cd_abs : CallD X (.builtin "abs") absD := by
  intro W σ pins s σ0 H xs us Q I rr ⟨ι, T, ds, hH, rs, q⟩
  unfold absD at q
  split at q
  · obtain ⟨v, rfl, r⟩ := rs.inv1
    cases r
    exact call_abs pins s σ0 H _ us Q I rr ⟨_, rfl, post_ok hH (.int _) q⟩
  · exact q.elim
theorem strOk_of (z : String) : PyData.strOk (Str.ofString z) = true := by
  rw [Str.ofString_eq_toList, ok_list]
  simp only [List.all_eq_true, decide_eq_true_eq]
  intro c hc
  have hc : c ∈ z.toList.map Char.toNat := by simpa using hc
  obtain ⟨d, _, rfl⟩ := List.mem_map.mp hc
  have := d.valid
  rcases this with h | h <;> (unfold Char.toNat; omega)
theorem strOk_int (i : Int) : PyData.strOk ((toString i : String) : Str) = true := strOk_of _
def strD (ds : List D) (T : Hq) : Res D := match ds with
  | [.int i] => if i.natAbs.log2 < 1920 then .ok (.str ((toString i : String) : Str)) T else .stuck
  | [.str x] => .ok (.str x) T
  | _ => .stuck
theorem cd_str : CallD X (.type "str") strD := by
  intro W σ pins s σ0 H xs us Q I rr ⟨ι, T, ds, hH, rs, q⟩
  unfold strD at q
  split at q
  · rename_i i
    obtain ⟨v, rfl, r⟩ := rs.inv1
    cases r
    by_cases hl : i.natAbs.log2 < 1920
    · rw [if_pos hl] at q
      exact call_str_int pins s σ0 H _ us Q I rr ⟨_, rfl, hl, post_ok hH (.str _ (strOk_int i)) q⟩
    · rw [if_neg hl] at q; exact q.elim
  · obtain ⟨v, rfl, r⟩ := rs.inv1
    cases r with
    | str x hx => exact SkE.call_str_str pins s σ0 H _ us Q I rr ⟨_, rfl, post_ok hH (.str _ hx) q⟩
  · exact q.elim
/-- list(..), tuple(..) of a list or a tuple -/
def seqOf (d : D) (T : Hq) : Option (List D) := match d with
  | .tup ds => some ds
  | .rol ds => some ds
  | .obj n => match T[n]? with
    | some (.lst ds) => some ds
    | _ => none
  | _ => none
theorem seqOf_ok (h : HR K H ι T) {v : V} {d : D} {ds : List D} (r : R K H ι v d) (e : seqOf d T = some ds) : ∃ a xs, v = .ref a ∧ (SqL K H a xs ∨ SqT K H a xs) ∧ Rs K H ι xs ds ∧ (∀ es, d = .tup es → SqT K H a xs) ∧ ((∀ es, d ≠ .tup es) → SqL K H a xs) := by
  unfold seqOf at e
  cases r with
  | @tup a xs ds s r => cases e; exact ⟨a, xs, rfl, .inr s, r, fun _ _ => s, fun n => absurd rfl (n ds)⟩
  | @rol a xs ds s r => cases e; exact ⟨a, xs, rfl, .inl s.sq, r, (fun _ z => by cases z), fun _ => s.sq⟩
  | @obj a n ea =>
    obtain ⟨o, eo, ro⟩ := h.live ea
    dsimp only at e
    rw [eo] at e
    cases o with
    | lst ds =>
      obtain ⟨xs, ex, ra⟩ := ro
      cases e
      exact ⟨a, xs, rfl, .inl (.of ex), ra, (fun _ z => by cases z), fun _ => .of ex⟩
    | _ => cases e
  | _ => cases e
def listD (ds : List D) (T : Hq) : Res D := match ds with
  | [d] => match seqOf d T with
    | some xs => newL xs T
    | none => .stuck
  | _ => .stuck
theorem cd_list : CallD X (.type "list") listD := by
  intro W σ pins s σ0 H xs us Q I rr ⟨ι, T, ds, hH, rs, q⟩
  match ds, rs, q with
  | [], _, q => exact q.elim
  | _ :: _ :: _, _, q => exact q.elim
  | [d], rs, q =>
    obtain ⟨v, rfl, r⟩ := rs.inv1
    unfold listD at q
    dsimp only at q
    cases hl : seqOf d T with
    | none => rw [hl] at q; exact q.elim
    | some es =>
      rw [hl] at q
      obtain ⟨a, ys, rfl, hs, rr2, _, _⟩ := seqOf_ok hH r hl
      exact call_list_of pins s σ0 H _ us Q I rr ⟨a, ys, rfl, hs, post_newL hH rr2 q⟩
def tupleD (ds : List D) (T : Hq) : Res D := match ds with
  | [d] => match seqOf d T with
    | some xs => .ok (.tup xs) T
    | none => .stuck
  | _ => .stuck
theorem cd_tuple : CallD X (.type "tuple") tupleD := by
  intro W σ pins s σ0 H xs us Q I rr ⟨ι, T, ds, hH, rs, q⟩
  match ds, rs, q with
  | [], _, q => exact q.elim
  | _ :: _ :: _, _, q => exact q.elim
  | [d], rs, q =>
    obtain ⟨v, rfl, r⟩ := rs.inv1
    unfold tupleD at q
    dsimp only at q
    cases hl : seqOf d T with
    | none => rw [hl] at q; exact q.elim
    | some es =>
      rw [hl] at q
      obtain ⟨a, ys, rfl, hs, rr2, h1, h2⟩ := seqOf_ok hH r hl
      refine call_tuple_of pins s σ0 H _ us Q I rr ⟨a, ys, rfl, ?_⟩
      by_cases ht : ∃ zs, d = .tup zs
      · obtain ⟨zs, rfl⟩ := ht
        exact .inr ⟨h1 zs rfl, post_ok hH (.tup (h1 zs rfl) rr2) q⟩
      · exact .inl ⟨h2 fun zs z => ht ⟨zs, z⟩, fun l nl => post_tup hH rr2 q nl⟩
/-- all(..), any(..) of a list of truths -/
def asBls : List D → Option (List Bool)
  | [] => some []
  | .bl b :: ds => (asBls ds).map (b :: ·)
  | _ => none
theorem asBls_ok : ∀ {ds : List D} {bs : List Bool} {vs : List V}, asBls ds = some bs → Rs K H ι vs ds → vs = bs.map V.bl
  | [], bs, vs, e, r => by cases e; cases r; rfl
  | d :: ds, bs, vs, e, r => by
    cases r with
    | cons r rs =>
      cases r with
      | bl b =>
        unfold asBls at e
        cases h : asBls ds with
        | none => rw [h] at e; cases e
        | some cs =>
          rw [h] at e
          cases e
          rw [asBls_ok h rs]
          rfl
      | _ => cases e
def boolsD (f : List Bool → Bool) (ds : List D) (T : Hq) : Res D := match ds with
  | [.obj n] => match T[n]? with
    | some (.lst xs) => match asBls xs with
      | some bs => .ok (.bl (f bs)) T
      | none => .stuck
    | _ => .stuck
  | _ => .stuck
theorem cd_bools {id : String} {f : List Bool → Bool} (h : CallR X (.builtin id) (fun vs H Q => ∃ (a : Addr) (bs : List Bool), vs = [V.ref a] ∧ SqL X.K H a (bs.map V.bl) ∧ Q (.bl (f bs)) H)) : CallD X (.builtin id) (boolsD f) := by
  intro W σ pins s σ0 H xs us Q I rr ⟨ι, T, ds, hH, rs, q⟩
  unfold boolsD at q
  split at q
  · rename_i n
    obtain ⟨v, rfl, r⟩ := rs.inv1
    cases r with
    | @obj a _ ea =>
      obtain ⟨o, eo, ro⟩ := hH.live ea
      rw [eo] at q
      cases o with
      | lst ds =>
        obtain ⟨vs, ex, ra⟩ := ro
        dsimp only at q
        cases hb : asBls ds with
        | none => rw [hb] at q; exact q.elim
        | some bs =>
          rw [hb] at q
          have := asBls_ok hb ra
          subst this
          exact h pins s σ0 H _ us Q I rr ⟨a, bs, rfl, .of ex, post_ok hH (.bl _) q⟩
      | _ => exact q.elim
  · exact q.elim
theorem cd_all (hc : X.calm = true) : CallD X (.builtin "all") (boolsD fun bs => bs.all id) := cd_bools (cr_all hc)
theorem cd_any (hc : X.calm = true) : CallD X (.builtin "any") (boolsD fun bs => bs.any id) := cd_bools (cr_any hc)
end
end Mn

set_option Elab.async false
set_option linter.all false
set_option maxRecDepth 100000
set_option maxHeartbeats 1000000
/-! Mini 11: methods, isinstance, stores into lists, more built-ins. -/
namespace Mn
open PySem PySem.Spec PyProof.Rows L2

section
variable {X : Cx} {K : PySem.W.Frag} {mg : Str → Option Value} {W : WX} {σ : L2.St} {H : Hp} {ι : List Addr} {T : Hq}
/-- an object is written: the result d -/
theorem post_write {Q : VK} {d : D} {v : V} {n : Nat} {a : Addr} {ds : List D} {vs : List V} (h : HR K H ι T) (ea : ι[n]? = some a) (r : Rs K H ι vs ds) (q : Post (Rr K) K mg W σ H ι Q (.ok d (T.set n (.lst ds)))) (rv : ∀ H', R K H' ι v d) : Q v (upd H a (.lst vs)) := by
  obtain ⟨o, eo, ro⟩ := h.live ea
  obtain ⟨u, eu, n1⟩ := ro.some
  have E : Ext H (upd H a (.lst vs)) := Ext.write eu n1
  obtain ⟨h', _⟩ := h.write (u := .lst vs) (o := .lst ds) ea ⟨vs, upd_same, r.mv E (fun _ _ z => z)⟩
  exact q v _ ι E (Pre.write ea) h' (rv _)
/-! ### methods -/
def MtD (X : Cx) (id : String) (g : D → List D → Hq → Res D) : Prop := ∀ W σ, MtR X id (fun x xs H Q => ∃ ι T d ds, HR X.K H ι T ∧ R X.K H ι x d ∧ Rs X.K H ι xs ds ∧ Post (Rr X.K) X.K X.mg W σ H ι Q (g d ds T))
/-- the receiver is of the type -/
def tyD (Ty : String) (d : D) (T : Hq) : Bool := match d with
  | .str _ => Ty == "str"
  | .obj n => match T[n]? with
    | some (.lst _) => Ty == "list"
    | some (.dct _) => Ty == "dict"
    | _ => false
  | .rol _ => Ty == "list"
  | _ => false
theorem tyD_ok (h : HR K H ι T) {Ty : String} {v : V} {d : D} (r : R K H ι v d) (e : tyD Ty d T = true) : tyV K Ty v H := by
  unfold tyD at e
  cases r with
  | str x _ => exact (by simpa using e : Ty = "str")
  | @rol a xs ds s r => exact .inl ⟨by simpa using e, xs, s.sq⟩
  | @obj a n ea =>
    obtain ⟨o, eo, ro⟩ := h.live ea
    dsimp only at e
    rw [eo] at e
    cases o with
    | lst ds =>
      obtain ⟨vs, ex, ra⟩ := ro
      exact .inl ⟨by simpa using e, vs, .of ex⟩
    | dct ds =>
      obtain ⟨vs, ex, ra⟩ := ro
      exact .inr (.inr (.inl ⟨by simpa using e, .inl ⟨vs, ex⟩⟩))
    | _ => cases e
  | _ => cases e
def mMeth (Ty : String) (g : D → List D → Hq → Res D) (o : EMn) (m : LMn) : EMn := fun l T => (o l T).bind fun d T1 => if tyD Ty d T1 = true then (m l T1).bind fun ds T2 => g d ds T2 else .stuck
variable {o e : Expr} {es : List Expr} {name : Str} {apos cpos : Pos} {Ty id : String} {g : D → List D → Hq → Res D} {mo : EMn} {ma : LMn}
theorem se_meth (pa : PlainAttrs Ty) (slot : Slot Ty name id) (hty : typeOf (.builtin id) = pure (.type "method_descriptor")) (hm : MtD X id g) (ho : SE X o mo) (ha : SA X (e :: es) ma)
    (hbase : attributeBase o name X.env (eval o X.env) = eval o X.env)
    (hfew : ((backTo cpos (starEach (e :: es) X.env)).all (fun x => !x.1) && (backToKw cpos (keywordEach [] X.env)).all (fun x => x.1.isSome)
      && decide ((e :: es).length + ([] : List Keyword).length + (if ([] : List Keyword).isEmpty then 0 else 1) < 30)) = true)
    (hline : (apos.endLine == cpos.line) = true) (hs : starEach (e :: es) X.env = (false, eval e X.env) :: starEach es X.env) (hplain : (backTo cpos (starEach es X.env)).any (·.1) = false) :
    SE X (.Call (.Attribute o name apos) (e :: es) [] cpos) (mMeth Ty g mo ma) := fun W tk => by
  refine ⟨fun pins s σ H Q I ⟨ι, T, l, hS, hH, q⟩ => ?_⟩
  refine (pe_bm pa slot hty (hm W σ) (ho W tk) (ha W tk) hbase hfew hline hs hplain).run pins s σ H Q I ?_
  refine rd_bind hS hH q fun d T1 v H1 ι1 e1 p1 hS1 h1 r1 q1 => ?_
  by_cases ht : tyD Ty d T1 = true
  · rw [if_pos ht] at q1
    exact ⟨tyD_ok h1 r1 ht, rd_bind hS1 h1 q1 fun ds T2 vs H2 ι2 e2 p2 hS2 h2 r2 q2 => ⟨ι2, T2, d, ds, h2, R.ext e2 p2 r1, r2, q2⟩⟩
  · rw [if_neg ht] at q1; exact q1.elim
theorem se_meth0 (pa : PlainAttrs Ty) (slot : Slot Ty name id) (hty : typeOf (.builtin id) = pure (.type "method_descriptor")) (hm : MtD X id g) (ho : SE X o mo)
    (hbase : attributeBase o name X.env (eval o X.env) = eval o X.env) (hline : (apos.endLine == cpos.line) = true) : SE X (.Call (.Attribute o name apos) [] [] cpos) (mMeth Ty g mo mNil) := fun W tk => by
  refine ⟨fun pins s σ H Q I ⟨ι, T, l, hS, hH, q⟩ => ?_⟩
  refine (pe_bm0 pa slot hty (hm W σ) (ho W tk) hbase hline).run pins s σ H Q I ?_
  refine rd_bind hS hH q fun d T1 v H1 ι1 e1 p1 hS1 h1 r1 q1 => ?_
  by_cases ht : tyD Ty d T1 = true
  · rw [if_pos ht] at q1
    exact ⟨tyD_ok h1 r1 ht, ι1, T1, d, [], h1, r1, .nil, q1⟩
  · rw [if_neg ht] at q1; exact q1.elim
def appendD (d : D) (ds : List D) (T : Hq) : Res D := match d, ds with
  | .obj n, [y] => match T[n]? with
    | some (.lst xs) => if xs.length < sizeLine then .ok .non (T.set n (.lst (xs ++ [y]))) else .stuck
    | _ => .stuck
  | _, _ => .stuck
theorem md_append : MtD X "list.append" appendD := by
  intro W σ pins s σ0 H x xs v us Q I rx rxs ⟨ι, T, d, ds, hH, r, rs, q⟩
  unfold appendD at q
  split at q
  · rename_i n y
    cases r with
    | @obj a _ ea =>
      obtain ⟨o, eo, ro⟩ := hH.live ea
      rw [eo] at q
      cases o with
      | lst es =>
        obtain ⟨vs, ex, ra⟩ := ro
        dsimp only at q
        by_cases hl : es.length < sizeLine
        · rw [if_pos hl] at q
          obtain ⟨w, rfl, rw'⟩ := rs.inv1
          exact mt_append pins s σ0 H _ _ v us Q I rx rxs ⟨a, vs, w, rfl, rfl, ex, by rw [ra.length]; exact hl, post_write hH ea (ra.app (.cons rw' .nil)) q fun _ => .non⟩
        · rw [if_neg hl] at q; exact q.elim
      | _ => exact q.elim
  · exact q.elim
def extendD (d : D) (ds : List D) (T : Hq) : Res D := match d, ds with
  | .obj n, [.obj m] => match T[n]?, T[m]? with
    | some (.lst xs), some (.lst ys) => if xs.length + ys.length ≤ sizeLine then .ok .non (T.set n (.lst (xs ++ ys))) else .stuck
    | _, _ => .stuck
  | _, _ => .stuck
theorem md_extend : MtD X "list.extend" extendD := by
  intro W σ pins s σ0 H x xs v us Q I rx rxs ⟨ι, T, d, ds, hH, r, rs, q⟩
  unfold extendD at q
  split at q
  · rename_i n m
    cases r with
    | @obj a _ ea =>
      obtain ⟨w, rfl, rw'⟩ := rs.inv1
      cases rw' with
      | @obj b _ eb =>
        obtain ⟨o, eo, ro⟩ := hH.live ea
        obtain ⟨o2, eo2, ro2⟩ := hH.live eb
        rw [eo, eo2] at q
        cases o with
        | lst es => cases o2 with
          | lst fs =>
            obtain ⟨vs, ex, ra⟩ := ro
            obtain ⟨ws, ey, rb⟩ := ro2
            dsimp only at q
            by_cases hl : es.length + fs.length ≤ sizeLine
            · rw [if_pos hl] at q
              exact mt_extend pins s σ0 H _ _ v us Q I rx rxs ⟨a, b, vs, ws, rfl, rfl, ex, ey, by rw [ra.length, rb.length]; exact hl, post_write hH ea (ra.app rb) q fun _ => .non⟩
            · rw [if_neg hl] at q; exact q.elim
          | _ => exact q.elim
        | _ => exact q.elim
  · exact q.elim
/-- xs.pop(0) -/
def popAtD (d : D) (ds : List D) (T : Hq) : Res D := match d, ds with
  | .obj n, [.int 0] => match T[n]? with
    | some (.lst (x :: xs)) => .ok x (T.set n (.lst xs))
    | _ => .stuck
  | _, _ => .stuck
theorem md_popAt : MtD X "list.pop" popAtD := by
  intro W σ pins s σ0 H x xs v us Q I rx rxs ⟨ι, T, d, ds, hH, r, rs, q⟩
  unfold popAtD at q
  split at q
  · rename_i n
    cases r with
    | @obj a _ ea =>
      obtain ⟨w, rfl, rw'⟩ := rs.inv1
      cases rw'
      obtain ⟨o, eo, ro⟩ := hH.live ea
      rw [eo] at q
      cases o with
      | lst es =>
        obtain ⟨vs, ex, ra⟩ := ro
        cases ra with
        | nil => exact q.elim
        | @cons y ys d0 es r0 rs0 =>
          dsimp only at q
          refine mt_popAt pins s σ0 H _ _ v us Q I rx rxs ⟨a, y :: ys, 0, 0, y, rfl, rfl, ex, by omega, by omega, ?_, rfl, ?_⟩
          · simp [seqIndex?]
          · obtain ⟨o, eo, ro⟩ := hH.live ea
            obtain ⟨u, eu, n1⟩ := ro.some
            have E : Ext H (upd H a (.lst ys)) := Ext.write eu n1
            obtain ⟨h', _⟩ := hH.write (u := .lst ys) (o := .lst es) ea ⟨ys, upd_same, rs0.mv E (fun _ _ z => z)⟩
            exact q y _ ι E (Pre.write ea) h' (R.mv E (fun _ _ z => z) r0)
      | _ => exact q.elim
  · exact q.elim
/-- texts of a list or a tuple -/
def asStrs : List D → Option (List Str)
  | [] => some []
  | .str x :: ds => (asStrs ds).map (x :: ·)
  | _ => none
theorem asStrs_ok : ∀ {ds : List D} {bs : List Str} {vs : List V}, asStrs ds = some bs → Rs K H ι vs ds → vs = bs.map V.str ∧ ∀ x ∈ bs, PyData.strOk x = true
  | [], bs, vs, e, r => by cases e; cases r; exact ⟨rfl, fun _ h => by simp at h⟩
  | d :: ds, bs, vs, e, r => by
    cases r with
    | cons r rs =>
      cases r with
      | str b hb =>
        unfold asStrs at e
        cases h : asStrs ds with
        | none => rw [h] at e; cases e
        | some cs =>
          rw [h] at e
          cases e
          obtain ⟨e1, e2⟩ := asStrs_ok h rs
          exact ⟨by rw [e1]; rfl, fun x hx => by rcases List.mem_cons.mp hx with rfl | hx; exact hb; exact e2 x hx⟩
      | _ => cases e
def joinD (d : D) (ds : List D) (T : Hq) : Res D := match d, ds with
  | .str a, [e] => match (seqOf e T).bind asStrs with
    | some ys => if (ys.map (·.length)).sum + ys.length * a.length ≤ 16777216 then .ok (.str (Txt.join a ys)) T else .stuck
    | none => .stuck
  | _, _ => .stuck
theorem ok_joinS {a : Str} (ha : PyData.strOk a = true) : ∀ {ys : List Str}, (∀ x ∈ ys, PyData.strOk x = true) → PyData.strOk (Str.join a ys) = true
  | [], _ => by show PyData.strOk Str.empty = true; decide +kernel
  | [x], h => h x (by simp)
  | x :: y :: r, h => ok_app (ok_app (h x (by simp)) ha) (ok_joinS ha (ys := y :: r) fun z hz => h z (List.mem_cons_of_mem _ hz))
theorem ok_join {a : Str} (ha : PyData.strOk a = true) {ys : List Str} (h : ∀ x ∈ ys, PyData.strOk x = true) : PyData.strOk (Txt.join a ys) = true := by
  rw [TL.join_eq]; exact ok_joinS ha h
theorem md_join : MtD X "str.join" joinD := by
  intro W σ pins s σ0 H x xs v us Q I rx rxs ⟨ι, T, d, ds, hH, r, rs, q⟩
  unfold joinD at q
  split at q
  · rename_i a e
    cases r with
    | str _ ha =>
      obtain ⟨w, rfl, rw'⟩ := rs.inv1
      cases h1 : seqOf e T with
      | none => rw [h1] at q; exact q.elim
      | some es =>
        rw [h1] at q
        dsimp only [Option.bind_some] at q
        cases h2 : asStrs es with
        | none => rw [h2] at q; exact q.elim
        | some ys =>
          rw [h2] at q
          dsimp only at q
          obtain ⟨b, zs, rfl, hs, rr, _, _⟩ := seqOf_ok hH rw' h1
          obtain ⟨e1, e2⟩ := asStrs_ok h2 rr
          subst e1
          by_cases hl : (ys.map (·.length)).sum + ys.length * a.length ≤ 16777216
          · rw [if_pos hl] at q
            exact mt_join pins s σ0 H _ _ v us Q I rx rxs ⟨a, b, ys, rfl, rfl, hs, hl, post_ok hH (.str _ (ok_join ha e2)) q⟩
          · rw [if_neg hl] at q; exact q.elim
  · exact q.elim
end
end Mn

set_option Elab.async false
set_option linter.all false
set_option maxRecDepth 100000
set_option maxHeartbeats 4000000
/-! Mini 12: own errors whose __init__ calls super().__init__ and keeps its argument in a field. -/
namespace Mn.EI
open PySem PySem.W PySem.Calls PyProof.Rows PySem.HandSPX
abbrev iA (fld : Str) (p1 p2 : Pos) : Arguments := { posonlyargs := [], args := [{ arg := "self", annotation := none, pos := p1 }, { arg := fld, annotation := none, pos := p2 }], vararg := none, kwonlyargs := [], kw_defaults := [], kwarg := none, defaults := [] }
abbrev iB (fld : Str) (a0 a1 a2 a3 a4 b1 b2 b3 b4 : Pos) : List Stmt := [.Expr (.Call (.Attribute (.Call (.Name "super" a0) [] [] a1) "__init__" a2) [.Name fld a3] [] a4) a4, .Assign [.Attribute (.Name "self" b1) fld b2] (.Name fld b3) b4]
abbrev iS (fld : Str) : Scope := { kind := .function, names := [(Str.ofString "self", .local), (fld, .local), (Str.ofString "__class__", .free), (Str.ofString "super", .globalImplicit)], isGenerator := false, isCoroutine := false, more := [] }
/-- a field's name that is none of the others -/
structure FldOk (fld : Str) : Prop where
  l1 : (iS fld).names.lookup fld = some .local
  l2 : (iS fld).names.lookup ("super" : Str) = some .globalImplicit
  l3 : (iS fld).names.lookup ("__class__" : Str) = some .free
  l4 : (iS fld).names.lookup ("self" : Str) = some .local
  l5 : (("self" : Str) == fld) = false
  l6 : (fld == ("__debug__" : Str)) = false
  l7 : (fld == ("__class__" : Str)) = false
  bp : ∀ (qual : Str) (p1 p2 : Pos) (doc pm : Value) (an : Option Addr) (cd ct : Value) (cc : Addr) (a0 a1 a2 a3 a4 b1 b2 b3 b4 : Pos) (self v : Value), bindArgs (ksFn "__init__" qual (iA fld p1 p2) (iB fld a0 a1 a2 a3 a4 b1 b2 b3 b4) (iS fld) .none .none doc pm an cd ct cc) ⟨[self, v], []⟩ = pure [((Str.ofString "self" : Str), self), (fld, v)]
  bk : ∀ (qual : Str) (p1 p2 : Pos) (doc pm : Value) (an : Option Addr) (cd ct : Value) (cc : Addr) (a0 a1 a2 a3 a4 b1 b2 b3 b4 : Pos) (self v : Value), bindArgs (ksFn "__init__" qual (iA fld p1 p2) (iB fld a0 a1 a2 a3 a4 b1 b2 b3 b4) (iS fld) .none .none doc pm an cd ct cc) ⟨[self], [(fld, v)]⟩ = pure [((Str.ofString "self" : Str), self), (fld, v)]
theorem fld_name : FldOk "name" := ⟨rfl, rfl, rfl, rfl, by decide +kernel, by decide +kernel, by decide +kernel, fun _ _ _ _ _ _ _ _ _ _ _ _ _ _ _ _ _ _ _ _ => by with_unfolding_all rfl, fun _ _ _ _ _ _ _ _ _ _ _ _ _ _ _ _ _ _ _ _ => by with_unfolding_all rfl⟩
theorem fld_word : FldOk "word" := ⟨rfl, rfl, rfl, rfl, by decide +kernel, by decide +kernel, by decide +kernel, fun _ _ _ _ _ _ _ _ _ _ _ _ _ _ _ _ _ _ _ _ => by with_unfolding_all rfl, fun _ _ _ _ _ _ _ _ _ _ _ _ _ _ _ _ _ _ _ _ => by with_unfolding_all rfl⟩
theorem fld_place : FldOk "place" := ⟨rfl, rfl, rfl, rfl, by decide +kernel, by decide +kernel, by decide +kernel, fun _ _ _ _ _ _ _ _ _ _ _ _ _ _ _ _ _ _ _ _ => by with_unfolding_all rfl, fun _ _ _ _ _ _ _ _ _ _ _ _ _ _ _ _ _ _ _ _ => by with_unfolding_all rfl⟩
theorem fld_path : FldOk "path" := ⟨rfl, rfl, rfl, rfl, by decide +kernel, by decide +kernel, by decide +kernel, fun _ _ _ _ _ _ _ _ _ _ _ _ _ _ _ _ _ _ _ _ => by with_unfolding_all rfl, fun _ _ _ _ _ _ _ _ _ _ _ _ _ _ _ _ _ _ _ _ => by with_unfolding_all rfl⟩
theorem fld_line : FldOk "line" := ⟨rfl, rfl, rfl, rfl, by decide +kernel, by decide +kernel, by decide +kernel, fun _ _ _ _ _ _ _ _ _ _ _ _ _ _ _ _ _ _ _ _ => by with_unfolding_all rfl, fun _ _ _ _ _ _ _ _ _ _ _ _ _ _ _ _ _ _ _ _ => by with_unfolding_all rfl⟩
theorem fld_many : FldOk "many" := ⟨rfl, rfl, rfl, rfl, by decide +kernel, by decide +kernel, by decide +kernel, fun _ _ _ _ _ _ _ _ _ _ _ _ _ _ _ _ _ _ _ _ => by with_unfolding_all rfl, fun _ _ _ _ _ _ _ _ _ _ _ _ _ _ _ _ _ _ _ _ => by with_unfolding_all rfl⟩
theorem fld_limit : FldOk "limit" := ⟨rfl, rfl, rfl, rfl, by decide +kernel, by decide +kernel, by decide +kernel, fun _ _ _ _ _ _ _ _ _ _ _ _ _ _ _ _ _ _ _ _ => by with_unfolding_all rfl, fun _ _ _ _ _ _ _ _ _ _ _ _ _ _ _ _ _ _ _ _ => by with_unfolding_all rfl⟩
structure ErrTxt (prog : Program) (K : Frag) (mg : Str → Option Value) (c fld : Str) (C fI cc cda : Addr) : Prop where
  fl : FldOk fld
  gC : mg c = some (.ref C)
  cls : ∃ nm q N bs bm sn sub ab col dd k0 k1 k2 k3 k5, K.lookup C = some (excClassObj nm q C N bs bm true sn sub ab col dd k0 k1 k2 k3 k5 "ValueError.__new__") ∧ refsVE bm = true
  sa : findIn K (.ref C) "__setattr__" = some (some (.builtin "object.__setattr__"))
  ga : findIn K (.ref C) "__getattribute__" = some (some (.builtin "BaseException.__getattribute__"))
  gg : findIn K (.ref C) "__getattr__" = some none
  noN : findIn K (.ref C) fld = some none
  iC : findIn K (.ref C) "__init__" = some (some (.ref fI))
  tC : typeIn K (.ref fI) = some (.type "function")
  kC : keepIn K (.ref C) = true
  exC : subIn K (.ref C) (.type "BaseException") = some true
  veC : subIn K (.ref C) (.type "ValueError") = some true
  tyC : typeIn K (.ref C) = some (.type "type")
  hdC : hasDictIn K C = true
  fn : ∃ (oc : Value) (od : Option Addr) (doc pm : Value) (an : Option Addr) (ct : Value) (osl : Array (Option Value)) (qual : Str) (p1 p2 a0 a1 a2 a3 a4 b1 b2 b3 b4 : Pos),
    K.lookup fI = some ⟨oc, od, .func (ksFn "__init__" qual (iA fld p1 p2) (iB fld a0 a1 a2 a3 a4 b1 b2 b3 b4) (iS fld) .none .none doc pm an (.ref cda) ct cc), osl⟩ ∧ codeIn K (.ref cda) qual = true ∧ (a2.endLine == a4.line) = true
  code : ∃ (ccl : Value) (cdd : Option Addr) (vs : Array Value) (ccs : Array (Option Value)) (file : Str) (tf : Tok), K.lookup cda = some ⟨ccl, cdd, .fields vs, ccs⟩ ∧ vs[2]? = some (.str file tf) ∧ ((prog.main.file : Str) == file) = true
  cell : ∃ (cl : Value) (cld : Option Addr) (csl : Array (Option Value)), K.lookup cc = some ⟨cl, cld, .cell (some (.ref C)), csl⟩
  self : mroIn K C (.ref C) = some true
  sup : nsIn K mainGlobals "super" = some none
  supI : ks_superIn K C C "__init__" = some (some (.builtin "ValueError.__init__"))
  opq : nsIn K cStatics "thirdparty.any" = some none
  top : (prog.main.scope.names.lookup ("super" : Str)).isSome = false
theorem one_size (v : Value) : [v].length ≤ sizeLine := by
  rw [sizeLine_eq]
  exact (by decide : 1 ≤ 16777216)
theorem wpAt_mcall {prog : Program} {w : World} {A : Around} {cd : Code} {E : Value → Shared → Prop} {s : Shared} {env : Env} {o : Expr} {name : Str} {apos pos : Pos} {arg : Expr} {Q : Value → Shared → Prop} (hline : (apos.endLine == pos.line) = true)
    (hs : starEach [arg] env = [(false, eval arg env)])
    (h : _root_.PySem.wpAt (model prog w) A cd (attributeBase o name env (eval o env)) (fun ov s₁ => ∀ pl, wpAny (model prog w) A (getMethod ov name pl) (fun fx s₂ => wpAny (model prog w) A (callWith pos fx.1 fx.2 (backTo pos (starEach [arg] env)) []) Q E s₂) E s₁) E s) :
    _root_.PySem.wpAt (model prog w) A cd (eval (.Call (.Attribute o name apos) [arg] [] pos) env) Q E s := by
  rw [arm_eval_Call]
  refine _root_.PySem.wpAt_bind (ks_wpAt_mono h (fun ov s₁ h₁ => _root_.PySem.wpAt_of_wpAny (wpAny_bind (wpAny_standAt ?_))) fun _ _ x => x)
  have hform : methodCallForm ([arg].length + ([] : List Keyword).length) (backTo pos (starEach [arg] env)) (backToKw pos (keywordEach [] env)) = true := by rw [hs]; rfl
  have hpos : methodCallPos true o env apos pos = pure pos := by unfold methodCallPos; simp [hline]
  unfold methodCall
  rw [hform]
  refine wpAny_bind (wpAny_holding (wpAny_mono (h₁ _) (fun fx s₂ h₂ => ?_) fun _ _ x => x))
  exact wpAny_bind (wpAny_of_eq hpos h₂)
/-- what __init__ leaves of a fresh exception at x -/
structure InitEnd (h h' : Heap) (fld : Str) (x C dx t1 : Addr) (v : Value) : Prop where
  keep : ∀ b o, b ≠ x → h.get? b = some o → h'.get? b = some o
  obj : h'.get? x = some { cls := .ref C, dict := some dx, data := .fields #[.ref t1, .none, .none, .none, .bool false, .none] }
  dbig : h.objs.size ≤ dx
  dne : dx ≠ x
  ns : h'.Ns1 dx (fun y => if y = fld then some v else none)
/-- a made one -/
structure OwnMade (h h' : Heap) (fld : Str) (e C d : Addr) (v : Value) : Prop where
  keep : ∀ b o, h.get? b = some o → h'.get? b = some o
  new : h.objs.size ≤ e
  obj : ∃ t1 : Addr, h'.get? e = some { cls := .ref C, dict := some d, data := .fields #[.ref t1, .none, .none, .none, .bool false, .none] }
  dbig : h.objs.size ≤ d
  dne : d ≠ e
  ns : h'.Ns1 d (fun y => if y = fld then some v else none)
section
variable {prog : Program} {w : World} {A : Around} {E : Value → Shared → Prop} {R : Result → Shared → Prop} {s : Shared} {K : Frag} {mg : Str → Option Value} {c fld : Str} {C fI cc cda : Addr}
theorem run_init (T : ErrTxt prog K mg c fld C fI cc cda) {x t0 : Addr} {v : Value} {args : Args} (X : K.In s.heap) (G : s.heap.Ns mainGlobals mg) (B : ∃ mb, s.heap.Ns builtinsNs mb ∧ ∀ x : Str, x ≠ "__name__" → mb x = bootBuiltins x) (hlim : s.heap.NoLimit)
    (hx : s.heap.get? x = some (excO C t0)) (hnx : K.lookup x = none) (hroom : A.depth < recursionLimit)
    (hbind : ∀ fd : FuncData, (∃ qual p1 p2 doc pm an ct a0 a1 a2 a3 a4 b1 b2 b3 b4, fd = ksFn "__init__" qual (iA fld p1 p2) (iB fld a0 a1 a2 a3 a4 b1 b2 b3 b4) (iS fld) .none .none doc pm an (.ref cda) ct cc) → BindsTo s fd args [("self", .ref x), (fld, v)])
    (hq : ∀ h' tk dx t1, InitEnd s.heap h' fld x C dx t1 v → R (.ok (.ret .none)) { s with heap := h', toks := tk }) :
    codeAny (model prog w) A (.call (.ref fI) args) R s := by
  obtain ⟨oc, od, doc, pm, an, ct, osl, qual, p1, p2, a0, a1, a2, a3, a4, b1, b2, b3, b4, ho, hcd, hline⟩ := T.fn
  obtain ⟨nm, q, N, bs, bm, sn, sub, ab, col, dd, k0, k1, k2, k3, k5, hC, hbm⟩ := T.cls
  obtain ⟨ccl, cdd, vs, ccs, file, tf, hcode, hvs, hfile⟩ := T.code
  obtain ⟨cl, cld, csl, hcell⟩ := T.cell
  obtain ⟨mb, hB, hBb⟩ := B
  have hcl : clsIn K C = some { name := nm, bases := bs, mro := .ref C :: bm, ns := N, qualname := q, hasDict := true, slotNames := sn, subclasses := sub, abstract := ab, collection := col, hasDel := false } := by unfold clsIn; rw [hC] <;> rfl
  have f1 : (iS fld).names.lookup ("super" : Str) = some .globalImplicit := T.fl.l2
  have f2 : (iS fld).names.lookup ("__class__" : Str) = some .free := T.fl.l3
  have f3 : (iS fld).names.lookup ("self" : Str) = some .local := T.fl.l4
  have f4 : (iS fld).names.lookup fld = some .local := T.fl.l1
  refine ks_codeAny_call_defAt (fd := ksFn "__init__" qual (iA fld p1 p2) (iB fld a0 a1 a2 a3 a4 b1 b2 b3 b4) (iS fld) .none .none doc pm an (.ref cda) ct cc) (binds := [("self", .ref x), (fld, v)]) hroom (X _ _ ho) rfl hlim (codeRec_of X hcd) rfl
    (hbind _ ⟨_, _, _, _, _, _, _, _, _, _, _, _, _, _, _, _, rfl⟩) ?_ ?_ (fun h₁ hn k => ?_) rfl rfl rfl
  · intro y hy
    simp only [ksFn, fnX, iS, List.mem_cons, List.not_mem_nil, or_false] at hy
    rcases hy with rfl | rfl | rfl | rfl <;> (intro z; cases z)
  · intro y hy
    simp only [List.mem_cons, List.not_mem_nil, or_false] at hy
    rcases hy with rfl | rfl
    · exact f3
    · exact f4
  have xl : s.heap.objs.size ≠ x := Nat.ne_of_gt (Heap.lt_size hx)
  have X₁ : K.In h₁ := X.keeps k
  have hx₁ := k _ _ hx
  have ms : (fun y => ([("self", Value.ref x), (fld, v)] : List (Str × Value)).reverse.lookup y) "self" = some (.ref x) := by
    show List.lookup ("self" : Str) [(fld, v), ("self", Value.ref x)] = _
    simp [List.lookup, T.fl.l5]
  have mf : (fun y => ([("self", Value.ref x), (fld, v)] : List (Str × Value)).reverse.lookup y) fld = some v := by
    show List.lookup fld [(fld, v), ("self", Value.ref x)] = _
    simp [List.lookup]
  have hDo : ∃ oD cdD, h₁.get? C = some oD ∧ oD.data = .cls cdD := ⟨_, _, X₁ _ _ hC, rfl⟩
  obtain ⟨oD, cdD, hD1, hD2⟩ := hDo
  show _root_.PySem.wpAt (model prog w) (A.deeper (ksEnv qual (iS fld) s.heap.objs.size fI (.ref cda) cc)) (.func (iB fld a0 a1 a2 a3 a4 b1 b2 b3 b4) (ksEnv qual (iS fld) s.heap.objs.size fI (.ref cda) cc)) (execs (iB fld a0 a1 a2 a3 a4 b1 b2 b3 b4) (ksEnv qual (iS fld) s.heap.objs.size fI (.ref cda) cc)) _ _ _
  refine ks_wpAt_execs_cons (ks_wpAt_Expr_any (wpAt_mcall hline rfl ?_))
  · refine ks_wpAt_super_base (env := ksEnv qual (iS fld) s.heap.objs.size fI (.ref cda) cc) f1 f2 (by decide +kernel) rfl (X₁ _ _ ho) rfl rfl rfl (X₁ _ _ hcode) rfl hvs hfile T.top ?_
    refine ks_loadName_global rfl f1 (loadGlobal_builtin (env := ksEnv qual (iS fld) s.heap.objs.size fI (.ref cda) cc) (G.keeps k) (mg_none_of X G T.sup) (hB.keeps k) ((hBb _ (by decide +kernel)).trans (show bootBuiltins "super" = some (.type "super") by decide +kernel)) ⟨rfl, ?_⟩)
    refine wpAny_loadName_free rfl f2 rfl ⟨_, X₁ _ _ hcell, rfl⟩ ?_
    refine wpAny_loadName_local rfl f3 hn ms ?_
    refine ks_wpAny_isType_cls hD1 hD2 ⟨rfl, ?_⟩
    obtain ⟨hh, g, dr, tk, os⟩ := s
    refine ks_wpAny_call_super hD1 hD2 hx₁ rfl (fun c e => by cases e) (looks_mroIn X₁ T.self) (fun h₂ e k₂ => fun pl => ?_)
    have X₂ : K.In h₂ := X₁.keeps k₂
    have hx₂ := k₂ _ _ hx₁
    have I₂ : InstAt h₂ x (excO C t0) C none := ⟨hx₂, rfl, rfl, trivial⟩
    have hso := e
    obtain ⟨cd, hcd1, hcd2⟩ : ∃ cd, clsIn K C = some cd ∧ alongIn K "__init__" ((cd.mro.dropWhile (· != .ref C)).drop 1) = some (some (.builtin "ValueError.__init__")) := by
      have z := T.supI
      unfold ks_superIn at z
      rw [hcl, Option.bind_some] at z
      exact ⟨_, hcl, z⟩
    have hI : Looks (model prog w) h₂ (isInstance (.ref x) (.type "ValueError")) true := I₂.type.andThen (looks_subIn X₂ T.veC)
    refine kxs_getMethod kxs_ValueError e (looks_opaque X₂ T.opq) (l₀ := cd.mro) (fun A Q E s k q => wpAny_bind ((looks_clsIn X₂ hcd1) A _ E s k (wpAny_pure q))) rfl X₂ hcd2 hI (ks_ne X₂ I₂ hcd1) (by decide +kernel) ?_
    have nT : h₂.objs.size ≠ x := Nat.ne_of_gt (Heap.lt_size hx₂)
    have k₃ : ∀ b o, h₂.get? b = some o → (h₂.push (kxs_mw "ValueError.__init__" x)).get? b = some o := fun b o e => Heap.get?_push_of_some _ e
    have hu₃ : (h₂.push (kxs_mw "ValueError.__init__" x)).get? h₂.objs.size = some (kxs_mw "ValueError.__init__" x) := Heap.get?_push_at rfl rfl
    have hn₃ := (hn.keeps k₂).keeps k₃
    have hx₃ := k₃ _ _ hx₂
    have hpl : ([] : List (Bool × Sem Value)).any (·.1) = false := rfl
    refine kxs_callWith (i := "ValueError.__init__") (x := x) rfl (evalArgs_plain (spliced_cons (wpAny_Name (wpAny_loadName_local rfl f4 hn₃ mf (spliced_nil ⟨hu₃, ?_⟩)) T.fl.l6)))
    refine wpAny_call (codeAny_of_tree ?_)
    show wpAny _ _ (callAny (.ref h₂.objs.size) ⟨[v], []⟩) _ _ _
    simp only [callAny]
    refine wpAny_bind (wpAny_load hu₃ ?_)
    simp only [kxs_mw, show (Value.type "method-wrapper" == Value.type "method" || Value.type "method-wrapper" == Value.type "builtin_function_or_method" || Value.type "method-wrapper" == Value.type "method-wrapper") = true by decide, if_true]
    refine KFB.if_so (by decide) ?_
    refine wpAny_bind (check_bound_init PySem.F.excBase_ValueError.toExcCallFacts ((X₂.keeps k₃) _ _ hC) hx₃ rfl ?_)
    refine wpAny_bind (wpAny_pure (wpAny_pure ?_))
    refine ⟨plainId_quiet PySem.F.excBase_ValueError.init.plain _, codeAny_builtin PySem.F.excBase_ValueError.initEntry ?_⟩
    refine exc_init_tree (cls := .ref C) (t0 := t0) (dv := none) (c2 := .none) (c3 := .none) (b4 := .bool false) hx₃ (one_size v) (fun h₄ k₄ hx₄ ht₄ => ?_)
    have lst : ∀ b o, hh.get? b = some o → b ≠ x → h₄.get? b = some o := fun b o e hb => k₄ b o hb (k₃ _ _ (k₂ _ _ (k _ _ e)))
    have hn₄ : h₄.Ns hh.objs.size (fun y => ([("self", Value.ref x), (fld, v)] : List (Str × Value)).reverse.lookup y) := hn₃.at fun o e => k₄ _ _ xl e
    have X₄ : K.In h₄ := fun a o e => k₄ a o (fun z => by rw [z, hnx] at e; cases e) (k₃ _ _ (X₂ _ _ e))
    show _root_.PySem.wpAt _ _ _ (execs _ _) _ _ _
    refine ks_wpAt_execs_cons (ks_wpAt_Assign_Attr (_root_.PySem.wpAt_of_wpAny (wpAny_Name (wpAny_loadName_local rfl f4 hn₄ mf ?_) T.fl.l6)))
    refine wpAny_Name (wpAny_loadName_local rfl f3 hn₄ ms ?_) (by decide +kernel)
    refine set_plain X₄ (ox := excO C (h₂.push (kxs_mw "ValueError.__init__" x)).objs.size) (od := none) ⟨hx₄, rfl, rfl, trivial⟩ T.sa ?_
    refine exc_osa X₄ hx₄ hcl (show refsVE (.ref C :: bm) = true from hbm) rfl T.noN (fun h₅ tk₅ dx k₅ dn dne hx₅ hn₅ => ?_)
    show _root_.PySem.wpAt _ _ _ (execs _ _) _ _ _
    have z1 : hh.objs.size < h₄.objs.size := hn₄.lt
    have z2 : h₄.objs.size ≤ dx := dn
    refine _root_.PySem.wpAt_of_wpAny (wpAny_execs_nil (hq h₅ tk₅ dx _ ⟨fun b o hb e => k₅ b o hb (lst b o e hb), hx₅, by show hh.objs.size ≤ dx; exact Nat.le_of_lt (Nat.lt_of_lt_of_le z1 z2), dne, hn₅⟩))
theorem run_made (T : ErrTxt prog K mg c fld C fI cc cda) {v : Value} (X : K.In s.heap) (G : s.heap.Ns mainGlobals mg) (B : ∃ mb, s.heap.Ns builtinsNs mb ∧ ∀ x : Str, x ≠ "__name__" → mb x = bootBuiltins x) (hlim : s.heap.NoLimit) (hroom : A.depth + 1 < recursionLimit)
    (hq : ∀ h' tk e d, OwnMade s.heap h' fld e C d v → R (.ok (.ret (.ref e))) { s with heap := h', toks := tk }) :
    codeAny (model prog w) A (.call (.ref C) ⟨[v], []⟩) R s := by
  obtain ⟨nm, q, N, bs, bm, sn, sub, ab, col, dd, k0, k1, k2, k3, k5, hC, hbm⟩ := T.cls
  obtain ⟨hp, g, dr, tk, os⟩ := s
  have k : ∀ b o, hp.get? b = some o → ((hp.push (kdv_tup [v])).push (excO C hp.objs.size)).get? b = some o := fun b o e => Heap.get?_push_of_some _ (Heap.get?_push_of_some _ e)
  have hget : ((hp.push (kdv_tup [v])).push (excO C hp.objs.size)).get? (hp.objs.size + 1) = some (excO C hp.objs.size) := by heap_get
  have hnx : K.lookup (hp.objs.size + 1) = none := by
    cases e : K.lookup (hp.objs.size + 1) with
    | none => rfl
    | some o =>
      have z : hp.get? (hp.objs.size + 1) = some o := X _ _ e
      exact absurd (Nat.lt_of_succ_lt (Heap.lt_size z)) (Nat.lt_irrefl _)
  obtain ⟨mb, hB, hBb⟩ := B
  refine call_own PySem.F.excBase_ValueError (fun X => refsVE_contains X bm hbm) (X _ _ hC) (looks_findIn X T.iC) (fun self => bind_fn X self T.tC) (one_size v) ?_
  refine run_init (s := ⟨(hp.push (kdv_tup [v])).push (excO C hp.objs.size), g, dr, tk, os⟩) (v := v) T (X.keeps k) (G.keeps k) ⟨mb, hB.keeps k, hBb⟩ (hlim.keeps k) hget hnx ?_ (fun fd hfd => ?_) fun h' tk' dx t1 ⟨k', hx, dn, dne, hns⟩ => ?_
  · show A.depth + 1 < recursionLimit
    exact hroom
  · obtain ⟨_, _, _, _, _, _, _, _, _, _, _, _, _, _, _, _, rfl⟩ := hfd
    exact BindsTo.of_eq (T.fl.bp ..)
  · have old : ∀ b o, hp.get? b = some o → h'.get? b = some o := fun b o e => k' b o (Nat.ne_of_lt (Nat.lt_succ_of_lt (Heap.lt_size e))) (k b o e)
    have z : hp.objs.size + 1 + 1 ≤ dx := by
      first
        | (simpa only [Heap.size_push] using dn)
        | exact dn
        | (have q := dn; rw [Heap.size_push, Heap.size_push] at q; exact q)
    exact ⟨rfl, hq h' tk' (hp.objs.size + 1) dx ⟨old, Nat.le_succ _, ⟨_, hx⟩, Nat.le_trans (Nat.le_trans (Nat.le_succ _) (Nat.le_succ _)) z, dne, hns⟩⟩
end
end Mn.EI
namespace Mn
open PySem PySem.Spec PyProof.Rows L2
theorem relO_fld {v : V} {v' : Value} (r : RelV v v') (fld f : Str) : RelO (List.lookup f [(fld, v)]) (if f = fld then some v' else none) := by
  by_cases hw : f = fld
  · subst hw
    rw [if_pos rfl]
    have q : List.lookup f [(f, v)] = some v := by simp [List.lookup]
    rw [q]
    exact r
  · rw [if_neg hw]
    have qw : (f == fld) = false := by simpa using hw
    have q2 : List.lookup f [(fld, v)] = none := by simp [List.lookup, qw]
    rw [q2]
    trivial
section
variable {X : Cx} {C fI cc cda : Addr} {c fld : Str}
theorem Inv.blt_of {pins : List (Addr × Obj)} {σ : L2.St} {H : Hp} {s : Shared} (I : Inv X pins σ H s) : ∃ mb, s.heap.Ns builtinsNs mb ∧ ∀ x : Str, x ≠ "__name__" → mb x = bootBuiltins x := by
  obtain ⟨mb, h1, h2⟩ := I.ok.mod.blt
  exact ⟨mb, h1.keeps fun b o e => (I.bs b o e).1, h2⟩
theorem Inv.glob_of {pins : List (Addr × Obj)} {σ : L2.St} {H : Hp} {s : Shared} (I : Inv X pins σ H s) : s.heap.Ns mainGlobals X.mg := I.ok.mod.glob.keeps fun b o e => (I.bs b o e).1
/-- X(e) -/
def tMkE (C : Addr) (fld : Str) (ta : TA) : L2.St → Hp → XK → Prop := fun σ H Q => ta σ H fun vs H1 => ∃ v, vs = [v] ∧ ∀ d, H1 d = none → Q (.ref C) (some d) (upd H1 d (.xd [(fld, v)]))
theorem pmk_err {a : Expr} {ta : TA} {p pos : Pos} {k : Nat} (T : EI.ErrTxt X.prog X.K X.mg c fld C fI cc cda) (hr : Room k X.A) (ha : PA X [a] ta) (hg : Gl X c) (hdb : (c == ("__debug__" : Str)) = false)
    (he : starEach (a :: []) X.env = (false, eval a X.env) :: starEach [] X.env) (hpl : (backTo pos (starEach [] X.env)).any (·.1) = false) :
    PMk X (.Call (.Name c p) [a] [] pos) (tMkE C fld ta) := by
  intro pins s σ H Q I h
  refine wpAny_Call_Name_kw (ld_glob I hg T.gC ?_ hdb)
  refine PySem.W.callWith_K (h₀ := X.base) I.ok.mod.kin T.kC (thn (ha.run pos pins s σ H _ I h) fun us s1 hh => ?_) he hpl
  obtain ⟨vs, H1, I1, r1, v, ev, q1⟩ := hh
  subst ev
  refine ⟨I1.kIn, ?_⟩
  cases r1 with
  | cons rv rn =>
    rename_i v' us'
    cases rn
    show wpAny _ _ (call (.ref C) [v']) _ _ _
    have hlim := I1.nolimit
    have hG := Inv.glob_of I1
    have hB := Inv.blt_of I1
    obtain ⟨hp, g, dr, tk, os⟩ := s1
    refine wpAny_call (EI.run_made T I1.kIn hG hB hlim (by have := hr.dp; omega) fun h' tk' e d M => ?_)
    show MkP X pins σ Q (.ref e) ⟨h', g, dr, tk', os⟩
    obtain ⟨t1, hoe⟩ := M.obj
    have hns := M.ns
    obtain ⟨G', g1, g2⟩ := restrict h' fun b => decide (b ≠ e)
    have gk : ∀ b, b ≠ e → G'.get? b = h'.get? b := fun b hb => g1 b (decide_eq_true hb)
    have ge : G'.get? e = none := g2 e (by simp)
    have old : ∀ b o, hp.get? b = some o → G'.get? b = some o := fun b o q => (gk b (Nat.ne_of_lt (Nat.lt_of_lt_of_le (Heap.lt_size q) M.new))).trans (M.keep b o q)
    have ob : ObjOk X.prog X.w (upd H1 d (.xd [(fld, v)])) G' d (.xd [(fld, v)]) :=
      ⟨_, hns.at (fun o q => (gk d M.dne).trans q), fun f => relO_fld rv fld f⟩
    have J : Inv X pins σ (upd H1 d (.xd [(fld, v)])) ⟨G', g, dr, tk', os⟩ := I1.laid (t' := tk') old M.dbig ob
    refine ⟨e, _, _, ⟨G', g, dr, tk', os⟩, _, .ref C, some d, rfl, J, fun b o q => ?_, ge, hoe, ⟨rfl, rfl⟩, rfl, rfl, ?_, rfl, I1.bare, raises_own T.exC T.tyC, q1 d (I1.hok.fresh M.dbig)⟩
    · by_cases hb : b = e
      · have q' : G'.get? b = some o := q
        rw [hb, ge] at q'; cases q'
      · exact (gk b hb).symm.trans q
    · rw [upd_ne (Ne.symm M.dne)]
      exact I1.hok.fresh M.new
/-- X(e), in hand -/
theorem pe_err {a : Expr} {ta : TA} {p pos : Pos} {k : Nat} (T : EI.ErrTxt X.prog X.K X.mg c fld C fI cc cda) (hr : Room k X.A) (ha : PA X [a] ta) (hg : Gl X c) (hdb : (c == ("__debug__" : Str)) = false)
    (he : starEach (a :: []) X.env = (false, eval a X.env) :: starEach [] X.env) (hpl : (backTo pos (starEach [] X.env)).any (·.1) = false) :
    PE X (.Call (.Name c p) [a] [] pos) (fun σ H Q => ta σ H fun vs H1 => ∃ v, vs = [v] ∧ ∀ d e, H1 d = none → H1 e = none → d ≠ e → Q (.ref e) (upd (upd H1 d (.xd [(fld, v)])) e (exo e C (some d)))) := by
  refine ⟨fun pins s σ H Q I h => ?_⟩
  refine wpAny_Call_Name_kw (ld_glob I hg T.gC ?_ hdb)
  refine PySem.W.callWith_K (h₀ := X.base) I.ok.mod.kin T.kC (thn (ha.run pos pins s σ H _ I h) fun us s1 hh => ?_) he hpl
  obtain ⟨vs, H1, I1, r1, v, ev, q1⟩ := hh
  subst ev
  refine ⟨I1.kIn, ?_⟩
  cases r1 with
  | cons rv rn =>
    rename_i v' us'
    cases rn
    show wpAny _ _ (call (.ref C) [v']) _ _ _
    have hlim := I1.nolimit
    have hG := Inv.glob_of I1
    have hB := Inv.blt_of I1
    obtain ⟨hp, g, dr, tk, os⟩ := s1
    refine wpAny_call (EI.run_made T I1.kIn hG hB hlim (by have := hr.dp; omega) fun h' tk' e d M => ?_)
    obtain ⟨t1, hoe⟩ := M.obj
    have hns := M.ns
    obtain ⟨G', g1, g2⟩ := restrict h' fun b => decide (b ≠ e)
    have gk : ∀ b, b ≠ e → G'.get? b = h'.get? b := fun b hb => g1 b (decide_eq_true hb)
    have ge : G'.get? e = none := g2 e (by simp)
    have old : ∀ b o, hp.get? b = some o → G'.get? b = some o := fun b o q => (gk b (Nat.ne_of_lt (Nat.lt_of_lt_of_le (Heap.lt_size q) M.new))).trans (M.keep b o q)
    have ob : ObjOk X.prog X.w (upd H1 d (.xd [(fld, v)])) G' d (.xd [(fld, v)]) :=
      ⟨_, hns.at (fun o q => (gk d M.dne).trans q), fun f => relO_fld rv fld f⟩
    have J : Inv X pins σ (upd H1 d (.xd [(fld, v)])) ⟨G', g, dr, tk', os⟩ := I1.laid (t' := tk') old M.dbig ob
    have nd : H1 d = none := I1.hok.fresh M.dbig
    have ne : H1 e = none := I1.hok.fresh M.new
    have nee : upd H1 d (.xd [(fld, v)]) e = none := by rw [upd_ne (Ne.symm M.dne)]; exact ne
    have J2 := J.laidN (t' := tk') (a := e) (o := exo e C (some d)) (h' := h') (fun b o q => by
      by_cases hb : b = e
      · have q' : G'.get? b = some o := q
        rw [hb, ge] at q'; cases q'
      · exact (gk b hb).symm.trans q) ge nee (exo_ok hoe)
    exact ⟨.ref e, _, J2, rfl, q1 d e nd ne M.dne⟩
end
end Mn

set_option Elab.async false
set_option linter.all false
set_option maxRecDepth 100000
set_option maxHeartbeats 1000000
/-! Mini 13: raise, try, fields of errors, isinstance. -/
namespace Mn
open PySem PySem.Spec PyProof.Rows L2

section
variable {X : Cx} {k : Nat} {C fI cc cda : Addr} {c : Str}
/-! ### raise X(e) -/
def sRaise (c : Str) (m : LMn) : SMn := fun l T => (m l T).sb l fun ds T1 => match ds with
  | [d] => .exc c d l T1
  | _ => .stuck
theorem ss_raise {a : Expr} {m : LMn} {p pos pos2 : Pos} (hc : X.calm = true) (T : EI.ErrTxt X.prog X.K X.mg c (fldOf c) C fI cc cda) (hr : Room k X.A) (hm : SA X [a] m) (hg : Gl X c) (hdb : (c == ("__debug__" : Str)) = false)
    (he : starEach (a :: []) X.env = (false, eval a X.env) :: starEach [] X.env) (hpl : (backTo pos (starEach [] X.env)).any (·.1) = false) : SS X (.Raise (some (.Call (.Name c p) [a] [] pos)) none pos2) (sRaise c m) := fun W tk =>
  PS.imp (ps_raise hc tk (pmk_err T hr (hm W tk) hg hdb he hpl)) fun D σ H ⟨ι, TT, l, hS, hH, q⟩ => rdS_e hS hH q fun ds T1 vs H1 ι1 e1 p1 hS1 h1 r1 q1 => by
    match ds, r1, q1 with
    | [], _, q1 => exact q1.elim
    | _ :: _ :: _, _, q1 => exact q1.elim
    | [d], r1, q1 =>
      obtain ⟨v, rfl, r⟩ := Rs.inv1 r1
      exact ⟨v, rfl, fun dd nd => q1 (.ref C) (some dd) σ _ ι1 (Ext.new nd) (Pre.side nd) (h1.side nd) ⟨C, dd, v, rfl, T.gC, rfl, upd_same, r.ext (Ext.new nd) (Pre.side nd)⟩ (hS1.ext (Ext.new nd) (Pre.side nd))⟩
/-- X(e), in hand -/
def mErr (C : Addr) (f : Str) (m : LMn) : EMn := fun l T => (m l T).bind fun ds T1 => match ds with
  | [d] => .ok (.exn C f d) T1
  | _ => .stuck
theorem se_err {a : Expr} {m : LMn} {f : Str} {p pos : Pos} (T : EI.ErrTxt X.prog X.K X.mg c f C fI cc cda) (hr : Room k X.A) (hm : SA X [a] m) (hg : Gl X c) (hdb : (c == ("__debug__" : Str)) = false)
    (he : starEach (a :: []) X.env = (false, eval a X.env) :: starEach [] X.env) (hpl : (backTo pos (starEach [] X.env)).any (·.1) = false) : SE X (.Call (.Name c p) [a] [] pos) (mErr C f m) := fun W tk =>
  PE.imp (pe_err T hr (hm W tk) hg hdb he hpl) fun σ H Q ⟨ι, TT, l, hS, hH, q⟩ => rd_bind hS hH q fun ds T1 vs H1 ι1 e1 p1 hS1 h1 r1 q1 => by
    match ds, r1, q1 with
    | [], _, q1 => exact q1.elim
    | _ :: _ :: _, _, q1 => exact q1.elim
    | [d], r1, q1 =>
      obtain ⟨v, rfl, r⟩ := Rs.inv1 r1
      refine ⟨v, rfl, fun dd e nd ne hde => ?_⟩
      have ne' : upd H1 dd (.xd [(f, v)]) e = none := by rw [upd_ne (Ne.symm hde)]; exact ne
      have E := (Ext.new (o := .xd [(f, v)]) nd).trans (Ext.new (o := exo e C (some dd)) ne')
      have P : Pre H1 ι1 (upd (upd H1 dd (.xd [(f, v)])) e (exo e C (some dd))) ι1 := (Pre.side nd).trans (Pre.side ne')
      refine q1 (.ref e) _ ι1 E P ((h1.side nd).side ne') (.exn (dx := dd) (v := v) upd_same ?_ (r.ext E P))
      rw [upd_ne hde]; exact upd_same

/-! ### try: body, except x as n: suite -/
open Classical in
noncomputable def uni (f : Addr → Addr → SR) : SR := if ∀ a d, f a d = f 0 0 then f 0 0 else .stuck
theorem uni_const {f : Addr → Addr → SR} {r : SR} (h : ∀ a d, f a d = r) : uni f = r := by
  unfold uni
  rw [if_pos fun a d => (h a d).trans (h 0 0).symm]
  exact h 0 0
theorem uni_at {f : Addr → Addr → SR} (h : uni f ≠ .stuck) (a d : Addr) : uni f = f a d := by
  unfold uni at h ⊢
  split
  · rename_i hh
    exact (hh a d).symm
  · rename_i hh
    rw [if_neg hh] at h
    exact absurd rfl h
/-- the slot i is emptied; nothing else may leave a suite -/
def SR.clr (i : Nat) : SR → SR
  | .nx l T => .nx (l.set i none) T
  | .bk l T => .bk (l.set i none) T
  | .ct l T => .ct (l.set i none) T
  | .rt d T => .rt d T
  | _ => .stuck
noncomputable def sTry (i : Nat) (hm : Str → Option (Bool × Addr)) (body : SMn) (su : Addr → Addr → Addr → SMn) : SMn := fun l T => match body l T with
  | .exc c d l1 T1 => match hm c with
    | some (true, C) => uni fun a dd => (su a C dd (l1.set i (some (.cex a C dd (fldOf c) d))) T1).clr i
    | some (false, _) => .exc c d l1 T1
    | none => .stuck
  | r => r
theorem post_clr {K : PySem.W.Frag} {mg : Str → Option Value} {W : WX} {D : Ends} {H : Hp} {ι : List Addr} {i : Nat} {r : SR} (h : PostS K mg W D H ι (r.clr i)) :
    PostS K mg wNo { nx := fun σ' H' => D.nx (σ'.set i none) H', rt := D.rt, bk := fun σ' H' => D.bk (σ'.set i none) H', ct := fun σ' H' => D.ct (σ'.set i none) H' } H ι r := by
  cases r with
  | nx l T => exact fun σ' H' ι' e p h' s => h _ H' ι' e p h' (s.drop i)
  | bk l T => exact fun σ' H' ι' e p h' s => h _ H' ι' e p h' (s.drop i)
  | ct l T => exact fun σ' H' ι' e p h' s => h _ H' ι' e p h' (s.drop i)
  | rt d T => exact h
  | exc c d l T => exact h.elim
  | stuck => exact h.elim
theorem ss_try {x n : Str} {cH : Value} {i : Nat} {hm : Str → Option (Bool × Addr)} {body suite : List Stmt} {b₀ : Stmt} {np pos pos' : Pos} {mb : SMn} {su : Addr → Addr → Addr → SMn}
    (hs : X.stack = X.env :: X.outer) (hf : X.env.frame = some X.env.locals) (hN : X.N.Nodup) (hi : X.N[i]? = some n) (hln : X.env.kindOf n = some .local) (hc : Names X x cH)
    (hmt : ∀ c b C, hm c = some (b, C) → X.mg c = some (.ref C) ∧ PySem.W.exmOne X.K (.ref C) cH = some b)
    (hb : ∀ (pn : List (Addr × Obj)) (xe : Value → Shared → Prop), SSs (X.tr pn xe) body mb)
    (hsu : ∀ (a : Addr) (oe : Obj) (C dd : Addr) (pn : List (Addr × Obj)), Zc (.ref C) (some dd) oe → (∃ vs, oe.data = .fields vs) → SSs (X.suite a ((a, oe) :: pn)) (b₀ :: suite) (su a C dd)) :
    SS X (.Try body [.ExceptHandler (some (.Name x np)) (some n) (b₀ :: suite) pos'] [] [] pos) (sTry i hm mb su) := fun W tk =>
  PS.imp (ps_try_as (tb := fun W => rdS mb X.K X.mg W) (ts := fun a cls d D σ H => ∃ C dd, cls = .ref C ∧ d = some dd ∧ rdS (su a C dd) X.K X.mg wNo D σ H) hs hf hN hi hln hc tk (fun W pn xe tk _ => hb pn xe W tk)
    (fun a oe cls d pn hz hf => ⟨fun pins s σ H D I ⟨C, dd, e1, e2, q⟩ => by
      subst e1 e2
      exact (hsu a oe C dd pn hz hf wNo takes_none5).run pins s σ H D I q⟩)) fun D σ H ⟨ι, T, l, hS, hH, q⟩ => by
    refine ⟨ι, T, l, hS, hH, ?_⟩
    unfold sTry at q
    cases hr : mb l T with
    | exc c d l1 T1 =>
      rw [hr] at q
      dsimp only at q
      intro cls dx σ' H' ι' e p h' xr s'
      obtain ⟨C', dd, v, rfl, gC, rfl, hd, rv⟩ := xr
      cases hc : hm c with
      | none => rw [hc] at q; exact q.elim
      | some bc =>
        obtain ⟨b, C⟩ := bc
        rw [hc] at q
        obtain ⟨g2, ex⟩ := hmt c b C hc
        have eC : C' = C := by rw [gC] at g2; cases g2; rfl
        subst eC
        refine ⟨b, ex, fun hb a na => ?_, fun hb => ?_⟩
        · subst hb
          dsimp only at q
          refine ⟨C', dd, rfl, rfl, ι', T1, _, s'.set (.cex (a := a) (C := C') hd rv) i, h', ?_⟩
          rw [uni_at (fun z => by rw [z] at q; exact q) a dd] at q
          exact PostS.ext e p (post_clr q)
        · subst hb
          dsimp only at q
          exact q _ _ σ' H' ι' e p h' ⟨C', dd, v, rfl, gC, rfl, hd, rv⟩ s'
    | nx l1 T1 => rw [hr] at q; exact q
    | rt d T1 => rw [hr] at q; exact q
    | bk l1 T1 => rw [hr] at q; exact q
    | ct l1 T1 => rw [hr] at q; exact q
    | stuck => rw [hr] at q; exact q
end
end Mn

set_option Elab.async false
set_option linter.all false
set_option maxRecDepth 100000
set_option maxHeartbeats 1000000
/-! Mini 14: fields of errors, isinstance, classes as values. -/
namespace Mn
open PySem PySem.Spec PyProof.Rows L2

section
variable {X : Cx}
/-! ### e.f -/
def mXf (a C dd C₀ : Addr) (f : Str) (m : EMn) : EMn := fun l T => (m l T).bind fun d T1 => match d with
  | .cex a' C' dd' f' d' => if a' = a ∧ C' = C ∧ dd' = dd ∧ f' = f ∧ C = C₀ then .ok d' T1 else .stuck
  | _ => .stuck
/-- .. where C is one class that is known -/
theorem se_xf {a C C₀ dd : Addr} {oe : Obj} {pn : List (Addr × Obj)} {e : Expr} {m : EMn} {pos : Pos} {f : Str} (T : XfC X.K C₀) (hno : PySem.W.findIn X.K (.ref C₀) f = some none) (hz : Zc (.ref C) (some dd) oe) (hf : ∃ vs, oe.data = .fields vs)
    (he : SE (X.suite a ((a, oe) :: pn)) e m) (hb : attributeBase e f X.env (eval e X.env) = eval e X.env) : SE (X.suite a ((a, oe) :: pn)) (.Attribute e f pos) (mXf a C dd C₀ f m) := fun W tk =>
  PE.imp (pe_xf (cls := .ref C) (d := some dd) T hno hz hf (he W tk) hb) fun σ H Q ⟨ι, TT, l, hS, hH, q⟩ =>
    rd_bind hS hH q fun d T1 v H1 ι1 e1 p1 hS1 h1 r1 q1 => by
      have r1 : R X.K H1 ι1 v d := r1
      cases r1 with
      | @cex a' C' dx f' v' d' hd rv =>
        dsimp only at q1
        by_cases hh : a' = a ∧ C' = C ∧ dx = dd ∧ f' = f ∧ C = C₀
        · rw [if_pos hh] at q1
          obtain ⟨rfl, rfl, rfl, rfl, rfl⟩ := hh
          exact ⟨rfl, rfl, dx, _, v', rfl, hd, by simp [List.lookup], post_ok h1 rv q1⟩
        · rw [if_neg hh] at q1; exact q1.elim
      | _ => exact q1.elim
/-- e.f of an error in hand -/
def mXat (f : Str) (tab : Addr → Bool) (m : EMn) : EMn := fun l T => (m l T).bind fun d T1 => match d with
  | .exn C f' d' => if f' = f ∧ tab C = true then .ok d' T1 else .stuck
  | _ => .stuck
theorem se_xat {e : Expr} {m : EMn} {pos : Pos} {f : Str} {tab : Addr → Bool} (T : ∀ C, tab C = true → XfC X.K C ∧ PySem.W.findIn X.K (.ref C) f = some none)
    (he : SE X e m) (hb : attributeBase e f X.env (eval e X.env) = eval e X.env) : SE X (.Attribute e f pos) (mXat f tab m) := fun W tk => by
  refine ⟨fun pins s σ H Q I ⟨ι, TT, l, hS, hH, q⟩ => ?_⟩
  refine attr_of hb (thn ((he W tk).run pins s σ H _ I (rd_bind (Q1 := fun v H1 => ∃ (a C dx : Addr) (u : V), v = .ref a ∧ tab C = true ∧ H1 a = some (exo a C (some dx)) ∧ H1 dx = some (.xd [(f, u)]) ∧ Q u H1) hS hH q fun d T1 v H1 ι1 e1 p1 hS1 h1 r1 q1 => ?_)) fun u s1 hh => ?_)
  · have r1 : R X.K H1 ι1 v d := r1
    cases r1 with
    | @exn a C dx f' v' d' ha hd rv =>
      dsimp only at q1
      by_cases hh : f' = f ∧ tab C = true
      · rw [if_pos hh] at q1
        obtain ⟨rfl, ht⟩ := hh
        exact ⟨a, C, dx, v', rfl, ht, ha, hd, post_ok h1 rv q1⟩
      · rw [if_neg hh] at q1; exact q1.elim
    | _ => exact q1.elim
  · obtain ⟨x, H1, I1, rx, a, C, dx, w, rfl, ht, ha, hd, q1⟩ := hh
    obtain rfl : u = Value.ref a := rx
    obtain ⟨T1, T2⟩ := T C ht
    obtain ⟨t1, hoa⟩ := exo_at I1.hok ha
    have hx : ObjOk X.prog X.w H1 s1.heap dx (.xd [(f, w)]) := I1.hok dx _ hd
    obtain ⟨mA, hns, hr⟩ := hx
    obtain ⟨od, ho, hl⟩ := lookIn_ns hns
    have lk : List.lookup f [(f, w)] = some w := by simp [List.lookup]
    obtain ⟨u, hu, ru⟩ := RelO.some_of (v := w) (o := mA f) (by rw [← lk]; exact hr f)
    have J : PySem.W.InstAt s1.heap a _ C (some od) := ⟨hoa, rfl, rfl, ho⟩
    exact HandSPX.exc_get I1.kIn J T1.ga T1.gg T1.exC (PySem.W.findObj_own T1.hdC T2 rfl (by rw [hl, hu])) (handed_of ru) ⟨w, H1, I1.tok _, ru, q1⟩

/-! ### classes as values -/
theorem se_ty {x : Str} {n : String} {pos : Pos} (hg : Gl X x) (hm : X.mg x = none) (hv : bootBuiltins x = some (.type n)) (hn : x ≠ "__name__") (hd : (x == ("__debug__" : Str)) = false) : SE X (.Name x pos) (mConst (.tyv n)) :=
  se_const (pe_bltn (v := .ty n) hg hm hv rfl hn hd) fun _ _ _ => .tyv n
theorem se_cls {x : Str} {C : Addr} {pos : Pos} (hg : Gl X x) (hm : X.mg x = some (.ref C)) (hd : (x == ("__debug__" : Str)) = false) : SE X (.Name x pos) (mConst (.cls C)) :=
  se_const (pe_glob (v := .ref C) hg hm rfl hd) fun _ _ _ => .cls C
inductive Ty where
  | b (n : String) | o (C : Addr)
def Ty.val : Ty → Value
  | .b n => .type n
  | .o C => .ref C
def tyOfD (d : D) (T : Hq) : Option Ty := match d with
  | .non => some (.b "NoneType")
  | .bl _ => some (.b "bool")
  | .int _ => some (.b "int")
  | .str _ => some (.b "str")
  | .tup _ => some (.b "tuple")
  | .rol _ => some (.b "list")
  | .obj n => match T[n]? with
    | some (.lst _) => some (.b "list")
    | some (.dct _) => some (.b "dict")
    | _ => none
  | .exn C _ _ => some (.o C)
  | _ => none
/-- what an error class must say, so that isinstance asks its instances rightly -/
structure ExI (K : PySem.W.Frag) (C : Addr) : Prop where
  c : ExcC K C
  hcl : (PySem.W.clsIn K C).isSome = true
theorem kit_exn {K : PySem.W.Frag} {C x : Addr} {ox : Obj} {od : Option Obj} (E : ExI K C) : PySem.W.KitX K (.ref x) (.ref C) (fun h => PySem.W.InstAt h x ox C od) := PySem.W.kitx_exc E.hcl E.c.hg E.c.hk E.c.hs E.c.ha E.c.hn E.c.ht E.c.hm
theorem kit_D {pins : List (Addr × Obj)} {σ : L2.St} {H : Hp} {s : Shared} {ι : List Addr} {T : Hq} {v : V} {u : Value} {d : D} {t : Ty} (I : Inv X pins σ H s) (h : HR X.K H ι T) (r : R X.K H ι v d) (rv : RelV v u) (e : tyOfD d T = some t) (hx : ∀ C, t = .o C → ExI X.K C) :
    ∃ P : Heap → Prop, PySem.W.KitX X.K u t.val P ∧ P s.heap ∧ u ≠ .builtin "__main__.__loader__#opaque" := by
  have base : ∀ {t' : Value}, TyX X.K H v t' → t' = t.val → ∃ P : Heap → Prop, PySem.W.KitX X.K u t.val P ∧ P s.heap ∧ u ≠ .builtin "__main__.__loader__#opaque" := fun ty et => et ▸ kit_of I rv ty
  cases r with
  | non => cases e; exact base (.base .non) rfl
  | bl b => cases e; exact base (.base (.bl b)) rfl
  | int i => cases e; exact base (.base (.int i)) rfl
  | str x _ => cases e; exact base (.base (.str x)) rfl
  | @tup a xs ds s r =>
    cases e
    rcases s with (s | ⟨o, s⟩) | ⟨o, its, n, e, hc, _⟩
    · exact base (.base (.tup s)) rfl
    · exact base (.fTuple s) rfl
    · exact base (.kTuple e hc) rfl
  | @rol a xs ds s r =>
    cases e
    rcases s with ⟨o, s⟩ | ⟨o, its, n, e, hc, _⟩
    · exact base (.base (.frz s)) rfl
    · exact base (.kList e hc) rfl
  | @obj a n ea =>
    obtain ⟨o, eo, ro⟩ := h.live ea
    unfold tyOfD at e
    dsimp only at e
    rw [eo] at e
    cases o with
    | lst ds => obtain ⟨xs, ex, _⟩ := ro; cases e; exact base (.base (.lst ex)) rfl
    | dct ds => obtain ⟨xs, ex, _⟩ := ro; cases e; exact base (.base (.dK ex)) rfl
    | ins c fs => cases e
  | @exn a C dx f v' d' ha hd rv' =>
    cases e
    obtain rfl : u = Value.ref a := rv
    obtain ⟨t1, hoa⟩ := exo_at I.hok ha
    have hx' : ObjOk X.prog X.w H s.heap dx (.xd [(f, v')]) := I.hok dx _ hd
    obtain ⟨mA, hns, hr⟩ := hx'
    obtain ⟨od, ho, hl⟩ := lookIn_ns hns
    exact ⟨_, kit_exn (od := some od) (hx C rfl), ⟨hoa, rfl, rfl, ho⟩, fun z => nomatch z⟩
  | cex _ _ => cases e
  | tyv _ => cases e
  | cls _ => cases e
/-- a table of what isinstance answers -/
structure IsT (K : PySem.W.Frag) (q : Ty → Ty → Option Bool) : Prop where
  ok : ∀ t c b, q t c = some b → PySem.W.kitOne K t.val c.val = some b
  ex : ∀ C c b, q (.o C) c = some b → ExI K C
def isiD (q : Ty → Ty → Option Bool) (ds : List D) (T : Hq) : Res D := match ds with
  | [d, .tyv n] => match (tyOfD d T).bind fun t => q t (.b n) with
    | some b => .ok (.bl b) T
    | none => .stuck
  | [d, .cls C] => match (tyOfD d T).bind fun t => q t (.o C) with
    | some b => .ok (.bl b) T
    | none => .stuck
  | _ => .stuck
theorem isi_core {q : Ty → Ty → Option Bool} (hq : IsT X.K q) {W : WX} {σ σ0 : L2.St} {pins : List (Addr × Obj)} {s : Shared} {H : Hp} {ι : List Addr} {T : Hq} {v : V} {u u2 : Value} {d : D} {c : Ty} {Q : VK} (I : Inv X pins σ0 H s) (hH : HR X.K H ι T) (r1 : R X.K H ι v d) (rv : RelV v u) (e2 : u2 = c.val)
    (q' : Post (Rr X.K) X.K X.mg W σ H ι Q (match (tyOfD d T).bind fun t => q t c with
    | some b => .ok (.bl b) T
    | none => .stuck)) : wpAny (model X.prog X.w) X.A (call (.builtin "isinstance") [u, u2]) (EP X pins σ0 Q) X.xe s := by
  cases ht : tyOfD d T with
  | none => rw [ht] at q'; exact q'.elim
  | some t =>
    rw [ht] at q'
    dsimp only [Option.bind_some] at q'
    cases hb : q t c with
    | none => rw [hb] at q'; exact q'.elim
    | some b =>
      rw [hb] at q'
      obtain ⟨P, Z, p, hx⟩ := kit_D I hH r1 rv ht (fun C z => by subst z; exact hq.ex C _ _ hb)
      subst e2
      exact PySem.W.kia_one Z I.kIn p (hq.ok _ _ _ hb) hx fun tk => ⟨.bl b, H, I.tok tk, rfl, post_ok hH (.bl _) q'⟩
theorem cd_isi {q : Ty → Ty → Option Bool} (hq : IsT X.K q) : CallD X (.builtin "isinstance") (isiD q) := by
  intro W σ pins s σ0 H xs us Q I rr ⟨ι, T, ds, hH, rs, q'⟩
  unfold isiD at q'
  split at q'
  · rename_i d n
    obtain ⟨v, w, rfl, r1, r2⟩ := rs.inv2
    cases r2
    obtain ⟨u1, u2, rfl, rv, rw'⟩ := vals2 rr
    exact isi_core (c := .b n) hq I hH r1 rv rw' q'
  · rename_i d C
    obtain ⟨v, w, rfl, r1, r2⟩ := rs.inv2
    cases r2
    obtain ⟨u1, u2, rfl, rv, rw'⟩ := vals2 rr
    exact isi_core (c := .o C) hq I hH r1 rv rw' q'
  · exact q'.elim
/-- .. of the error that a suite holds -/
def isiX (q : Ty → Ty → Option Bool) (a C dd : Addr) (ds : List D) (T : Hq) : Res D := match ds with
  | [.cex a' C' dd' f d, .tyv n] => if a' = a ∧ C' = C ∧ dd' = dd then match q (.o C) (.b n) with
    | some b => .ok (.bl b) T
    | none => .stuck
    else .stuck
  | [.cex a' C' dd' f d, .cls E] => if a' = a ∧ C' = C ∧ dd' = dd then match q (.o C) (.o E) with
    | some b => .ok (.bl b) T
    | none => .stuck
    else .stuck
  | _ => .stuck
theorem isiX_core {q : Ty → Ty → Option Bool} (hq : IsT X.K q) {a C dd : Addr} {oe : Obj} {pn : List (Addr × Obj)} (hz : Zc (.ref C) (some dd) oe) (hf : ∃ vs, oe.data = .fields vs) {W : WX} {σ σ0 : L2.St} {pins : List (Addr × Obj)} {s : Shared} {H : Hp} {ι : List Addr} {T : Hq} {u2 : Value} {c : Ty} {f : Str} {v' : V} {Q : VK} (I : Inv (X.suite a ((a, oe) :: pn)) pins σ0 H s) (hH : HR X.K H ι T)
    (hd : H dd = some (.xd [(f, v')])) (e2 : u2 = c.val) (q' : Post (Rr X.K) X.K X.mg W σ H ι Q (match q (.o C) c with
    | some b => .ok (.bl b) T
    | none => .stuck)) : wpAny (model X.prog X.w) (X.suite a ((a, oe) :: pn)).A (call (.builtin "isinstance") [.ref a, u2]) (EP (X.suite a ((a, oe) :: pn)) pins σ0 Q) (X.suite a ((a, oe) :: pn)).xe s := by
  cases hb : q (.o C) c with
  | none => rw [hb] at q'; exact q'.elim
  | some b =>
    rw [hb] at q'
    obtain ⟨ha, _⟩ := I.pin (a, oe) (List.mem_append_left _ List.mem_cons_self)
    obtain ⟨vs, hv⟩ := hf
    have hx' : ObjOk X.prog X.w H s.heap dd (.xd [(f, v')]) := I.hok dd _ hd
    obtain ⟨mA, hns, hr⟩ := hx'
    obtain ⟨od, ho, hl⟩ := lookIn_ns hns
    have J : PySem.W.InstAt s.heap a oe C (some od) := ⟨ha, hz.1, by unfold PySem.W.notCls; rw [hv] <;> rfl, by rw [hz.2]; exact ho⟩
    subst e2
    exact PySem.W.kia_one (kit_exn (hq.ex C _ _ hb)) I.kIn J (hq.ok _ _ _ hb) (fun z => nomatch z) fun tk => ⟨.bl b, H, I.tok tk, rfl, post_ok hH (.bl _) q'⟩
theorem cd_isiX {q : Ty → Ty → Option Bool} (hq : IsT X.K q) {a C dd : Addr} {oe : Obj} {pn : List (Addr × Obj)} (hz : Zc (.ref C) (some dd) oe) (hf : ∃ vs, oe.data = .fields vs) : CallD (X.suite a ((a, oe) :: pn)) (.builtin "isinstance") (isiX q a C dd) := by
  intro W σ pins s σ0 H xs us Q I rr ⟨ι, T, ds, hH, rs, q'⟩
  unfold isiX at q'
  split at q'
  · rename_i a' C' dd' f d n
    obtain ⟨v, w, rfl, r1, r2⟩ := rs.inv2
    cases r2
    cases r1 with
    | @cex a' C' dx f' v' d' hd rv' =>
    obtain ⟨u1, u2, rfl, rv, rw'⟩ := vals2 rr
    obtain rfl : u1 = Value.ref a' := rv
    by_cases hh : a' = a ∧ C' = C ∧ dd' = dd
    · rw [if_pos hh] at q'
      obtain ⟨rfl, rfl, rfl⟩ := hh
      exact isiX_core (c := .b n) hq hz hf I hH hd rw' q'
    · rw [if_neg hh] at q'; exact q'.elim
  · rename_i a' C' dd' f d E
    obtain ⟨v, w, rfl, r1, r2⟩ := rs.inv2
    cases r2
    cases r1 with
    | @cex a' C' dx f' v' d' hd rv' =>
    obtain ⟨u1, u2, rfl, rv, rw'⟩ := vals2 rr
    obtain rfl : u1 = Value.ref a' := rv
    by_cases hh : a' = a ∧ C' = C ∧ dd' = dd
    · rw [if_pos hh] at q'
      obtain ⟨rfl, rfl, rfl⟩ := hh
      exact isiX_core (c := .o E) hq hz hf I hH hd rw' q'
    · rw [if_neg hh] at q'; exact q'.elim
  · exact q'.elim
end
end Mn

set_option Elab.async false
set_option linter.all false
set_option maxRecDepth 100000
set_option maxHeartbeats 1000000
/-! Mini 15: stores into lists, dict displays, equality with dicts, constants of the module. -/
namespace Mn
open PySem PySem.Spec PyProof.Rows L2

section
variable {X : Cx}
/-! ### xs[i] = e -/
def setLD (o k e : D) (T : Hq) : Option Hq := match o, k with
  | .obj n, .int i => match T[n]? with
    | some (.lst ds) => (ixN ds.length i).map fun j => T.set n (.lst (ds.set j e))
    | _ => none
  | _, _ => none
theorem set_L : PSet X (rSet setLD X.K) := by
  intro pins s σ H o i v ov iv u Q I ro ri rv ⟨ι, T, d, k, e, hH, r1, r2, r3, T', eq, q⟩
  unfold setLD at eq
  split at eq
  · rename_i n i
    cases r1 with
    | @obj a _ ea =>
    cases r2
    obtain ⟨o, eo, ro'⟩ := hH.live ea
    rw [eo] at eq
    cases o with
    | lst ds =>
      obtain ⟨xs, ex, ra⟩ := ro'
      dsimp only at eq
      cases hj : ixN ds.length i with
      | none => rw [hj] at eq; cases eq
      | some j =>
        rw [hj] at eq
        cases eq
        refine set_list pins s σ H _ _ v ov iv u Q I ro ri rv ⟨a, xs, i, j, rfl, rfl, ex, by rw [ra.length]; exact hj, ?_⟩
        have E : Ext H (upd H a (.lst (xs.set j v))) := Ext.write ex rfl
        obtain ⟨h', _⟩ := hH.write (u := .lst (xs.set j v)) (o := .lst (ds.set j e)) ea ⟨_, upd_same, (Rs.set r3 j ra).mv E (fun _ _ z => z)⟩
        exact q _ ι E (Pre.write ea) h'
    | dct _ => cases eq
    | ins _ _ => cases eq
  · cases eq

/-! ### dicts -/
def putD (kvs : List (Key × D)) (k : Key) (v : D) : List (Key × D) :=
  if (kvs.any fun kv => decide (kv.1 = k)) = true then kvs.map (fun kv => if kv.1 = k then (kv.1, v) else kv) else kvs ++ [(k, v)]
def mergeD (kvs more : List (Key × D)) : List (Key × D) := more.foldl (fun acc kv => putD acc kv.1 kv.2) kvs
def valD (kvs : List (Key × D)) (k : Key) : Option D := (kvs.find? fun kv => decide (kv.1 = k)).map (·.2)
section
variable {K : PySem.W.Frag} {H : Hp} {ι : List Addr}
theorem Rk.any {k : Key} : ∀ {vs : List (Key × V)} {ds : List (Key × D)}, Rk K H ι vs ds → (vs.any fun kv => decide (kv.1 = k)) = (ds.any fun kv => decide (kv.1 = k))
  | _, _, .nil => rfl
  | _, _, .cons r t => by simp only [List.any_cons, Rk.any t]
theorem Rk.mapPut {k : Key} {v : V} {d : D} (r : R K H ι v d) : ∀ {vs : List (Key × V)} {ds : List (Key × D)}, Rk K H ι vs ds → Rk K H ι (vs.map (fun kv => if kv.1 = k then (kv.1, v) else kv)) (ds.map (fun kv => if kv.1 = k then (kv.1, d) else kv))
  | _, _, .nil => .nil
  | _, _, .cons (k := k') r' t => by
    simp only [List.map_cons]
    by_cases h : k' = k
    · rw [if_pos h, if_pos h]; exact .cons r (Rk.mapPut r t)
    · rw [if_neg h, if_neg h]; exact .cons r' (Rk.mapPut r t)
theorem Rk.app : ∀ {vs ws : List (Key × V)} {ds es : List (Key × D)}, Rk K H ι vs ds → Rk K H ι ws es → Rk K H ι (vs ++ ws) (ds ++ es)
  | _, _, _, _, .nil, h => h
  | _, _, _, _, .cons r t, h => .cons r (Rk.app t h)
theorem Rk.put {k : Key} {v : V} {d : D} (r : R K H ι v d) {vs : List (Key × V)} {ds : List (Key × D)} (h : Rk K H ι vs ds) : Rk K H ι (putK vs k v) (putD ds k d) := by
  unfold putK putD
  rw [h.any]
  split
  · exact h.mapPut r
  · exact h.app (.cons r .nil)
theorem Rk.merge : ∀ {ms : List (Key × V)} {es : List (Key × D)} {vs : List (Key × V)} {ds : List (Key × D)}, Rk K H ι ms es → Rk K H ι vs ds → Rk K H ι (mergeK vs ms) (mergeD ds es)
  | _, _, _, _, .nil, h => h
  | _, _, _, _, .cons (vs := vs') (ds := ds') r t, h => by
    unfold mergeK mergeD
    exact Rk.merge (ms := vs') (es := ds') t (h.put r)
theorem Rk.val {k : Key} : ∀ {vs : List (Key × V)} {ds : List (Key × D)}, Rk K H ι vs ds → (valV vs k = none ∧ valD ds k = none) ∨ ∃ v d, valV vs k = some v ∧ valD ds k = some d ∧ R K H ι v d
  | _, _, .nil => .inl ⟨rfl, rfl⟩
  | _, _, .cons (k := k') (v := v) (d := d) r t => by
    by_cases h : k' = k
    · exact .inr ⟨v, d, by simp [valV, h], by simp [valD, h], r⟩
    · have := Rk.val (k := k) t
      simpa [valV, valD, List.find?_cons, h] using this
theorem Rk.length : ∀ {vs : List (Key × V)} {ds : List (Key × D)}, Rk K H ι vs ds → vs.length = ds.length
  | _, _, .nil => rfl
  | _, _, .cons r t => by simp [Rk.length t]
theorem Rk.keys : ∀ {vs : List (Key × V)} {ds : List (Key × D)}, Rk K H ι vs ds → vs.map (·.1) = ds.map (·.1)
  | _, _, .nil => rfl
  | _, _, .cons r t => by simp [Rk.keys t]
end
def newD (kvs : List (Key × D)) (T : Hq) : Res D := .ok (.obj T.length) (T ++ [.dct kvs])
def mDict0 : EMn := fun _ T => newD [] T
theorem se_dict0 {pos : Pos} : SE X (.Dict [] [] pos) mDict0 := fun W tk => PE.imp pe_dnewK fun σ H Q ⟨ι, T, l, hS, hH, q⟩ => fun p np => by
  have E := Ext.new (o := .dK []) np
  refine q _ _ (ι ++ [p]) E (Pre.app np) (hH.new np ⟨[], upd_same, .nil⟩) (.obj ?_)
  rw [← hH.len]; simp
/-- the pairs of a display -/
def mPairs : List (EMn × EMn) → Lo → Hq → Res (List (D × D))
  | [], _, T => .ok [] T
  | (a, b) :: r, l, T => (a l T).bind fun x T1 => (b l T1).bind fun y T2 => (mPairs r l T2).bind fun ps T3 => .ok ((x, y) :: ps) T3
def keyD : D → Option Key
  | .int i => some (.inl i)
  | .str x => some (.inr x)
  | _ => none
def keysD : List (D × D) → Option (List (Key × D))
  | [] => some []
  | (k, d) :: r => match keyD k, keysD r with
    | some k, some r => some ((k, d) :: r)
    | _, _ => none
def mDict (ms : List (EMn × EMn)) : EMn := fun l T => (mPairs ms l T).bind fun ps T1 => match keysD ps with
  | some kvs => if kvs.length ≤ 15 then newD (mergeD [] kvs) T1 else .stuck
  | none => .stuck
inductive SPs (X : Cx) : List (Option Expr) → List Expr → List (EMn × EMn) → Prop
  | nil : SPs X [] [] []
  | cons {k v : Expr} {ks : List (Option Expr)} {vs : List Expr} {a b : EMn} {ms : List (EMn × EMn)} : SE X k a → SE X v b → SPs X ks vs ms → SPs X (some k :: ks) (v :: vs) ((a, b) :: ms)
def trs (K : PySem.W.Frag) (mg : Str → Option Value) (W : WX) (ms : List (EMn × EMn)) : List (TE × TE) := ms.map fun p => (rd (Rr K) p.1 K mg W, rd (Rr K) p.2 K mg W)
theorem SPs.pps {W : WX} (tk : Takes X W) {pos : Pos} : ∀ {ks : List (Option Expr)} {vs : List Expr} {ms : List (EMn × EMn)}, SPs X ks vs ms → PPs X pos ks vs (trs X.K X.mg W ms)
  | _, _, _, .nil => pps_nil
  | _, _, _, .cons a b r => pps_cons (a W tk) (b W tk) (SPs.pps tk r)
inductive Rp (K : PySem.W.Frag) (H : Hp) (ι : List Addr) : List (V × V) → List (D × D) → Prop
  | nil : Rp K H ι [] []
  | cons {k v : V} {c d : D} {vs : List (V × V)} {ds : List (D × D)} : R K H ι k c → R K H ι v d → Rp K H ι vs ds → Rp K H ι ((k, v) :: vs) ((c, d) :: ds)
/-- rd_bind, what is wanted told of an earlier heap -/
theorem rd_bind0 {α β γ δ : Type} {rel : Hp → List Addr → β → α → Prop} {rel' : Hp → List Addr → δ → γ → Prop} {K : PySem.W.Frag} {mg : Str → Option Value} {W : WX} {σ : L2.St} {H H0 : Hp} {ι ι0 : List Addr} {T : Hq} {l : Lo} {Q : δ → Hp → Prop} {Q1 : β → Hp → Prop}
    {a : Lo → Hq → Res α} {k : α → Hq → Res γ} (hS : RelS K H ι σ l) (hH : HR K H ι T) (e0 : Ext H0 H) (p0 : Pre H0 ι0 H ι) (h : Post rel' K mg W σ H0 ι0 Q ((a l T).bind k))
    (hQ : ∀ x T1 v H1 ι1, Ext H H1 → Pre H ι H1 ι1 → RelS K H1 ι1 σ l → HR K H1 ι1 T1 → rel H1 ι1 v x → Post rel' K mg W σ H0 ι0 Q (k x T1) → Q1 v H1) : rd rel a K mg W σ H Q1 := by
  refine ⟨ι, T, l, hS, hH, ?_⟩
  cases hr : a l T with
  | ok x T1 =>
    rw [hr] at h
    exact fun v H1 ι1 e p h1 r => hQ x T1 v H1 ι1 e p (hS.ext e p) h1 r h
  | exc c d T1 =>
    rw [hr] at h
    exact fun cls dx H' ι' e p => h cls dx H' ι' (e0.trans e) (p0.trans p)
  | stuck =>
    rw [hr] at h
    exact h.elim
theorem pairs_rd {γ δ : Type} {rel' : Hp → List Addr → δ → γ → Prop} {K : PySem.W.Frag} {mg : Str → Option Value} {W : WX} {σ : L2.St} {Q : δ → Hp → Prop} {l : Lo} {H0 : Hp} {ι0 : List Addr} : ∀ {ms : List (EMn × EMn)} {H : Hp} {ι : List Addr} {T : Hq} {Q1 : List (V × V) → Hp → Prop} {k : List (D × D) → Hq → Res γ}, RelS K H ι σ l → HR K H ι T → Ext H0 H → Pre H0 ι0 H ι → Post rel' K mg W σ H0 ι0 Q ((mPairs ms l T).bind k) →
    (∀ x T1 v H1 ι1, Ext H H1 → Pre H ι H1 ι1 → HR K H1 ι1 T1 → Rp K H1 ι1 v x → Post rel' K mg W σ H0 ι0 Q (k x T1) → Q1 v H1) → tPairs (trs K mg W ms) σ H Q1
  | [], H, ι, T, Q1, k, hS, hH, e0, p0, q, hQ => hQ [] T [] H ι (Ext.refl _) (Pre.refl _) hH .nil q
  | (a, b) :: ms, H, ι, T, Q1, k, hS, hH, e0, p0, q, hQ => by
    unfold mPairs at q
    simp only [Res.bind_assoc] at q
    refine rd_bind0 hS hH e0 p0 q fun x T1 v H1 ι1 e1 p1 hS1 h1 r1 q1 => rd_bind0 hS1 h1 (e0.trans e1) (p0.trans p1) q1 fun y T2 u H2 ι2 e2 p2 hS2 h2 r2 q2 => ?_
    refine pairs_rd hS2 h2 ((e0.trans e1).trans e2) ((p0.trans p1).trans p2) q2 fun ps T3 vs H3 ι3 e3 p3 h3 r3 q3 => ?_
    exact hQ _ T3 _ H3 ι3 ((e1.trans e2).trans e3) ((p1.trans p2).trans p3) h3 (.cons ((R.ext e2 p2 r1).ext e3 p3) (R.ext e3 p3 r2) r3) q3
theorem keys_rd {K : PySem.W.Frag} {H : Hp} {ι : List Addr} : ∀ {ps : List (D × D)} {kvs : List (Key × D)} {vs : List (V × V)}, keysD ps = some kvs → Rp K H ι vs ps → ∃ ks : List (Key × V), vs = ks.map (fun kv => (kV kv.1, kv.2)) ∧ Rk K H ι ks kvs
  | [], _, _, e, r => by cases e; cases r; exact ⟨[], rfl, .nil⟩
  | (c, d) :: ps, kvs, _, e, r => by
    cases r with
    | cons rk rv rr =>
      unfold keysD at e
      cases h1 : keyD c with
      | none => rw [h1] at e; cases e
      | some k =>
        cases h2 : keysD ps with
        | none => rw [h1, h2] at e; cases e
        | some r =>
          rw [h1, h2] at e
          cases e
          obtain ⟨ks, rfl, rk'⟩ := keys_rd h2 rr
          cases rk with
          | int i => cases h1; exact ⟨(.inl i, _) :: ks, rfl, .cons rv rk'⟩
          | str x _ => cases h1; exact ⟨(.inr x, _) :: ks, rfl, .cons rv rk'⟩
          | _ => cases h1
theorem Rp.length {K : PySem.W.Frag} {H : Hp} {ι : List Addr} : ∀ {vs : List (V × V)} {ds : List (D × D)}, Rp K H ι vs ds → vs.length = ds.length
  | _, _, .nil => rfl
  | _, _, .cons _ _ t => by simp [Rp.length t]
theorem se_dict {keys : List (Option Expr)} {values : List Expr} {ms : List (EMn × EMn)} {pos : Pos} (h : SPs X keys values ms) (hall : keys.all (·.isSome) = true) (hl : keys.length = values.length) (h0 : keys ≠ []) (h15 : ms.length ≤ 15) (hms : keys.length = ms.length) : SE X (.Dict keys values pos) (mDict ms) := fun W tk =>
  PE.imp (pe_disp (h.pps tk) hall hl h0 (by omega)) fun σ H Q ⟨ι, T, l, hS, hH, q⟩ => fun p np => by
    have eD := Ext.new (o := .dK []) np
    have pD : Pre H ι (upd H p (.dK [])) ι := Pre.side np
    have nin : p ∉ ι := hH.nin np
    unfold mDict at q
    refine pairs_rd (hS.ext eD pD) (hH.side np) eD pD q fun ps T1 vs H1 ι1 e1 p1 h1 r1 q1 => ?_
    obtain ⟨hp, nin1⟩ := p1.keep upd_same nin (fun _ z => by cases z)
    refine ⟨hp, ?_⟩
    cases hk : keysD ps with
    | none => rw [hk] at q1; exact q1.elim
    | some kvs =>
      rw [hk] at q1
      obtain ⟨ks, rfl, rk⟩ := keys_rd hk r1
      dsimp only at q1
      by_cases hlen : kvs.length ≤ 15
      case neg => rw [if_neg hlen] at q1; exact q1.elim
      rw [if_pos hlen] at q1
      refine ⟨ks, rfl, by rw [rk.length]; exact hlen, ?_⟩
      have E : Ext H1 (upd H1 p (.dK (mergeK [] ks))) := Ext.write hp rfl
      have nw : ∀ (n : Nat) (a : Addr), ι1[n]? = some a → upd H1 p (.dK (mergeK [] ks)) a = H1 a := fun n a ea => upd_ne fun z => nin1 (by rw [← z]; exact List.mem_of_getElem? ea)
      have rm := (Rk.merge rk (.nil : Rk X.K H1 ι1 [] []))
      refine q1 _ _ (ι1 ++ [p]) ((eD.trans e1).trans E) ⟨fun n a z => Pr.app _ _ n a ((pD.trans p1).at_ n a z), fun a o e n => ?_⟩ ((h1.mono E nw).adopt nin1 ⟨mergeK [] ks, upd_same, rm.mv E (Pr.app _ _)⟩) (.obj (by rw [← h1.len]; simp))
      obtain ⟨n1, o', e', k⟩ := (pD.trans p1).kp a o e n
      have ap : a ≠ p := ne_of_none e np
      exact ⟨fun z => (List.mem_append.mp z).elim n1 fun z => ap (by simpa using z), o', by rw [upd_ne ap]; exact e', k⟩
/-! ### equality, dicts that are the same among them -/
def flatD (d : D) : Bool := match d with
  | .non => true | .bl _ => true | .int _ => true | .str _ => true | .tup _ => true | .rol _ => true | .obj _ => true | .exn _ _ _ => true
  | _ => false
def eqSame (d e : D) (T : Hq) : Bool := match d, e with
  | .obj n, .obj m => n == m && (match T[n]? with
    | some (.dct kvs) => decide ((kvs.map (·.1)).Nodup) && kvs.all fun kv => flatD kv.2
    | _ => false)
  | _, _ => false
def eqD2 (d e : D) (T : Hq) : Res D := if eqSame d e T = true then .ok (.bl true) T else eqD d e T
theorem same_V {K : PySem.W.Frag} {H : Hp} {ι : List Addr} {v : V} {d : D} (r : R K H ι v d) (f : flatD d = true) (n : Nat) : EqV K H (n + 1) v v := by
  cases r with
  | non => exact .inl ⟨rfl, rfl⟩
  | bl b => exact .inl ⟨rfl, rfl⟩
  | int b => exact .inl ⟨rfl, rfl⟩
  | str b _ => exact .inl ⟨rfl, rfl⟩
  | tup _ _ => exact .inr (.inl ⟨_, rfl, rfl⟩)
  | rol _ _ => exact .inr (.inl ⟨_, rfl, rfl⟩)
  | obj _ => exact .inr (.inl ⟨_, rfl, rfl⟩)
  | exn _ _ _ => exact .inr (.inl ⟨_, rfl, rfl⟩)
  | cex _ _ => cases f
  | tyv _ => cases f
  | cls _ => cases f
theorem Rk.same {K : PySem.W.Frag} {H : Hp} {ι : List Addr} : ∀ {vs : List (Key × V)} {ds : List (Key × D)}, Rk K H ι vs ds → (vs.map (·.1)).Nodup → (ds.all fun kv => flatD kv.2) = true → ∀ p ∈ vs, ∃ u, valV vs p.1 = some u ∧ EqV K H 1 p.2 u
  | _, _, .nil, _, _, p, hp => by simp at hp
  | _, _, .cons (k := k) (v := v) (vs := vs) r t, hn, hf, p, hp => by
    simp only [List.map_cons, List.nodup_cons] at hn
    simp only [List.all_cons, Bool.and_eq_true] at hf
    rcases List.mem_cons.mp hp with rfl | hp
    · exact ⟨v, by simp [valV], same_V r hf.1 0⟩
    · obtain ⟨u, h1, h2⟩ := Rk.same t hn.2 hf.2 p hp
      refine ⟨u, ?_, h2⟩
      have : k ≠ p.1 := fun z => hn.1 (by rw [z]; exact List.mem_map_of_mem hp)
      rw [valV_neg this]
      exact h1
theorem o2_eq2 (hu : X.A.units + 64 < cLine) : Op2 X (compareOp .Eq) eqD2 := by
  intro W σ pins s σ0 H x y v u Q I rx ry ⟨ι, T, d, e, hH, r1, r2', q⟩
  unfold eqD2 at q
  by_cases hs : eqSame d e T = true
  case neg =>
    rw [if_neg hs] at q
    exact o2_eq hu W σ pins s σ0 H x y v u Q I rx ry ⟨ι, T, d, e, hH, r1, r2', q⟩
  rw [if_pos hs] at q
  unfold eqSame at hs
  split at hs
  · rename_i n m
    simp only [Bool.and_eq_true, beq_iff_eq] at hs
    obtain ⟨rfl, hs⟩ := hs
    cases r1 with
    | @obj a _ ea =>
    cases r2' with
    | @obj b _ eb =>
    have ab : b = a := by rw [ea] at eb; exact (Option.some.inj eb).symm
    subst ab
    obtain ⟨o, eo, ro⟩ := hH.live ea
    rw [eo] at hs
    cases o with
    | dct kvs =>
      obtain ⟨ks, ex, rk⟩ := ro
      simp only [Bool.and_eq_true, decide_eq_true_eq] at hs
      exact op_eqV hu pins s σ0 H _ _ v u Q I rx ry ⟨1, by omega, .inr ⟨b, b, ks, ks, rfl, rfl, ex, ex, rfl, Rk.same rk (by rw [rk.keys]; exact hs.1) hs.2⟩, post_ok hH (.bl true) q⟩
    | lst _ => cases hs
    | ins _ _ => cases hs
  · cases hs
/-! ### constants of the module -/
theorem se_gint {x : Str} {i : Int} {t : Tok} {pos : Pos} (hg : Gl X x) (hm : X.mg x = some (.int i t)) (hd : (x == ("__debug__" : Str)) = false) : SE X (.Name x pos) (mConst (.int i)) := se_const (pe_glob (v := .int i) hg hm ⟨t, rfl⟩ hd) fun _ _ _ => .int i
theorem se_gstr {x y : Str} {t : Tok} {pos : Pos} (hg : Gl X x) (hm : X.mg x = some (.str y t)) (hy : PyData.strOk y = true) (hd : (x == ("__debug__" : Str)) = false) : SE X (.Name x pos) (mConst (.str y)) := se_const (pe_glob (v := .str y) hg hm ⟨t, rfl⟩ hd) fun _ _ _ => .str y hy
end
end Mn

set_option Elab.async false
set_option linter.all false
set_option maxRecDepth 100000
set_option maxHeartbeats 4000000
/-! Mini 16: own errors made by name. -/
namespace Mn.EI
open PySem PySem.W PySem.Calls PyProof.Rows PySem.HandSPX
section
variable {M : Model} {A : Around} {E : Value → Shared → Prop} {h : Heap} {g : Array GenState} {d : Drawn} {t : Nat} {os : OsState}
variable {nm q : Str} {C N : Addr} {bs bm bmB : List Value} {hdct : Bool} {sn : List Str} {sub : List Value} {ab : Bool} {col : Option Bool} {dd : Option Addr} {k0 k1 k2 k3 k5 : Option Value} {B newId initId : String}
theorem check_new_kw (F : ExcBaseFacts B newId initId bmB) (hT : ∀ X : String, bm.contains (.type X) = bmB.contains (.type X)) {rest : List Value} {kw : List (Str × Value)} {Q : Unit → Shared → Prop}
    (hC : h.get? C = some (excClassObj nm q C N bs bm hdct sn sub ab col dd k0 k1 k2 k3 k5 newId)) (hq : Q () ⟨h, g, d, t, os⟩) : wpAny M A (checkBuiltinCall newId ⟨.ref C :: rest, kw⟩) Q E ⟨h, g, d, t, os⟩ := by
  have hc1 : (Value.ref C :: bm).contains (.type B) = true := by rw [List.contains_cons, hT, F.hasB, Bool.or_true]
  have hs1 := F.noStar
  simp only [checkBuiltinCall, F.newKind, F.newSplit, F.newRow]
  repeat (first | refine wpAny_loadPart_at hC ?_ | (refine wpAny_isSubtype_exc hC ?_; rw [hc1]) | refine wpAny_staticBase_exc hC ?_ | refine wpAny_madeBy_exc hC ?_ | simp only [bne_self_eq_false, Bool.false_eq_true, if_false] | wp_step)
  exact hq
end
section
variable {prog : Program} {w : World} {A : Around} {E : Value → Shared → Prop} {R : Result → Shared → Prop} {h : Heap} {g : Array GenState} {d : Drawn} {t : Nat} {os : OsState}
variable {nm q : Str} {C N : Addr} {bs bm bmB : List Value} {hdct : Bool} {sn : List Str} {sub : List Value} {ab : Bool} {col : Option Bool} {dd : Option Addr} {k0 k1 k2 k3 k5 : Option Value} {B newId initId : String}
theorem new_kw (F : ExcBaseFacts B newId initId bmB) (hT : ∀ X : String, bm.contains (.type X) = bmB.contains (.type X)) {rest : List Value} {kw : List (Str × Value)}
    (hC : h.get? C = some (excClassObj nm q C N bs bm hdct sn sub ab col dd k0 k1 k2 k3 k5 newId))
    (hq : R (.ok (.ret (.ref (h.objs.size + 1)))) ⟨(h.push { cls := .type "tuple", data := .seq rest.toArray }).push
      { cls := .ref C, data := .fields #[.ref h.objs.size, .none, .none, .none, .bool false, .none] }, g, d, t, os⟩) (hrest : rest.length ≤ sizeLine) :
    codeAny (model prog w) A (.builtin newId ⟨.ref C :: rest, kw⟩) R ⟨h, g, d, t, os⟩ := by
  have hends := F.ends
  have c1 : (Value.ref C :: bm).contains (.type B) = true := by rw [List.contains_cons, hT, F.hasB, Bool.or_true]
  have c2 : (Value.ref C :: bm).contains (.type "AttributeError") = false := by rw [List.contains_cons, hT, F.noAttr]; rfl
  have c3 : (Value.ref C :: bm).contains (.type "NameError") = false := by rw [List.contains_cons, hT, F.noName]; rfl
  refine codeAny_builtinAt F.entry ?_
  unfold Builtin.«BaseException.__new__»
  refine _root_.PySem.wpAt_bind ?_
  show _root_.PySem.wpAt _ _ _ (stack >>= _) _ _ _
  refine _root_.PySem.wpAt_bind (_root_.PySem.wpAt_stack fun p below => _root_.PySem.wpAt_of_wpAny ?_)
  wp_walk
  refine _root_.PySem.wpAt_of_wpAny ?_
  rw [F.owner]
  repeat (first | with_reducible refine wpAny_madeHere_exc F.canon hC ?_ | with_reducible refine wpAny_loadPart_at hC ?_ | (with_reducible refine wpAny_isSubtype_exc hC ?_; first | rw [c1] | rw [c2] | rw [c3]) | wp_step)
  show R _ _
  rw [Heap.size_push]
  exact hq
theorem type_call_kw (F : ExcBaseFacts B newId initId bmB) (hT : ∀ X : String, bm.contains (.type X) = bmB.contains (.type X)) {rest : List Value} {kw : List (Str × Value)} {fI : Addr} {Q : Fin → Shared → Prop}
    (hC : h.get? C = some (excClassObj nm q C N bs bm hdct sn sub ab col dd k0 k1 k2 k3 k5 newId))
    (hi : W.Looks (model prog w) h (typeLookup (.ref C) "__init__") (some (.ref fI))) (hb : ∀ self, W.Looks (model prog w) h (bindSpecial (.ref fI) self) (.ref fI, [self])) (hrest : rest.length ≤ sizeLine)
    (hq : codeAny (model prog w) A (.call (.ref fI) ⟨.ref (h.objs.size + 1) :: rest, kw⟩)
      (fun r s' => match r with | .ok (.ret v) => v = .none ∧ Q (.done (.ret (.ref (h.objs.size + 1)))) s' | .ok _ => False | .error e => E e s')
      ⟨(h.push (W.kdv_tup rest)).push (excO C h.objs.size), g, d, t, os⟩) :
    wpAny (model prog w) A (Builtin.«type.__call__» ⟨.ref C :: rest, kw⟩) Q E ⟨h, g, d, t, os⟩ := by
  repeat (first | with_reducible refine wpAny_loadPart_at hC ?_ | with_reducible refine wpAny_madeBy_exc hC ?_ | wp_step)
  refine codeAny_call_builtin_code (Code.quiet_builtin _ F.quiet) (check_new_kw F hT hC ?_)
  refine new_kw F hT hC ?_ hrest
  show wpAny _ _ _ _ _ _
  have k : ∀ b o, h.get? b = some o → ((h.push (W.kdv_tup rest)).push (excO C h.objs.size)).get? b = some o := fun b o e => Heap.get?_push_of_some _ (Heap.get?_push_of_some _ e)
  have hC₁ := k _ _ hC
  have hg : ((h.push (W.kdv_tup rest)).push (excO C h.objs.size)).get? (h.objs.size + 1) = some (excO C h.objs.size) := by heap_get
  have hcC : (Value.ref C :: bm).contains (.ref C) = true := by simp
  have i1 := hi.keeps k
  have b1 := (hb (.ref (h.objs.size + 1))).keeps k
  unfold isInstance
  repeat (first | with_reducible refine wpAny_loadPart_at hg ?_ | (with_reducible refine wpAny_isSubtype_exc hC₁ ?_; rw [hcC]) | wp_step)
  show wpAny _ _ (typeLookup (.ref C) _) _ _ _
  refine i1.at ?_
  refine wpAny_holding (wpAny_bind (b1.at ?_))
  refine wpAny_bind (wpAny_call (codeAny_mono hq fun r s' z => ?_))
  rcases r with e | (v | _ | _ | _) <;> first | exact z | exact z.elim | skip
  obtain ⟨rfl, z⟩ := z
  first
    | exact wpAny_pure (wpAny_pure z)
    | (wp_walk; exact z)
theorem check_tc_kw {M : Model} {rest : List Value} {kw : List (Str × Value)} {Q : Unit → Shared → Prop} (hC : h.get? C = some (excClassObj nm q C N bs bm hdct sn sub ab col dd k0 k1 k2 k3 k5 newId))
    (hq : Q () ⟨h, g, d, t, os⟩) : wpAny M A (checkBuiltinCall "type.__call__" ⟨.ref C :: rest, kw⟩) Q E ⟨h, g, d, t, os⟩ := by
  have f3 := tc_sub
  have hT : (⟨h, g, d, t, os⟩ : Shared).TypeIs (.ref C) "type" := ⟨_, hC, rfl⟩
  simp only [checkBuiltinCall, tc_kind, tc_split]
  repeat (any_goals (first | assumption | with_reducible refine wpAny_loadPart_at hC ?_ | with_reducible refine wpAny_onRaise ?_ | with_reducible refine wpAny_map ?_ | wp_step))
theorem call_kw (F : ExcBaseFacts B newId initId bmB) (hT : ∀ X : String, bm.contains (.type X) = bmB.contains (.type X)) {rest : List Value} {kw : List (Str × Value)} {fI : Addr}
    (hC : h.get? C = some (excClassObj nm q C N bs bm hdct sn sub ab col dd k0 k1 k2 k3 k5 newId))
    (hi : W.Looks (model prog w) h (typeLookup (.ref C) "__init__") (some (.ref fI))) (hb : ∀ self, W.Looks (model prog w) h (bindSpecial (.ref fI) self) (.ref fI, [self])) (hrest : rest.length ≤ sizeLine)
    (hq : codeAny (model prog w) (A.under (.builtin "type.__call__" ⟨.ref C :: rest, kw⟩)) (.call (.ref fI) ⟨.ref (h.objs.size + 1) :: rest, kw⟩) (W.InitBack (h.objs.size + 1) R)
      ⟨(h.push (W.kdv_tup rest)).push (excO C h.objs.size), g, d, t, os⟩) :
    codeAny (model prog w) A (.call (.ref C) ⟨rest, kw⟩) R ⟨h, g, d, t, os⟩ := by
  have f1 := tc_lookup
  have f2 := tc_bind (.ref C)
  have hTy : (⟨h, g, d, t, os⟩ : Shared).TypeIs (.ref C) "type" := ⟨_, hC, rfl⟩
  refine codeAny_of_tree ?_
  show wpAny _ _ (callAny (.ref C) _) _ _ _
  repeat (any_goals (first | assumption | with_reducible refine wpAny_loadPart_at hC ?_ | wp_step))
  refine ⟨rfl, ?_⟩
  refine codeAny_call_builtin_at (Code.quiet_builtin _ (by decide +kernel)) entry_typeCall (check_tc_kw hC (type_call_kw F hT hC hi hb hrest ?_))
  refine codeAny_mono hq fun r s' z => ?_
  rcases r with e | (v | _ | _ | _) <;> exact z
end
section
variable {prog : Program} {w : World} {A : Around} {E : Value → Shared → Prop} {R : Result → Shared → Prop} {s : Shared} {K : Frag} {mg : Str → Option Value} {c fld : Str} {C fI cc cda : Addr}
theorem run_made_kw (T : ErrTxt prog K mg c fld C fI cc cda) {v : Value} (X : K.In s.heap) (G : s.heap.Ns mainGlobals mg) (B : ∃ mb, s.heap.Ns builtinsNs mb ∧ ∀ x : Str, x ≠ "__name__" → mb x = bootBuiltins x) (hlim : s.heap.NoLimit) (hroom : A.depth + 1 < recursionLimit)
    (hq : ∀ h' tk e d, OwnMade s.heap h' fld e C d v → R (.ok (.ret (.ref e))) { s with heap := h', toks := tk }) :
    codeAny (model prog w) A (.call (.ref C) ⟨[], [(fld, v)]⟩) R s := by
  obtain ⟨nm, q, N, bs, bm, sn, sub, ab, col, dd, k0, k1, k2, k3, k5, hC, hbm⟩ := T.cls
  obtain ⟨hp, g, dr, tk, os⟩ := s
  have k : ∀ b o, hp.get? b = some o → ((hp.push (kdv_tup [])).push (excO C hp.objs.size)).get? b = some o := fun b o e => Heap.get?_push_of_some _ (Heap.get?_push_of_some _ e)
  have hget : ((hp.push (kdv_tup [])).push (excO C hp.objs.size)).get? (hp.objs.size + 1) = some (excO C hp.objs.size) := by heap_get
  have hnx : K.lookup (hp.objs.size + 1) = none := by
    cases e : K.lookup (hp.objs.size + 1) with
    | none => rfl
    | some o =>
      have z : hp.get? (hp.objs.size + 1) = some o := X _ _ e
      exact absurd (Nat.lt_of_succ_lt (Heap.lt_size z)) (Nat.lt_irrefl _)
  obtain ⟨mb, hB, hBb⟩ := B
  refine call_kw PySem.F.excBase_ValueError (fun X => refsVE_contains X bm hbm) (X _ _ hC) (looks_findIn X T.iC) (fun self => bind_fn X self T.tC) (Nat.zero_le _) ?_
  refine run_init (s := ⟨(hp.push (kdv_tup [])).push (excO C hp.objs.size), g, dr, tk, os⟩) (v := v) T (X.keeps k) (G.keeps k) ⟨mb, hB.keeps k, hBb⟩ (hlim.keeps k) hget hnx ?_ (fun fd hfd => ?_) fun h' tk' dx t1 ⟨k', hx, dn, dne, hns⟩ => ?_
  · show A.depth + 1 < recursionLimit
    exact hroom
  · obtain ⟨_, _, _, _, _, _, _, _, _, _, _, _, _, _, _, _, rfl⟩ := hfd
    exact BindsTo.of_eq (T.fl.bk ..)
  · have old : ∀ b o, hp.get? b = some o → h'.get? b = some o := fun b o e => k' b o (Nat.ne_of_lt (Nat.lt_succ_of_lt (Heap.lt_size e))) (k b o e)
    have z : hp.objs.size + 1 + 1 ≤ dx := by
      first
        | (simpa only [Heap.size_push] using dn)
        | exact dn
        | (have q := dn; rw [Heap.size_push, Heap.size_push] at q; exact q)
    exact ⟨rfl, hq h' tk' (hp.objs.size + 1) dx ⟨old, Nat.le_succ _, ⟨_, hx⟩, Nat.le_trans (Nat.le_trans (Nat.le_succ _) (Nat.le_succ _)) z, dne, hns⟩⟩
end
end Mn.EI

set_option Elab.async false
set_option linter.all false
set_option maxRecDepth 100000
set_option maxHeartbeats 1000000
/-! Mini 17: errors made by name; keyword lists. -/
namespace Mn
open PySem PySem.Spec PyProof.Rows L2
section
variable {X : Cx} {C fI cc cda : Addr} {c fld : Str}
theorem pe_errK {a : Expr} {ta : TE} {p pos kpos : Pos} {k : Nat} (T : EI.ErrTxt X.prog X.K X.mg c fld C fI cc cda) (hr : Room k X.A) (ha : PE X a ta) (hg : Gl X c) (hdb : (c == ("__debug__" : Str)) = false) :
    PE X (.Call (.Name c p) [] [⟨some fld, a, kpos⟩] pos) (fun σ H Q => tCons ta tNil σ H fun vs H1 => ∃ v, vs = [v] ∧ ∀ d e, H1 d = none → H1 e = none → d ≠ e → Q (.ref e) (upd (upd H1 d (.xd [(fld, v)])) e (exo e C (some d)))) := by
  refine ⟨fun pins s σ H Q I h => ?_⟩
  refine wpAny_Call_Name_kw (ld_glob I hg T.gC ?_ hdb)
  have hk : PK X [⟨some fld, a, kpos⟩] (tCons ta tNil) := pk_cons ha pk_nil
  refine PySem.W.callWith_KW0 (h₀ := X.base) (kws := [⟨some fld, a, kpos⟩]) I.ok.mod.kin T.kC rfl (thn (hk.run pos pins s σ H _ I h) fun us s1 hh => ?_) rfl
  obtain ⟨vs, H1, I1, r1, v, ev, q1⟩ := hh
  subst ev
  refine ⟨I1.kIn, ?_⟩
  cases r1 with
  | cons rv rn =>
    rename_i v' us'
    cases rn
    show wpAny _ _ (call (.ref C) [] [(fld, v')]) _ _ _
    have hlim := I1.nolimit
    have hG := Inv.glob_of I1
    have hB := Inv.blt_of I1
    obtain ⟨hp, g, dr, tk, os⟩ := s1
    refine wpAny_call (EI.run_made_kw T I1.kIn hG hB hlim (by have := hr.dp; omega) fun h' tk' e d M => ?_)
    obtain ⟨t1, hoe⟩ := M.obj
    have hns := M.ns
    obtain ⟨G', g1, g2⟩ := restrict h' fun b => decide (b ≠ e)
    have gk : ∀ b, b ≠ e → G'.get? b = h'.get? b := fun b hb => g1 b (decide_eq_true hb)
    have ge : G'.get? e = none := g2 e (by simp)
    have old : ∀ b o, hp.get? b = some o → G'.get? b = some o := fun b o q => (gk b (Nat.ne_of_lt (Nat.lt_of_lt_of_le (Heap.lt_size q) M.new))).trans (M.keep b o q)
    have ob : ObjOk X.prog X.w (upd H1 d (.xd [(fld, v)])) G' d (.xd [(fld, v)]) :=
      ⟨_, hns.at (fun o q => (gk d M.dne).trans q), fun f => relO_fld rv fld f⟩
    have J : Inv X pins σ (upd H1 d (.xd [(fld, v)])) ⟨G', g, dr, tk', os⟩ := I1.laid (t' := tk') old M.dbig ob
    have nd : H1 d = none := I1.hok.fresh M.dbig
    have ne : H1 e = none := I1.hok.fresh M.new
    have nee : upd H1 d (.xd [(fld, v)]) e = none := by rw [upd_ne (Ne.symm M.dne)]; exact ne
    have J2 := J.laidN (t' := tk') (a := e) (o := exo e C (some d)) (h' := h') (fun b o q => by
      by_cases hb : b = e
      · have q' : G'.get? b = some o := q
        rw [hb, ge] at q'; cases q'
      · exact (gk b hb).symm.trans q) ge nee (exo_ok hoe)
    exact ⟨.ref e, _, J2, rfl, q1 d e nd ne M.dne⟩
def mErr1 (C : Addr) (f : Str) (m : EMn) : EMn := fun l T => (m l T).bind fun d T1 => .ok (.exn C f d) T1
theorem se_errK {a : Expr} {m : EMn} {f : Str} {p pos kpos : Pos} {k : Nat} (T : EI.ErrTxt X.prog X.K X.mg c f C fI cc cda) (hr : Room k X.A) (hm : SE X a m) (hg : Gl X c) (hdb : (c == ("__debug__" : Str)) = false) : SE X (.Call (.Name c p) [] [⟨some f, a, kpos⟩] pos) (mErr1 C f m) := fun W tk =>
  PE.imp (pe_errK T hr (hm W tk) hg hdb) fun σ H Q ⟨ι, TT, l, hS, hH, q⟩ => rd_bind hS hH q fun d T1 v H1 ι1 e1 p1 hS1 h1 r1 q1 => by
    refine ⟨v, rfl, fun dd e nd ne hde => ?_⟩
    have r : R X.K H1 ι1 v d := r1
    have ne' : upd H1 dd (.xd [(f, v)]) e = none := by rw [upd_ne (Ne.symm hde)]; exact ne
    have E := (Ext.new (o := .xd [(f, v)]) nd).trans (Ext.new (o := exo e C (some dd)) ne')
    have P : Pre H1 ι1 (upd (upd H1 dd (.xd [(f, v)])) e (exo e C (some dd))) ι1 := (Pre.side nd).trans (Pre.side ne')
    refine q1 (.ref e) _ ι1 E P ((h1.side nd).side ne') (.exn (dx := dd) (v := v) upd_same ?_ (r.ext E P))
    rw [upd_ne hde]; exact upd_same
/-! ### keyword lists -/
def SK (X : Cx) (kws : List Keyword) (m : LMn) : Prop := ∀ W, Takes X W → PK X kws (rd (Rl X.K) m X.K X.mg W)
theorem PK.imp {kws : List Keyword} {t t' : TA} (h : PK X kws t) (f : ∀ σ H Q, t' σ H Q → t σ H Q) : PK X kws t' := ⟨fun pos pins s σ H Q I q => h.run pos pins s σ H Q I (f _ _ _ q)⟩
theorem sk_nil : SK X [] mNil := fun W tk => PK.imp pk_nil fun σ H Q ⟨ι, T, l, hS, hH, q⟩ => q [] H ι (Ext.refl H) (Pre.refl ι) hH .nil
theorem sk_cons {nm : Option Str} {e : Expr} {kpos : Pos} {kws : List Keyword} {a : EMn} {r : LMn} (ha : SE X e a) (hr : SK X kws r) : SK X (⟨nm, e, kpos⟩ :: kws) (mCons a r) := fun W tk =>
  PK.imp (pk_cons (ha W tk) (hr W tk)) fun σ H Q ⟨ι, T, l, hS, hH, h⟩ =>
    rd_bind hS hH h fun x T1 v H1 ι1 e1 p1 hS1 h1 r1 q1 => rd_bind hS1 h1 q1 fun xs T2 vs H2 ι2 e2 p2 hS2 h2 r2 q2 =>
      q2 (v :: vs) H2 ι2 (Ext.refl _) (Pre.refl _) h2 (.cons (r1.ext e2 p2) r2)
end
end Mn

set_option Elab.async false
set_option linter.all false
set_option maxRecDepth 100000
set_option maxHeartbeats 1000000
/-! Mini 18: the head's facts: defs, own errors, tables. -/
namespace Mn
open PySem PySem.Spec PyProof.Rows L2 He
/-- one own error -/
structure ErD where
  cls : Str
  fld : Str
  qual : Str
  p1 : Pos
  p2 : Pos
  a0 : Pos
  a1 : Pos
  a2 : Pos
  a3 : Pos
  a4 : Pos
  b1 : Pos
  b2 : Pos
  b3 : Pos
  b4 : Pos
abbrev FnY : Type := Option (Str × Str × Arguments × FuncBody × Scope × Addr × List Str × Value × Value × Addr)
def fnY (K : PySem.W.Frag) (a : Addr) : FnY := match K.lookup a with
  | some ⟨_, _, .func fd, _⟩ => some (fd.name, fd.qualname, fd.params, fd.body, fd.scope, fd.globals, fd.closure.map (·.1), fd.defaults, fd.kwdefaults, fd.builtins)
  | _ => none
def ErD.val (e : ErD) : FnY := some ("__init__", e.qual, EI.iA e.fld e.p1 e.p2, .stmts (EI.iB e.fld e.a0 e.a1 e.a2 e.a3 e.a4 e.b1 e.b2 e.b3 e.b4), EI.iS e.fld, mainGlobals, ["__class__"], .none, .none, builtinsNs)
def ErD.C (K : PySem.W.Frag) (e : ErD) : Addr := ga K e.cls
def ErD.fI (K : PySem.W.Frag) (e : ErD) : Addr := ma K (ga K e.cls) "__init__"
def ccO (K : PySem.W.Frag) (a : Addr) : Addr := match K.lookup a with
  | some ⟨_, _, .func fd, _⟩ => (match fd.closure with
    | [(_, c)] => c
    | _ => 0)
  | _ => 0
def cdO (K : PySem.W.Frag) (a : Addr) : Addr := match K.lookup a with
  | some ⟨_, _, .func fd, _⟩ => (match fd.code with
    | .ref c => c
    | _ => 0)
  | _ => 0
def cdR (K : PySem.W.Frag) (a : Addr) (q : Str) : Bool := match K.lookup a with
  | some ⟨_, _, .func fd, _⟩ => (match fd.code with
    | .ref c => PySem.W.codeIn K (.ref c) q
    | _ => false)
  | _ => false
def excB (K : PySem.W.Frag) (C : Addr) : Bool := match K.lookup C with
  | some ⟨.type t, _, .cls cd, sl⟩ => decide (t = "type") && (cd.hasDict && (!cd.hasDel && (match cd.mro with
    | .ref C' :: bm => decide (C' = C) && HandSPX.refsVE bm
    | _ => false) && (match sl.toList with
    | [_, _, _, _, some (.builtin n), _] => decide (n = "ValueError.__new__")
    | _ => false)))
  | _ => false
theorem excB_ok {K : PySem.W.Frag} {C : Addr} (h : excB K C = true) :
    ∃ nm q N bs bm sn sub ab col dd k0 k1 k2 k3 k5, K.lookup C = some (excClassObj nm q C N bs bm true sn sub ab col dd k0 k1 k2 k3 k5 "ValueError.__new__") ∧ HandSPX.refsVE bm = true := by
  unfold excB at h
  split at h
  · rename_i t dd cd sl ho
    simp only [Bool.and_eq_true, decide_eq_true_eq, Bool.not_eq_true'] at h
    obtain ⟨rfl, h1, ⟨h2, h3⟩, h4⟩ := h
    obtain ⟨nm, bs, mro, ns, qn, hd, sn, sb, ab, col, del⟩ := cd
    dsimp only at h1 h2 h3
    subst h1 h2
    split at h3
    · rename_i C' bm
      simp only [Bool.and_eq_true, decide_eq_true_eq] at h3
      obtain ⟨rfl, h3⟩ := h3
      split at h4
      · rename_i k0 k1 k2 k3 n k5 hs
        simp only [decide_eq_true_eq] at h4
        subst h4
        have hsl : sl = #[k0, k1, k2, k3, some (.builtin "ValueError.__new__"), k5] := by
          obtain ⟨l⟩ := sl
          simp only at hs
          rw [hs]
        subst hsl
        exact ⟨nm, qn, ns, bs, bm, sn, sb, ab, col, dd, k0, k1, k2, k3, k5, ho, h3⟩
      · cases h4
    · cases h3
  · cases h
def codB (prog : Program) (K : PySem.W.Frag) (a : Addr) : Bool := match K.lookup a with
  | some ⟨_, _, .fields vs, _⟩ => (match (vs[2]? : Option Value) with
    | some (.str file _) => (prog.main.file : Str) == file
    | _ => false)
  | _ => false
def celB (K : PySem.W.Frag) (a C : Addr) : Bool := match K.lookup a with
  | some ⟨_, _, .cell (some (.ref D)), _⟩ => decide (D = C)
  | _ => false
def eqT (a : Option Value) (b : Value) : Bool := decide (a = some b)
def eqB (a : Option Bool) (b : Bool) : Bool := decide (a = some b)
def ErD.ok (prog : Program) (K : PySem.W.Frag) (e : ErD) : Bool :=
  let C := e.C K
  let fI := e.fI K
  eqO (PySem.W.nsIn K mainGlobals e.cls) (some (some (.ref C))) && (excB K C && (eqO (PySem.W.findIn K (.ref C) "__setattr__") (some (some (.builtin "object.__setattr__"))) &&
  (eqO (PySem.W.findIn K (.ref C) "__getattribute__") (some (some (.builtin "BaseException.__getattribute__"))) && (eqO (PySem.W.findIn K (.ref C) "__getattr__") (some none) && (eqO (PySem.W.findIn K (.ref C) e.fld) (some none) &&
  (eqO (PySem.W.findIn K (.ref C) "__init__") (some (some (.ref fI))) && (eqT (PySem.W.typeIn K (.ref fI)) (.type "function") && (PySem.W.keepIn K (.ref C) && (eqB (PySem.W.subIn K (.ref C) (.type "BaseException")) true &&
  (eqB (PySem.W.subIn K (.ref C) (.type "ValueError")) true && (eqT (PySem.W.typeIn K (.ref C)) (.type "type") && (PySem.W.hasDictIn K C && (cdR K fI e.qual && (codB prog K (cdO K fI) && (celB K (ccO K fI) C &&
  (eqB (PySem.W.mroIn K C (.ref C)) true && (eqO (PySem.W.nsIn K mainGlobals "super") (some none) && (eqO (PySem.W.ks_superIn K C C "__init__") (some (some (.builtin "ValueError.__init__"))) &&
  (eqO (PySem.W.nsIn K cStatics "thirdparty.any") (some none) && (!(prog.main.scope.names.lookup ("super" : Str)).isSome && ((e.a2.endLine == e.a4.line) &&
  (eqO (PySem.W.findIn K (.ref C) "__class__") (some (some (.builtin "object.__class__"))) && (eqO (PySem.W.specialIn K (.builtin "object.__class__") "__get__") (some (some (.builtin "getset_descriptor.__get__"))) && (eqB (PySem.W.takesIn K (.builtin "object.__class__")) true &&
  (eqB (PySem.W.mroIn K C (.type "object")) true && (PySem.W.clsIn K C).isSome)))))))))))))))))))))))))
theorem ErD.all {prog : Program} {K : PySem.W.Frag} {h : Heap} {mg : Str → Option Value} {e : ErD} (X : K.In h) (G : h.Ns mainGlobals mg) (fl : EI.FldOk e.fld) (eY : fnY K (e.fI K) = e.val) (c : e.ok prog K = true) :
    EI.ErrTxt prog K mg e.cls e.fld (e.C K) (e.fI K) (ccO K (e.fI K)) (cdO K (e.fI K)) ∧ XfC K (e.C K) ∧ ExI K (e.C K) := by
  unfold ErD.ok at c
  obtain ⟨c1, c⟩ := ba c
  obtain ⟨c2, c⟩ := ba c
  obtain ⟨c3, c⟩ := ba c
  obtain ⟨c4, c⟩ := ba c
  obtain ⟨c5, c⟩ := ba c
  obtain ⟨c6, c⟩ := ba c
  obtain ⟨c7, c⟩ := ba c
  obtain ⟨c8, c⟩ := ba c
  obtain ⟨c9, c⟩ := ba c
  obtain ⟨c10, c⟩ := ba c
  obtain ⟨c11, c⟩ := ba c
  obtain ⟨c12, c⟩ := ba c
  obtain ⟨c13, c⟩ := ba c
  obtain ⟨c14, c⟩ := ba c
  obtain ⟨c15, c⟩ := ba c
  obtain ⟨c16, c⟩ := ba c
  obtain ⟨c17, c⟩ := ba c
  obtain ⟨c18, c⟩ := ba c
  obtain ⟨c19, c⟩ := ba c
  obtain ⟨c20, c⟩ := ba c
  obtain ⟨c21, c⟩ := ba c
  obtain ⟨c22, c⟩ := ba c
  obtain ⟨c23, c⟩ := ba c
  obtain ⟨c24, c⟩ := ba c
  obtain ⟨c25, c⟩ := ba c
  obtain ⟨c26, c27⟩ := ba c
  refine ⟨?_, ⟨eqO_ok c4, eqO_ok c5, of_decide_eq_true c10, c13⟩, ⟨⟨eqO_ok c4, eqO_ok c5, of_decide_eq_true c10, c13, eqO_ok c23, eqO_ok c24, of_decide_eq_true c25, of_decide_eq_true c26⟩, c27⟩⟩
  have hfn : ∃ (oc : Value) (od : Option Addr) (doc pm : Value) (an : Option Addr) (ct : Value) (osl : Array (Option Value)), K.lookup (e.fI K) = some ⟨oc, od, .func (PySem.W.ksFn "__init__" e.qual (EI.iA e.fld e.p1 e.p2) (EI.iB e.fld e.a0 e.a1 e.a2 e.a3 e.a4 e.b1 e.b2 e.b3 e.b4) (EI.iS e.fld) .none .none doc pm an (.ref (cdO K (e.fI K))) ct (ccO K (e.fI K))), osl⟩ ∧ PySem.W.codeIn K (.ref (cdO K (e.fI K))) e.qual = true := by
    unfold cdR at c14
    unfold fnY at eY
    unfold cdO ccO
    cases q : K.lookup (e.fI K) with
    | none => rw [q] at eY; cases eY
    | some o =>
      obtain ⟨oc, od, dt, osl⟩ := o
      rw [q] at eY c14
      cases dt with
      | func fd =>
        obtain ⟨n1, n2, n3, n4, n5, n6, n7, n8, n9, n10, n11, n12, n13, n14, n15⟩ := fd
        have e2 : (some (n1, n2, n3, n4, n5, n6, n7.map (·.1), n8, n9, n15) : FnY) = e.val := eY
        unfold ErD.val at e2
        simp only [Option.some.injEq, Prod.mk.injEq] at e2
        obtain ⟨h1, h2, h3, h4, h5, h6, h7, h8, h9, h10⟩ := e2
        subst h1 h2 h3 h4 h5 h6 h8 h9 h10
        dsimp only at c14 ⊢
        cases n13 with
        | ref cd =>
          match n7, h7 with
          | [], h7 => cases h7
          | _ :: _ :: _, h7 => simp at h7
          | [(nm, cc)], h7 =>
            have hn : nm = "__class__" := by simpa using h7
            subst hn
            exact ⟨oc, od, n10, n11, n12, n14, osl, rfl, c14⟩
        | _ => cases c14
      | _ => cases eY
  obtain ⟨oc, od, doc, pm, an, ct, osl, hl, hcd⟩ := hfn
  refine { fl := fl, gC := PySem.W.mg_of X G (eqO_ok c1), cls := excB_ok c2, sa := eqO_ok c3, ga := eqO_ok c4, gg := eqO_ok c5, noN := eqO_ok c6, iC := eqO_ok c7, tC := of_decide_eq_true c8, kC := c9, exC := of_decide_eq_true c10, veC := of_decide_eq_true c11, tyC := of_decide_eq_true c12, hdC := c13, fn := ⟨oc, od, doc, pm, an, ct, osl, _, _, _, _, _, _, _, _, _, _, _, _, hl, hcd, c22⟩, code := ?_, cell := ?_, self := of_decide_eq_true c17, sup := eqO_ok c18, supI := eqO_ok c19, opq := eqO_ok c20, top := by simpa using c21 }
  · unfold codB at c15
    split at c15
    · rename_i ccl cdd vs ccs ho
      split at c15
      · rename_i file tf hv
        exact ⟨ccl, cdd, vs, ccs, file, tf, ho, hv, c15⟩
      · cases c15
    · cases c15
  · unfold celB at c16
    split at c16
    · rename_i cl cld D csl ho
      have : D = e.C K := of_decide_eq_true c16
      subst this
      exact ⟨cl, cld, csl, ho⟩
    · cases c16
end Mn

set_option Elab.async false
set_option linter.all false
set_option maxRecDepth 100000
set_option maxHeartbeats 1000000
/-! Mini 19: and, or, not as values; the Hook; the end of a law. -/
namespace Mn
open PySem PySem.Spec PyProof.Rows L2 He
section
variable {X : Cx} {a b : Expr} {rest : List Expr} {m n : EMn} {pos : Pos}
def mAnd (m n : EMn) : EMn := fun l T => (m l T).bind fun d T1 => (ofOpt (truthD d T1) T1).bind fun k T2 => if k = true then n l T2 else .ok d T2
def mOr (m n : EMn) : EMn := fun l T => (m l T).bind fun d T1 => (ofOpt (truthD d T1) T1).bind fun k T2 => if k = true then .ok d T2 else n l T2
def mNot (m : EMn) : EMn := fun l T => (m l T).bind fun d T1 => (ofOpt (truthD d T1) T1).bind fun k T2 => .ok (.bl (!k)) T2
theorem se_one {op : BoolOp} (h : SE X a m) : SE X (.BoolOp op [a] pos) m := fun W tk => pe_one (h W tk)
theorem se_and (ha : SE X a m) (hb : SE X (.BoolOp .And (b :: rest) pos) n) : SE X (.BoolOp .And (a :: b :: rest) pos) (mAnd m n) := fun W tk =>
  PE.imp (pe_andT (ha W tk) (hb W tk)) fun σ H Q ⟨ι, T, l, hS, hH, q⟩ => rd_bind hS hH q fun d T1 v H1 ι1 e1 p1 hS1 h1 r1 q1 => by
    unfold ofOpt at q1
    cases ek : truthD d T1 with
    | none => rw [ek] at q1; exact q1.elim
    | some k =>
      rw [ek] at q1
      refine ⟨k, truthD_ok h1 r1 ek, ?_⟩
      cases k with
      | true => exact rd_here hS1 h1 q1
      | false => exact post_ok h1 r1 q1
theorem se_or (ha : SE X a m) (hb : SE X (.BoolOp .Or (b :: rest) pos) n) : SE X (.BoolOp .Or (a :: b :: rest) pos) (mOr m n) := fun W tk =>
  PE.imp (pe_orT (ha W tk) (hb W tk)) fun σ H Q ⟨ι, T, l, hS, hH, q⟩ => rd_bind hS hH q fun d T1 v H1 ι1 e1 p1 hS1 h1 r1 q1 => by
    unfold ofOpt at q1
    cases ek : truthD d T1 with
    | none => rw [ek] at q1; exact q1.elim
    | some k =>
      rw [ek] at q1
      refine ⟨k, truthD_ok h1 r1 ek, ?_⟩
      cases k with
      | true => exact post_ok h1 r1 q1
      | false => exact rd_here hS1 h1 q1
theorem se_not (ha : SE X a m) : SE X (.UnaryOp .Not a pos) (mNot m) := fun W tk =>
  PE.imp (pe_notT (ha W tk)) fun σ H Q ⟨ι, T, l, hS, hH, q⟩ => rd_bind hS hH q fun d T1 v H1 ι1 e1 p1 hS1 h1 r1 q1 => by
    unfold ofOpt at q1
    cases ek : truthD d T1 with
    | none => rw [ek] at q1; exact q1.elim
    | some k =>
      rw [ek] at q1
      exact ⟨k, truthD_ok h1 r1 ek, post_ok h1 (.bl _) q1⟩
end
/-! ### levels -/
/-! ### the Hook -/
abbrev AlM : Type := Bool × List FnW × List FnY
def asM (g : Addr → Option Obj) : Nat → List Addr
  | 0 => [mainGlobals, cStatics]
  | n + 1 => growD g (asM g n)
def obsM (p : Program) (fa : List Fa) (fn : List DefD) (er : List ErD) (chk : PySem.W.Frag → Bool) (K : PySem.W.Frag) : AlM :=
  (((fa.all fun f => f.ok K) && fn.all fun d => d.ok K) && ((er.all fun e => e.ok p K) && chk K), fn.map fun d => fnW K d.at_, er.map fun e => fnY K (e.fI K))
def valM (fn : List DefD) (er : List ErD) : AlM := (true, fn.map DefD.val, er.map ErD.val)
def SaysM (p : Program) (fa : List Fa) (fn : List DefD) (er : List ErD) (chk : PySem.W.Frag → Bool) (K : PySem.W.Frag) : Prop := obsM p fa fn er chk K = valM fn er
def obsMG (n : Nat) (p : Program) (fa : List Fa) (fn : List DefD) (er : List ErD) (chk : PySem.W.Frag → Bool) (g : Addr → Option Obj) : AlM := obsM p fa fn er chk (frG g (asM g n))
def hookM (n : Nat) (p : Program) (fa : List Fa) (fn : List DefD) (er : List ErD) (chk : PySem.W.Frag → Bool) : PySem.W.Hook where
  α := AlM
  obs := fun s => obsMG n p fa fn er chk s.heap.get?
  val := fun _ => valM fn er
  says := fun _ h => ∃ K : PySem.W.Frag, K.In h ∧ SaysM p fa fn er chk K
  of := fun _ _ e => ⟨_, frG_in, e⟩
  keeps := fun _ _ _ ⟨K, hK, c⟩ k => ⟨K, PySem.W.Frag.In.keeps hK k, c⟩
theorem obsMG_eq {n : Nat} {p : Program} {fa : List Fa} {fn : List DefD} {er : List ErD} {chk : PySem.W.Frag → Bool} {g : Addr → Option Obj} {s : Shared} (h : ∀ a, g a = s.heap.get? a) : obsMG n p fa fn er chk g = (hookM n p fa fn er chk).obs s := by
  have e : g = s.heap.get? := funext h
  rw [e] <;> rfl
section
variable {p : Program} {fa : List Fa} {fn : List DefD} {er : List ErD} {chk : PySem.W.Frag → Bool} {K : PySem.W.Frag}
theorem SaysM.d (c : SaysM p fa fn er chk K) : SaysD fa fn K := by
  have c1 : (((fa.all fun f => f.ok K) && fn.all fun d => d.ok K) && ((er.all fun e => e.ok p K) && chk K)) = true := congrArg (fun z : AlM => z.1) c
  have c2 : (fn.map fun d => fnW K d.at_) = fn.map DefD.val := congrArg (fun z : AlM => z.2.1) c
  unfold SaysD obsD He.valD
  rw [(ba c1).1, c2]
theorem SaysM.c (c : SaysM p fa fn er chk K) : chk K = true := by
  have c1 : (((fa.all fun f => f.ok K) && fn.all fun d => d.ok K) && ((er.all fun e => e.ok p K) && chk K)) = true := congrArg (fun z : AlM => z.1) c
  exact (ba (ba c1).2).2
theorem SaysM.e (c : SaysM p fa fn er chk K) {h : Heap} {mg : Str → Option Value} (X : K.In h) (G : h.Ns mainGlobals mg) (i : Nat) {e : ErD} (he : er[i]? = some e) (fl : EI.FldOk e.fld) :
    EI.ErrTxt p K mg e.cls e.fld (e.C K) (e.fI K) (ccO K (e.fI K)) (cdO K (e.fI K)) ∧ XfC K (e.C K) ∧ ExI K (e.C K) := by
  have c1 : (((fa.all fun f => f.ok K) && fn.all fun d => d.ok K) && ((er.all fun e => e.ok p K) && chk K)) = true := congrArg (fun z : AlM => z.1) c
  have c3 := (ba (ba c1).2).1
  have e3 : (er.map fun e => fnY K (e.fI K)) = er.map ErD.val := congrArg (fun z : AlM => z.2.2) c
  have e4 : (er.map fun e => fnY K (e.fI K))[i]? = (er.map ErD.val)[i]? := by rw [e3]
  rw [List.getElem?_map, List.getElem?_map, he] at e4
  exact ErD.all X G fl (Option.some.inj e4) (List.all_eq_true.mp c3 e (List.mem_of_getElem? he))
end
/-! ### the end -/
theorem rol_ints {K : PySem.W.Frag} {H : Hp} {a : Addr} {ns : List Int} (hO : Only H) (h : SqL K H a (ns.map V.int)) : R K H [] (.ref a) (.rol (ns.map D.int)) := by
  have aux : ∀ l : List Int, Rs K H [] (l.map V.int) (l.map D.int) := by
    intro l
    induction l with
    | nil => exact .nil
    | cons x l ih => exact .cons (.int x) ih
  have rs := aux ns
  refine .rol ?_ rs
  rcases h with (h | ⟨o, h⟩) | h
  · rcases hO a with n | ⟨o, xs, e⟩
    · rw [n] at h; cases h
    · rw [e] at h; cases h
  · exact .inl ⟨o, h⟩
  · exact .inr h
theorem end_sp {K : PySem.W.Frag} {mg : Str → Option Value} {F : FMn} {H : Hp} {a : Addr} {ns : List Int} {T' : Hq} (hO : Only H) (h : SqL K H a (ns.map V.int)) (e : F [.rol (ns.map D.int)] [] = .ok (.bl true) T') :
    spOf 1 K mg F [.ref a] H (fun v _ => v = .bl true) fun _ _ _ => False := by
  refine ⟨rfl, [], [], _, ⟨rfl, fun i j a z => by simp at z, fun n o z => by simp at z⟩, .cons (rol_ints hO h) .nil, ?_⟩
  rw [e]
  intro v H' ι' _ _ _ r
  cases r
  rfl
end Mn

set_option Elab.async false
set_option linter.all false
set_option maxRecDepth 100000
set_option maxHeartbeats 1000000
/-! Mini 20: the nine errors of the package together. -/
namespace Mn
open PySem PySem.Spec PyProof.Rows L2 He
def eN : Nat → Str
  | 0 => "BadArgument" | 1 => "NotPossible" | 2 => "Stopped" | 3 => "Unreadable" | 4 => "BadPlan" | 5 => "NoPlan" | 6 => "BadText" | 7 => "NothingBack" | 8 => "TooMany" | _ => "PostError"
def eIx (c : Str) : Option Nat := (List.range 9).find? fun j => eN j == c
/-- which clause takes which -/
def hmT (CA : Nat → Addr) (h : Nat) (c : Str) : Option (Bool × Addr) := (eIx c).map fun j => (h == 9 || h == j, CA j)
theorem eIx_ok {c : Str} {j : Nat} (h : eIx c = some j) : j < 9 ∧ eN j = c := by
  unfold eIx at h
  have h1 := List.mem_of_find?_eq_some h
  have h2 := List.find?_some h
  exact ⟨List.mem_range.mp h1, by simpa using h2⟩
def basics : List String := ["NoneType", "bool", "int", "str", "tuple", "list", "dict"]
def qB (a b : String) : Bool := a == b || (a == "bool" && b == "int")
def isE (CA : Nat → Addr) (n : Nat) (C : Addr) : Bool := (List.range n).any fun j => CA j == C
/-- what isinstance answers -/
def qT (CA : Nat → Addr) : Ty → Ty → Option Bool
  | .b a, .b b => if basics.contains a && basics.contains b then some (qB a b) else none
  | .b a, .o D => if basics.contains a && isE CA 10 D then some false else none
  | .o C, .b b => if isE CA 9 C then (if b = "ValueError" then some true else if basics.contains b then some false else none) else none
  | .o C, .o D => if isE CA 9 C && isE CA 10 D then some (D == CA 9 || C == D) else none
structure ErrAll (P : Program) (K : PySem.W.Frag) (mg : Str → Option Value) (CA : Nat → Addr) : Prop where
  txt : ∀ j, j < 9 → ∃ fI cc cda, EI.ErrTxt P K mg (eN j) (fldOf (eN j)) (CA j) fI cc cda ∧ XfC K (CA j) ∧ ExI K (CA j)
  inj : ∀ i j, i < 10 → j < 10 → CA i = CA j → i = j
  post : mg "PostError" = some (.ref (CA 9))
  exm : ∀ j h, j < 9 → h < 10 → PySem.W.exmOne K (.ref (CA j)) (.ref (CA h)) = some (h == 9 || h == j)
  kit : ∀ t c b, qT CA t c = some b → PySem.W.kitOne K t.val c.val = some b
section
variable {P : Program} {K : PySem.W.Frag} {mg : Str → Option Value} {CA : Nat → Addr}
theorem isE_ok {n : Nat} {C : Addr} (h : isE CA n C = true) : ∃ j, j < n ∧ CA j = C := by
  unfold isE at h
  obtain ⟨j, hj, e⟩ := List.any_eq_true.mp h
  exact ⟨j, List.mem_range.mp hj, by simpa using e⟩
theorem ErrAll.ist (E : ErrAll P K mg CA) : IsT K (qT CA) := ⟨E.kit, fun C c b h => by
  have : isE CA 9 C = true := by
    cases c with
    | b n =>
      simp only [qT] at h
      by_cases hh : isE CA 9 C = true
      · exact hh
      · rw [if_neg hh] at h; cases h
    | o D =>
      simp only [qT] at h
      by_cases hh : isE CA 9 C = true
      · exact hh
      · simp [hh] at h
  obtain ⟨j, hj, rfl⟩ := isE_ok this
  obtain ⟨_, _, _, _, _, e⟩ := E.txt j hj
  exact e⟩
theorem ErrAll.hmt (E : ErrAll P K mg CA) {h : Nat} (hh : h < 10) : ∀ c b C, hmT CA h c = some (b, C) → mg c = some (.ref C) ∧ PySem.W.exmOne K (.ref C) (.ref (CA h)) = some b := fun c b C q => by
  unfold hmT at q
  cases e : eIx c with
  | none => rw [e] at q; cases q
  | some j =>
    rw [e] at q
    obtain ⟨hj, rfl⟩ := eIx_ok e
    cases q
    obtain ⟨_, _, _, T, _⟩ := E.txt j hj
    exact ⟨T.gC, E.exm j h hj hh⟩
/-- classes whose field is f -/
def fTab (CA : Nat → Addr) (f : Str) (C : Addr) : Bool := (List.range 9).any fun j => CA j == C && fldOf (eN j) == f
theorem ErrAll.tab (E : ErrAll P K mg CA) {f : Str} : ∀ C, fTab CA f C = true → XfC K C ∧ PySem.W.findIn K (.ref C) f = some none := fun C h => by
  unfold fTab at h
  obtain ⟨j, hj, e⟩ := List.any_eq_true.mp h
  simp only [Bool.and_eq_true, beq_iff_eq] at e
  obtain ⟨rfl, rfl⟩ := e
  obtain ⟨_, _, _, T, x, _⟩ := E.txt j (List.mem_range.mp hj)
  exact ⟨x, T.noN⟩
end
section
variable {X : Cx} {k : Nat} {CA : Nat → Addr} {c f : Str}
theorem ss_raiseE (E : ErrAll X.prog X.K X.mg CA) (j : Nat) (hj : j < 9) (hcj : eN j = c) {a : Expr} {m : LMn} {p pos pos2 : Pos} (hc : X.calm = true) (hr : Room k X.A) (hm : SA X [a] m) (hg : Gl X c) (hdb : (c == ("__debug__" : Str)) = false)
    (he : starEach (a :: []) X.env = (false, eval a X.env) :: starEach [] X.env) (hpl : (backTo pos (starEach [] X.env)).any (·.1) = false) : SS X (.Raise (some (.Call (.Name c p) [a] [] pos)) none pos2) (sRaise c m) := by
  subst hcj
  obtain ⟨_, _, _, T, _⟩ := E.txt j hj
  exact ss_raise hc T hr hm hg hdb he hpl
theorem se_errE (E : ErrAll X.prog X.K X.mg CA) (j : Nat) (hj : j < 9) (hcj : eN j = c) (hf : fldOf c = f) {a : Expr} {m : LMn} {p pos : Pos} (hr : Room k X.A) (hm : SA X [a] m) (hg : Gl X c) (hdb : (c == ("__debug__" : Str)) = false)
    (he : starEach (a :: []) X.env = (false, eval a X.env) :: starEach [] X.env) (hpl : (backTo pos (starEach [] X.env)).any (·.1) = false) : SE X (.Call (.Name c p) [a] [] pos) (mErr (CA j) f m) := by
  subst hcj hf
  obtain ⟨_, _, _, T, _⟩ := E.txt j hj
  exact se_err T hr hm hg hdb he hpl
theorem se_errKE (E : ErrAll X.prog X.K X.mg CA) (j : Nat) (hj : j < 9) (hcj : eN j = c) (hf : fldOf c = f) {a : Expr} {m : EMn} {p pos kpos : Pos} (hr : Room k X.A) (hm : SE X a m) (hg : Gl X c) (hdb : (c == ("__debug__" : Str)) = false) : SE X (.Call (.Name c p) [] [⟨some f, a, kpos⟩] pos) (mErr1 (CA j) f m) := by
  subst hcj hf
  obtain ⟨_, _, _, T, _⟩ := E.txt j hj
  exact se_errK T hr hm hg hdb
theorem se_xfE (E : ErrAll X.prog X.K X.mg CA) (j : Nat) (hj : j < 9) (hf : fldOf (eN j) = f) {a C dd : Addr} {oe : Obj} {pn : List (Addr × Obj)} {e : Expr} {m : EMn} {pos : Pos} (hz : Zc (.ref C) (some dd) oe) (hfs : ∃ vs, oe.data = .fields vs)
    (he : SE (X.suite a ((a, oe) :: pn)) e m) (hb : attributeBase e f X.env (eval e X.env) = eval e X.env) : SE (X.suite a ((a, oe) :: pn)) (.Attribute e f pos) (mXf a C dd (CA j) f m) := by
  subst hf
  obtain ⟨_, _, _, T, x, _⟩ := E.txt j hj
  exact se_xf x T.noN hz hfs he hb
theorem se_clsE (E : ErrAll X.prog X.K X.mg CA) (j : Nat) (hj : j < 10) (hcj : eN j = c) {pos : Pos} (hg : Gl X c) (hd : (c == ("__debug__" : Str)) = false) : SE X (.Name c pos) (mConst (.cls (CA j))) := by
  subst hcj
  by_cases h9 : j < 9
  · obtain ⟨_, _, _, T, _⟩ := E.txt j h9
    exact se_cls hg T.gC hd
  · have : j = 9 := by omega
    subst this
    exact se_cls hg E.post hd
theorem ErrAll.names (E : ErrAll X.prog X.K X.mg CA) (j : Nat) (hj : j < 10) (hcj : eN j = c) (hg : Gl X c) (hd : (c == ("__debug__" : Str)) = false) : Names X c (.ref (CA j)) := by
  subst hcj
  by_cases h9 : j < 9
  · obtain ⟨_, _, _, T, _⟩ := E.txt j h9
    exact ⟨hg, hd, .inl T.gC⟩
  · have : j = 9 := by omega
    subst this
    exact ⟨hg, hd, .inl E.post⟩
theorem u64 {A : Around} (h : Room k A) : A.units + 64 < cLine := by have := h.un; omega
theorem u65 {A : Around} (h : Room k A) : A.units + 65 < cLine := by have := h.un; omega
def visB (sc : Scope) (x : Str) : Bool := match sc.names.lookup x with
  | some .local => true
  | some .cell => true
  | some .free => true
  | _ => false
theorem visB_ok {sc : Scope} {x : Str} (h : visB sc x = true) : Vis sc x := by
  unfold visB at h
  unfold Vis
  split at h
  · rename_i e; exact .inl e
  · rename_i e; exact .inr (.inl e)
  · rename_i e; exact .inr (.inr e)
  · cases h
def locB (sc : Scope) (x : Str) : Bool := match sc.names.lookup x with
  | some .local => true
  | some .cell => true
  | _ => false
theorem locB_ok {sc : Scope} {x : Str} (h : locB sc x = true) : L2.Loc sc x := by
  unfold locB at h
  unfold L2.Loc
  split at h
  · rename_i e; exact .inl e
  · rename_i e; exact .inr e
  · cases h
end
/-! ### from the head -/
def chkE (K : PySem.W.Frag) : Bool :=
  let CA : Nat → Addr := fun j => ga K (eN j)
  (List.range 10).all (fun i => (List.range 10).all fun j => !(CA i == CA j) || i == j) && (eqO (PySem.W.nsIn K mainGlobals "PostError") (some (some (.ref (CA 9)))) &&
  ((List.range 9).all (fun j => (List.range 10).all fun h => eqB (PySem.W.exmOne K (.ref (CA j)) (.ref (CA h))) (h == 9 || h == j)) &&
  (basics.all (fun a => basics.all fun b => eqB (PySem.W.kitOne K (.type a) (.type b)) (qB a b)) && (basics.all (fun a => (List.range 10).all fun j => eqB (PySem.W.kitOne K (.type a) (.ref (CA j))) false) &&
  ((List.range 9).all (fun i => basics.all fun b => eqB (PySem.W.kitOne K (.ref (CA i)) (.type b)) false) && ((List.range 9).all (fun i => eqB (PySem.W.kitOne K (.ref (CA i)) (.type "ValueError")) true) &&
  (List.range 9).all (fun i => (List.range 10).all fun j => eqB (PySem.W.kitOne K (.ref (CA i)) (.ref (CA j))) (j == 9 || i == j))))))))
theorem chkE_ok {P : Program} {K : PySem.W.Frag} {h : Heap} {mg : Str → Option Value} (X : K.In h) (G : h.Ns mainGlobals mg) (c : chkE K = true) (ht : ∀ j, j < 9 → ∃ fI cc cda, EI.ErrTxt P K mg (eN j) (fldOf (eN j)) (ga K (eN j)) fI cc cda ∧ XfC K (ga K (eN j)) ∧ ExI K (ga K (eN j))) :
    ErrAll P K mg fun j => ga K (eN j) := by
  unfold chkE at c
  obtain ⟨c1, c⟩ := ba c
  obtain ⟨c2, c⟩ := ba c
  obtain ⟨c3, c⟩ := ba c
  obtain ⟨c4, c⟩ := ba c
  obtain ⟨c5, c⟩ := ba c
  obtain ⟨c6, c⟩ := ba c
  obtain ⟨c7, c8⟩ := ba c
  have r2 : ∀ {n m : Nat} {f : Nat → Nat → Bool}, ((List.range n).all fun i => (List.range m).all fun j => f i j) = true → ∀ i j, i < n → j < m → f i j = true := fun h i j hi hj =>
    List.all_eq_true.mp (List.all_eq_true.mp h i (List.mem_range.mpr hi)) j (List.mem_range.mpr hj)
  have inj : ∀ i j, i < 10 → j < 10 → ga K (eN i) = ga K (eN j) → i = j := fun i j hi hj e => by
    have := r2 c1 i j hi hj
    simp only [e, beq_self_eq_true, Bool.not_true, Bool.false_or, beq_iff_eq] at this
    exact this
  refine ⟨ht, inj, PySem.W.mg_of X G (eqO_ok c2), fun j h hj hh => of_decide_eq_true (r2 c3 j h hj hh), fun t c b q => ?_⟩
  have hb : ∀ {a : String}, basics.contains a = true → a ∈ basics := fun h => by simpa using h
  cases t with
  | b a => cases c with
    | b b' =>
      simp only [qT] at q
      split at q
      · rename_i hh
        simp only [Bool.and_eq_true] at hh
        cases q
        exact of_decide_eq_true (List.all_eq_true.mp (List.all_eq_true.mp c4 a (hb hh.1)) b' (hb hh.2))
      · cases q
    | o D =>
      simp only [qT] at q
      split at q
      · rename_i hh
        simp only [Bool.and_eq_true] at hh
        cases q
        obtain ⟨j, hj, rfl⟩ := isE_ok hh.2
        exact of_decide_eq_true (List.all_eq_true.mp (List.all_eq_true.mp c5 a (hb hh.1)) j (List.mem_range.mpr hj))
      · cases q
  | o C => cases c with
    | b b' =>
      simp only [qT] at q
      split at q
      · rename_i hh
        obtain ⟨j, hj, rfl⟩ := isE_ok hh
        split at q
        · rename_i e
          subst e
          cases q
          exact of_decide_eq_true (List.all_eq_true.mp c7 j (List.mem_range.mpr hj))
        · split at q
          · rename_i e
            cases q
            exact of_decide_eq_true (List.all_eq_true.mp (List.all_eq_true.mp c6 j (List.mem_range.mpr hj)) b' (hb e))
          · cases q
      · cases q
    | o D =>
      simp only [qT] at q
      split at q
      · rename_i hh
        simp only [Bool.and_eq_true] at hh
        cases q
        obtain ⟨i, hi, rfl⟩ := isE_ok hh.1
        obtain ⟨j, hj, rfl⟩ := isE_ok hh.2
        have := of_decide_eq_true (r2 c8 i j hi hj)
        have e1 : (ga K (eN j) == ga K (eN 9)) = (j == 9) := by
          by_cases e : j = 9
          · rw [e]; exact (beq_self_eq_true _).trans (beq_self_eq_true _).symm
          · have : ga K (eN j) ≠ ga K (eN 9) := fun z => e (inj j 9 hj (by omega) z)
            exact (beq_eq_false_iff_ne.mpr this).trans (beq_eq_false_iff_ne.mpr e).symm
        have e2 : (ga K (eN i) == ga K (eN j)) = (i == j) := by
          by_cases e : i = j
          · rw [e]; exact (beq_self_eq_true _).trans (beq_self_eq_true _).symm
          · have : ga K (eN i) ≠ ga K (eN j) := fun z => e (inj i j (by omega) hj z)
            exact (beq_eq_false_iff_ne.mpr this).trans (beq_eq_false_iff_ne.mpr e).symm
        rw [e1, e2]
        exact this
      · cases q
end Mn

set_option Elab.async false
set_option linter.all false
set_option maxRecDepth 100000
set_option maxHeartbeats 1000000
/-! Mini 21: levels of calls, blocks. -/
namespace Mn
open PySem PySem.Spec PyProof.Rows L2 He
theorem sss_stuck {X : Cx} {sts : List Stmt} : SSs X sts (fun _ _ => .stuck) := fun W tk => ⟨fun pins s σ H D I ⟨ι, T, l, hS, hH, q⟩ => q.elim⟩
section
variable {P : Program} {w : World} {K : PySem.W.Frag} {mg : Str → Option Value} {base : Heap} {x qual : Str} {params : Arguments} {body : List Stmt} {scope : Scope} {dvs : List V} {kws : List (Str × V)} {f : Addr} {fd : FuncData} {N ps : List Str} {k : Nat} {m : SMn}
theorem def0 (F : FunD K x qual params body scope dvs kws f fd) (S : FnScope N ps scope) (hm : mg x = some (.ref f)) (hb : Binds K fd ps []) : DefOk P w K mg base 1 x ps.length (fun _ _ => .stuck) :=
  ⟨f, fd, ps, hm, F.kp, rfl, hb, (fn_ok (k := 0) F S fun _ _ _ _ _ _ _ => sss_stuck).imp fun vs H Q E ⟨_, ι, T, ds, _, _, q⟩ => q.elim⟩
theorem defS (F : FunD K x qual params body scope dvs kws f fd) (S : FnScope N ps scope) (hm : mg x = some (.ref f)) (hb : Binds K fd ps [])
    (h : ∀ (cdv : Value) (A : Around) (outer : List Env) (s : Shared) (H : Hp) (E : XK), Room k (A.deeper (envOfC qual scope s.heap.objs.size f cdv)) → SSs (bodyCx P w K mg base N qual scope f cdv A outer s H E) body m) : DefOk P w K mg base (k + 1) x ps.length (runBody N.length ps.length m) :=
  ⟨f, fd, ps, hm, F.kp, rfl, hb, fn_ok F S h⟩
end
def nmB (N : List Str) : Bool := match N with
  | [] => true
  | x :: r => !r.contains x && nmB r
theorem nmB_ok : ∀ {N : List Str}, nmB N = true → N.Nodup
  | [], _ => List.nodup_nil
  | x :: r, h => by
    simp only [nmB, Bool.and_eq_true, Bool.not_eq_true', List.contains_eq_mem, decide_eq_false_iff_not] at h
    exact List.nodup_cons.mpr ⟨h.1, nmB_ok h.2⟩
/-- what a comprehension's scope must have -/
def blkB (N : List Str) (sc scope : Scope) (own : List (Str × Nat)) : Bool :=
  (match scope.kind with
    | .function => true
    | _ => false) && ((scope.names.all fun y => decide (scope.names.lookup y.1 = some y.2)) && ((own.all fun p => decide (N[p.2]? = some p.1)) &&
  ((scope.names.all fun y => !decide (y.2 = .free) || (decide (sc.names.lookup y.1 = some .cell) || decide (sc.names.lookup y.1 = some .free))) &&
  (scope.names.all fun y => !(decide (y.2 = .local) || decide (y.2 = .cell)) || ((own.map (·.1)).contains y.1 || !N.contains y.1)))))
theorem blkB_ok {N : List Str} {sc scope : Scope} {own : List (Str × Nat)} (h : blkB N sc scope own = true) : BlkOk N sc scope own := by
  unfold blkB at h
  obtain ⟨h1, h⟩ := ba h
  obtain ⟨h2, h⟩ := ba h
  obtain ⟨h3, h⟩ := ba h
  obtain ⟨h4, h5⟩ := ba h
  refine ⟨?_, fun y hy => by simpa using List.all_eq_true.mp h2 y hy, fun p hp => by simpa using List.all_eq_true.mp h3 p hp, fun y hy e => ?_, fun y hy e => ?_⟩
  · revert h1; cases scope.kind <;> simp
  · have := List.all_eq_true.mp h4 y hy
    simpa [e] using this
  · have := List.all_eq_true.mp h5 y hy
    rcases e with e | e <;> simpa [e] using this
theorem cx_end {P : Program} {w : World} (H : Hp) (s : Shared) (e : Value) (s' : Shared) (h : L2.CX P w [] H s (fun _ _ _ => False) e s') : False := by
  obtain ⟨a, B, H', cls, d, e1, fl, hok, ub, na, os, ag, hE⟩ := h
  exact hE
end Mn

set_option Elab.async false
set_option linter.all false
set_option maxRecDepth 100000
set_option maxHeartbeats 1000000
/-! Pl 1: reasoning about meanings. -/
namespace Mn
open PySem PySem.Spec PyProof.Rows L2
section
variable {α β : Type}
def Res.wp (r : Res α) (P : α → Hq → Prop) (E : Str → D → Hq → Prop) : Prop := match r with
  | .ok a T => P a T
  | .exc c d T => E c d T
  | .stuck => False
theorem wp_ok (a : α) (T : Hq) (P : α → Hq → Prop) (E : Str → D → Hq → Prop) : (Res.ok a T).wp P E = P a T := rfl
theorem wp_exc (c : Str) (d : D) (T : Hq) (P : α → Hq → Prop) (E : Str → D → Hq → Prop) : (Res.exc c d T : Res α).wp P E = E c d T := rfl
theorem wp_bind (r : Res α) (k : α → Hq → Res β) (P : β → Hq → Prop) (E : Str → D → Hq → Prop) : (r.bind k).wp P E = r.wp (fun a T => (k a T).wp P E) E := by cases r <;> rfl
theorem Res.wp.mono {r : Res α} {P P' : α → Hq → Prop} {E E' : Str → D → Hq → Prop} (h : r.wp P E) (hp : ∀ a T, P a T → P' a T) (he : ∀ c d T, E c d T → E' c d T) : r.wp P' E' := by
  cases r with
  | ok a T => exact hp a T h
  | exc c d T => exact he c d T h
  | stuck => exact h
/-- an answer, no exception -/
def Res.sat (r : Res α) (P : α → Hq → Prop) : Prop := r.wp P fun _ _ _ => False
theorem Res.sat.wp {r : Res α} {P P' : α → Hq → Prop} {E : Str → D → Hq → Prop} (h : r.sat P) (hp : ∀ a T, P a T → P' a T) : r.wp P' E := Res.wp.mono h hp fun _ _ _ z => z.elim
theorem Res.sat.ok {r : Res α} {P : α → Hq → Prop} (h : r.sat P) : ∃ a T, r = .ok a T ∧ P a T := by
  cases r with
  | ok a T => exact ⟨a, T, rfl, h⟩
  | exc c d T => exact h.elim
  | stuck => exact h.elim
theorem ofOpt_wp {o : Option α} {T : Hq} {P : α → Hq → Prop} {E : Str → D → Hq → Prop} {a : α} (h : o = some a) : (ofOpt o T).wp P E = P a T := by rw [h]; rfl
end
/-- posts of a statement -/
structure SQ where
  nx : Lo → Hq → Prop
  rt : D → Hq → Prop
  bk : Lo → Hq → Prop := fun _ _ => False
  ct : Lo → Hq → Prop := fun _ _ => False
  ex : Str → D → Lo → Hq → Prop := fun _ _ _ _ => False
def SR.wp (r : SR) (Q : SQ) : Prop := match r with
  | .nx l T => Q.nx l T
  | .rt d T => Q.rt d T
  | .bk l T => Q.bk l T
  | .ct l T => Q.ct l T
  | .exc c d l T => Q.ex c d l T
  | .stuck => False
theorem SR.wp.mono {r : SR} {Q Q' : SQ} (h : r.wp Q) (h1 : ∀ l T, Q.nx l T → Q'.nx l T) (h2 : ∀ d T, Q.rt d T → Q'.rt d T) (h3 : ∀ l T, Q.bk l T → Q'.bk l T) (h4 : ∀ l T, Q.ct l T → Q'.ct l T) (h5 : ∀ c d l T, Q.ex c d l T → Q'.ex c d l T) : r.wp Q' := by
  cases r with
  | nx l T => exact h1 _ _ h
  | rt d T => exact h2 _ _ h
  | bk l T => exact h3 _ _ h
  | ct l T => exact h4 _ _ h
  | exc c d l T => exact h5 _ _ _ _ h
  | stuck => exact h
theorem SR.wp.nx {r : SR} {J : Lo → Hq → Prop} {Q : SQ} (h : r.wp { nx := J, rt := fun _ _ => False }) (h1 : ∀ l T, J l T → Q.nx l T) : r.wp Q := SR.wp.mono h h1 (fun _ _ z => z.elim) (fun _ _ z => z.elim) (fun _ _ z => z.elim) (fun _ _ _ _ z => z.elim)
theorem sb_wp {α : Type} (r : Res α) (l : Lo) (k : α → Hq → SR) (Q : SQ) : (r.sb l k).wp Q = r.wp (fun a T => (k a T).wp Q) (fun c d T => Q.ex c d l T) := by cases r <;> rfl
theorem seq_wp (m n : SMn) (l : Lo) (T : Hq) (Q : SQ) : (sSeq m n l T).wp Q = (m l T).wp { Q with nx := fun l T => (n l T).wp Q } := by
  unfold sSeq
  cases m l T <;> rfl
theorem set_wp (i : Nat) (m : EMn) (l : Lo) (T : Hq) (Q : SQ) : (sSet i m l T).wp Q = (m l T).wp (fun d T1 => Q.nx (l.set i (some d)) T1) (fun c d T => Q.ex c d l T) := by unfold sSet; rw [sb_wp]; rfl
theorem ret_wp (m : EMn) (l : Lo) (T : Hq) (Q : SQ) : (sRet m l T).wp Q = (m l T).wp (fun d T1 => Q.rt d T1) (fun c d T => Q.ex c d l T) := by unfold sRet; rw [sb_wp]; rfl
theorem expr_wp (m : EMn) (l : Lo) (T : Hq) (Q : SQ) : (sExpr m l T).wp Q = (m l T).wp (fun _ T1 => Q.nx l T1) (fun c d T => Q.ex c d l T) := by unfold sExpr; rw [sb_wp]; rfl
theorem if_wp (c : BMn) (a b : SMn) (l : Lo) (T : Hq) (Q : SQ) : (sIf c a b l T).wp Q = (c l T).wp (fun x T1 => (x = true → (a l T1).wp Q) ∧ (x = false → (b l T1).wp Q)) (fun c d T => Q.ex c d l T) := by
  unfold sIf; rw [sb_wp]
  congr 1
  funext x T1
  cases x <;> simp
theorem next_wp (l : Lo) (T : Hq) (Q : SQ) : (sNext l T).wp Q = Q.nx l T := rfl
theorem break_wp (l : Lo) (T : Hq) (Q : SQ) : (sBreak l T).wp Q = Q.bk l T := rfl
theorem cont_wp (l : Lo) (T : Hq) (Q : SQ) : (sCont l T).wp Q = Q.ct l T := rfl
theorem raise_wp (c : Str) (m : LMn) (l : Lo) (T : Hq) (Q : SQ) : (sRaise c m l T).wp Q = (m l T).wp (fun ds T1 => ∃ d, ds = [d] ∧ Q.ex c d l T1) (fun c d T => Q.ex c d l T) := by
  unfold sRaise; rw [sb_wp]
  congr 1
  funext ds T1
  match ds with
  | [] => simp [SR.wp]
  | [d] => simp [SR.wp]
  | _ :: _ :: _ => simp [SR.wp]
theorem asg_wp (m : EMn) (g : AMn) (l : Lo) (T : Hq) (Q : SQ) : (sAsg m g l T).wp Q = (m l T).wp (fun d T1 => (g d l T1).wp { nx := Q.nx, rt := fun _ _ => False, ex := Q.ex }) (fun c d T => Q.ex c d l T) := by
  unfold sAsg; rw [sb_wp]
  congr 1
  funext d T1
  cases g d l T1 <;> rfl
theorem sub_wp (mo mi : EMn) (g : D → D → D → Hq → Option Hq) (e : D) (l : Lo) (T : Hq) (Q : SQ) : (aSub mo mi g e l T).wp Q = (mo l T).wp (fun d T1 => (mi l T1).wp (fun k T2 => ∃ T3, g d k e T2 = some T3 ∧ Q.nx l T3) (fun c d T => Q.ex c d l T)) (fun c d T => Q.ex c d l T) := by
  unfold aSub; rw [sb_wp]
  congr 1
  funext d T1
  rw [sb_wp]
  congr 1
  funext k T2
  cases g d k e T2 with
  | none => simp [SR.wp]
  | some T3 => simp [SR.wp]
theorem par_wp (i j : Nat) (m : LMn) (l : Lo) (T : Hq) (Q : SQ) : (sPar i j m l T).wp Q = (m l T).wp (fun ds T1 => ∃ d e, ds = [d, e] ∧ Q.nx ((l.set i (some d)).set j (some e)) T1) (fun c d T => Q.ex c d l T) := by
  unfold sPar; rw [sb_wp]
  congr 1
  funext ds T1
  match ds with
  | [] => simp [SR.wp]
  | [d] => simp [SR.wp]
  | [d, e] => exact propext ⟨fun h => ⟨d, e, rfl, h⟩, fun ⟨_, _, e1, h⟩ => by cases e1; exact h⟩
  | _ :: _ :: _ :: _ => simp [SR.wp]
/-! ### statements by equations -/
theorem seq_nx {m n : SMn} {l l1 : Lo} {T T1 : Hq} {Q : SQ} (e : m l T = .nx l1 T1) (h : (n l1 T1).wp Q) : (sSeq m n l T).wp Q := by unfold sSeq; rw [e]; exact h
theorem nx_e {m : SMn} {l l1 : Lo} {T T1 : Hq} {Q : SQ} (e : m l T = .nx l1 T1) (h : Q.nx l1 T1) : (m l T).wp Q := by rw [e]; exact h
theorem set_e {i : Nat} {m : EMn} {l : Lo} {T T1 : Hq} {d : D} (e : m l T = .ok d T1) : sSet i m l T = .nx (l.set i (some d)) T1 := by unfold sSet; rw [e]; rfl
theorem expr_e {m : EMn} {l : Lo} {T T1 : Hq} {d : D} (e : m l T = .ok d T1) : sExpr m l T = .nx l T1 := by unfold sExpr; rw [e]; rfl
theorem par_e {i j : Nat} {m : LMn} {l : Lo} {T T1 : Hq} {d1 d2 : D} (e : m l T = .ok [d1, d2] T1) : sPar i j m l T = .nx ((l.set i (some d1)).set j (some d2)) T1 := by unfold sPar; rw [e]; rfl
theorem sub_e {m mo mi : EMn} {g : D → D → D → Hq → Option Hq} {l : Lo} {T T1 T2 T3 T4 : Hq} {d o k : D} (e : m l T = .ok d T1) (e2 : mo l T1 = .ok o T2) (e3 : mi l T2 = .ok k T3) (e4 : g o k d T3 = some T4) : sAsg m (aSub mo mi g) l T = .nx l T4 := by
  unfold sAsg aSub; rw [e]; simp only [Res.sb_ok, e2, e3, e4]
theorem ret_e {m : EMn} {l : Lo} {T T1 : Hq} {d : D} {Q : SQ} (e : m l T = .ok d T1) (h : Q.rt d T1) : (sRet m l T).wp Q := by unfold sRet; rw [e]; exact h
theorem if_e {c : BMn} {a b : SMn} {l : Lo} {T T1 : Hq} {x : Bool} {Q : SQ} (e : c l T = .ok x T1) (h1 : x = true → (a l T1).wp Q) (h0 : x = false → (b l T1).wp Q) : (sIf c a b l T).wp Q := by
  unfold sIf; rw [e]
  cases x with
  | true => exact h1 rfl
  | false => exact h0 rfl
theorem seq_i {m n : SMn} {l : Lo} {T : Hq} {Q : SQ} (h : (m l T).wp { Q with nx := fun l T => (n l T).wp Q }) : (sSeq m n l T).wp Q := by rw [seq_wp]; exact h
theorem seq_if {c : BMn} {a n : SMn} {l : Lo} {T T1 : Hq} {x : Bool} {Q : SQ} (e : c l T = .ok x T1) (h1 : x = true → (a l T1).wp { Q with nx := fun l T => (n l T).wp Q }) (h0 : x = false → (n l T1).wp Q) : (sSeq (sIf c a sNext) n l T).wp Q :=
  seq_i (if_e e h1 h0)
theorem seq_for {m : SMn} {n : SMn} {l : Lo} {T : Hq} {J : Lo → Hq → Prop} {Q : SQ} (h : (m l T).wp { nx := J, rt := fun _ _ => False }) (h1 : ∀ l T, J l T → (n l T).wp Q) : (sSeq m n l T).wp Q := seq_i (SR.wp.nx h h1)
theorem asB_e {m : EMn} {l : Lo} {T T1 : Hq} {b : Bool} (e : m l T = .ok (.bl b) T1) : asB m l T = .ok b T1 := by unfold asB; rw [e]; rfl
theorem call_e {n : Nat} {F : FMn} {m : LMn} {l : Lo} {T T1 : Hq} {ds : List D} (e : m l T = .ok ds T1) (hl : ds.length = n) : mCall n F m l T = F ds T1 := by unfold mCall; rw [e]; exact if_pos hl
theorem name_wp (i : Nat) (d : D) (l : Lo) (T : Hq) (Q : SQ) : (aName i d l T).wp Q = Q.nx (l.set i (some d)) T := rfl
theorem if_e_wp (c : BMn) (a b : EMn) (l : Lo) (T : Hq) (P : D → Hq → Prop) (E : Str → D → Hq → Prop) : (mIf c a b l T).wp P E = (c l T).wp (fun x T1 => (x = true → (a l T1).wp P E) ∧ (x = false → (b l T1).wp P E)) E := by
  unfold mIf; rw [wp_bind]
  congr 1
  funext x T1
  cases x <;> simp
theorem body_wp {nN n : Nat} {m : SMn} {ds : List D} {T : Hq} {P : D → Hq → Prop} {E : Str → D → Hq → Prop} (hl : ds.length = n) (h : (m (startD nN ds) T).wp { nx := fun _ T' => P .non T', rt := P, ex := fun c d _ T' => E c d T' }) : (runBody nN n m ds T).wp P E := by
  unfold runBody
  rw [if_pos hl]
  cases hm : m (startD nN ds) T with
  | nx l T' => rw [hm] at h; exact h
  | rt d T' => rw [hm] at h; exact h
  | exc c d l T' => rw [hm] at h; exact h
  | bk l T' => rw [hm] at h; exact h
  | ct l T' => rw [hm] at h; exact h
  | stuck => rw [hm] at h; exact h
/-! ### numbers -/
theorem modD_ok {i j : Int} {T : Hq} (h : 0 < j) : modD (.int i) (.int j) T = .ok (.int (i % j)) T := if_pos h
theorem fdivD_ok {i j : Int} {T : Hq} (h : 0 < j) (h2 : j < 1073741824) : fdivD (.int i) (.int j) T = .ok (.int (i / j)) T := if_pos ⟨h, h2⟩
theorem powD_ok {i j : Int} {T : Hq} (h : 0 ≤ j) (h2 : j ≤ 1000000) (h3 : i.natAbs < 2 ^ 64) : powD (.int i) (.int j) T = .ok (.int (i ^ j.toNat)) T := if_pos ⟨h, h2, h3⟩
theorem asB_wp (m : EMn) (l : Lo) (T : Hq) (P : Bool → Hq → Prop) (E : Str → D → Hq → Prop) : (asB m l T).wp P E = (m l T).wp (fun d T1 => ∃ b, d = .bl b ∧ P b T1) E := by
  unfold asB; rw [wp_bind]
  congr 1
  funext d T1
  cases d <;> simp [Res.wp]
theorem gtD_int {i j : Int} {T : Hq} : gtD (.int i) (.int j) T = .ok (.bl (decide (j < i))) T := rfl
theorem ltD_int {i j : Int} {T : Hq} : ltD (.int i) (.int j) T = .ok (.bl (decide (i < j))) T := rfl
theorem geD_int {i j : Int} {T : Hq} : geD (.int i) (.int j) T = .ok (.bl (decide (j ≤ i))) T := rfl
theorem leD_int {i j : Int} {T : Hq} : leD (.int i) (.int j) T = .ok (.bl (decide (i ≤ j))) T := rfl
theorem addD_int {i j : Int} {T : Hq} : addD (.int i) (.int j) T = .ok (.int (i + j)) T := rfl
theorem subD_int {i j : Int} {T : Hq} : subD (.int i) (.int j) T = .ok (.int (i - j)) T := rfl
theorem mulD_r {i j : Int} {T : Hq} (h : -1000000000000000000 < j) (h2 : j < 1000000000000000000) : mulD (.int i) (.int j) T = .ok (.int (i * j)) T := if_pos (.inr ⟨by omega, by omega⟩)
theorem mulD_l {i j : Int} {T : Hq} (h : -1000000000000000000 < i) (h2 : i < 1000000000000000000) : mulD (.int i) (.int j) T = .ok (.int (i * j)) T := if_pos (.inl ⟨by omega, by omega⟩)
theorem intD_int {i : Int} {T : Hq} : intD [.int i] T = .ok (.int i) T := rfl
theorem absD_int {i : Int} {T : Hq} : absD [.int i] T = .ok (.int (if i < 0 then -i else i)) T := rfl
theorem negD_int {i : Int} {T : Hq} : negD (.int i) T = .ok (.int (-i)) T := rfl
theorem bl_ex {b : Bool} {P : Bool → Prop} : (∃ c, D.bl b = .bl c ∧ P c) = P b := propext ⟨fun ⟨c, e, h⟩ => by cases e; exact h, fun h => ⟨b, rfl, h⟩⟩
/-! ### loops -/
/-- a walk over n items that do not change: the i-th is it i -/
theorem loop_wp {g : Get} {tg : AMn} {body : SMn} {n : Nat} (it : Nat → D) (I : Nat → Lo → Hq → Prop) {Q : SQ}
    (hg : ∀ i l T, I i l T → g T i = some (if i < n then some (it i) else none))
    (step : ∀ i l T, i < n → I i l T → (tg (it i) l T).wp { nx := fun l1 T1 => (body l1 T1).wp { nx := I (i + 1), rt := Q.rt, bk := Q.nx, ct := I (i + 1), ex := Q.ex }, rt := fun _ _ => False, ex := Q.ex })
    (fin : ∀ l T, I n l T → Q.nx l T) : ∀ (f i : Nat) (l : Lo) (T : Hq), i + f = n → I i l T → (sLoop g tg body f i l T).wp Q := by
  intro f
  induction f with
  | zero =>
    intro i l T e h
    have hgi := hg i l T h
    have : i = n := by omega
    subst this
    rw [if_neg (Nat.lt_irrefl _)] at hgi
    unfold sLoop
    rw [hgi]
    exact fin _ _ h
  | succ f ih =>
    intro i l T e h
    have hgi := hg i l T h
    have hi : i < n := by omega
    rw [if_pos hi] at hgi
    have st := step i l T hi h
    unfold sLoop
    rw [hgi]
    dsimp only
    cases ht : tg (it i) l T with
    | nx l1 T1 =>
      rw [ht] at st
      have st : (body l1 T1).wp _ := st
      dsimp only
      cases hb : body l1 T1 with
      | nx l2 T2 => rw [hb] at st; exact ih (i + 1) l2 T2 (by omega) st
      | ct l2 T2 => rw [hb] at st; exact ih (i + 1) l2 T2 (by omega) st
      | bk l2 T2 => rw [hb] at st; exact st
      | rt d T2 => rw [hb] at st; exact st
      | exc c d l2 T2 => rw [hb] at st; exact st
      | stuck => rw [hb] at st; exact st
    | exc c d l2 T2 => rw [ht] at st; exact st
    | rt d T2 => rw [ht] at st; exact st.elim
    | bk l2 T2 => rw [ht] at st; exact st.elim
    | ct l2 T2 => rw [ht] at st; exact st.elim
    | stuck => rw [ht] at st; exact st.elim
theorem for_wp (m : IMn) (tg : AMn) (body : SMn) (l : Lo) (T : Hq) (Q : SQ) : (sFor m tg body l T).wp Q = (m l T).wp (fun p T1 => (sLoop p.2 tg body p.1 0 l T1).wp Q) (fun c d T => Q.ex c d l T) := by unfold sFor; rw [sb_wp]
theorem rng_wp (m : LMn) (l : Lo) (T : Hq) (P : Nat × Get → Hq → Prop) (E : Str → D → Hq → Prop) : (iRng m l T).wp P E = (m l T).wp (fun ds T1 => ∃ j, ds = [.int j] ∧ RgB j ∧ P (j.toNat, getR 0 j.toNat) T1) E := by
  unfold iRng; rw [wp_bind]
  congr 1
  funext ds T1
  split
  · rename_i j
    apply propext
    constructor
    · intro h
      by_cases hb : RgB j
      · rw [if_pos hb] at h; exact ⟨j, rfl, hb, h⟩
      · rw [if_neg hb] at h; exact h.elim
    · rintro ⟨j', e, hb, h⟩
      cases e
      rw [if_pos hb]; exact h
  · rename_i hne
    apply propext
    constructor
    · intro h; exact h.elim
    · rintro ⟨j', e, hb, h⟩
      exact absurd e (hne j')
/-- .. of a comprehension -/
theorem comp_wp {g : Get} {p : Pat} {cond : BMn} {elt : EMn} {l : Lo} {n : Nat} (it : Nat → D) (I : Nat → List D → Hq → Prop) {Q : List D → Hq → Prop} (own : List Nat)
    (hg : ∀ i ys T, I i ys T → g T i = some (if i < n then some (it i) else none))
    (step : ∀ i ys T, i < n → I i ys T → ∃ l1, p.put (it i) l = some l1 ∧ (cond l1 T).sat fun b T1 => (b = true → (elt l1 T1).sat fun y T2 => I (i + 1) (ys ++ [y]) T2) ∧ (b = false → I (i + 1) ys T1))
    (fin : ∀ ys T, I n ys T → Q ys T) : ∀ (f i : Nat) (ys : List D) (T : Hq), i + f = n → I i ys T → (cLoop g p cond elt l f i T).sat fun zs T' => Q (ys ++ zs) T' := by
  intro f
  induction f with
  | zero =>
    intro i ys T e h
    have hgi := hg i ys T h
    have : i = n := by omega
    subst this
    rw [if_neg (Nat.lt_irrefl _)] at hgi
    unfold cLoop
    rw [hgi]
    show Q (ys ++ []) T
    rw [List.append_nil]
    exact fin _ _ h
  | succ f ih =>
    intro i ys T e h
    have hgi := hg i ys T h
    have hi : i < n := by omega
    rw [if_pos hi] at hgi
    obtain ⟨l1, hp, st⟩ := step i ys T hi h
    unfold cLoop
    rw [hgi]
    dsimp only
    rw [hp]
    dsimp only
    obtain ⟨b, T1, hc, st⟩ := st.ok
    rw [hc]
    simp only [Res.bind_ok]
    cases b with
    | false =>
      simp only [Bool.false_eq_true, if_false]
      exact ih (i + 1) ys T1 (by omega) (st.2 rfl)
    | true =>
      simp only [if_true]
      obtain ⟨y, T2, hy, st⟩ := (st.1 rfl).ok
      rw [hy]
      simp only [Res.bind_ok]
      obtain ⟨zs, T3, hz, q⟩ := (ih (i + 1) (ys ++ [y]) T2 (by omega) st).ok
      rw [hz]
      simp only [Res.bind_ok]
      show Q (ys ++ y :: zs) T3
      rw [List.append_assoc] at q
      exact q
end Mn

set_option Elab.async false
set_option linter.all false
set_option maxRecDepth 100000
set_option maxHeartbeats 1000000
/-! Pl 2: places of the heap that change and stay; the spring. -/
namespace Mn
open PySem PySem.Spec PyProof.Rows L2
/-- all but two places stay -/
structure Frm (p q : Nat) (T T' : Hq) : Prop where
  len : T.length ≤ T'.length
  at_ : ∀ i, i < T.length → i ≠ p → i ≠ q → T'[i]? = T[i]?
theorem Frm.refl {p q : Nat} (T : Hq) : Frm p q T T := ⟨Nat.le_refl _, fun _ _ _ _ => rfl⟩
theorem Frm.trans {p q : Nat} {A B C : Hq} (h : Frm p q A B) (h' : Frm p q B C) : Frm p q A C := ⟨Nat.le_trans h.len h'.len, fun i hi a b => (h'.at_ i (Nat.lt_of_lt_of_le hi h.len) a b).trans (h.at_ i hi a b)⟩
theorem Frm.set1 {p q : Nat} {T : Hq} {o : O} : Frm p q T (T.set p o) := ⟨by simp, fun i hi a b => List.getElem?_set_ne (Ne.symm a)⟩
theorem Frm.set2 {p q : Nat} {T : Hq} {o : O} : Frm p q T (T.set q o) := ⟨by simp, fun i hi a b => List.getElem?_set_ne (Ne.symm b)⟩
theorem Frm.app {p q : Nat} {T X : Hq} : Frm p q T (T ++ X) := ⟨by simp, fun i hi a b => List.getElem?_append_left hi⟩
theorem set_get {T : Hq} {p : Nat} {o o' : O} (h : T[p]? = some o) : (T.set p o')[p]? = some o' := List.getElem?_set_self (List.getElem?_eq_some_iff.mp h).1
theorem set_other {T : Hq} {p i : Nat} {o' : O} (h : i ≠ p) : (T.set p o')[i]? = T[i]? := List.getElem?_set_ne (Ne.symm h)
theorem app_get {T X : Hq} {p : Nat} {o : O} (h : T[p]? = some o) : (T ++ X)[p]? = some o := by rw [List.getElem?_append_left (List.getElem?_eq_some_iff.mp h).1]; exact h
theorem app_new {T : Hq} {o : O} : (T ++ [o])[T.length]? = some o := by simp
structure Sp4 (T : Hq) (p q : Nat) (a b c : Int) (cells : List Int) : Prop where
  hp : T[p]? = some (.lst [.obj q, .int a, .int b, .int c])
  hq : T[q]? = some (.lst (cells.map D.int))
  ne : p ≠ q
  ha : 0 ≤ a
  hb : 0 ≤ b
  hc : 0 ≤ c
  hc2 : c < 2147483563
  hl : cells.length ≤ 63
theorem Sp4.put {T : Hq} {p q : Nat} {a b c a' b' c' : Int} {cells : List Int} (h : Sp4 T p q a b c cells) (ha : 0 ≤ a') (hb : 0 ≤ b') (hc : 0 ≤ c') (hc2 : c' < 2147483563) : Sp4 (T.set p (.lst [.obj q, .int a', .int b', .int c'])) p q a' b' c' cells :=
  ⟨set_get h.hp, by rw [set_other (Ne.symm h.ne)]; exact h.hq, h.ne, ha, hb, hc, hc2, h.hl⟩
theorem Sp4.pop {T : Hq} {p q : Nat} {a b c x : Int} {cells : List Int} (h : Sp4 T p q a b c (x :: cells)) : Sp4 (T.set q (.lst (cells.map D.int))) p q a b c cells :=
  ⟨by rw [set_other h.ne]; exact h.hp, set_get h.hq, h.ne, h.ha, h.hb, h.hc, h.hc2, by have := h.hl; simp only [List.length_cons] at this; omega⟩
def Spr (T : Hq) (p q : Nat) (b : Int) : Prop := ∃ a c cells, Sp4 T p q a b c cells
theorem Spr.frame {T T' : Hq} {p q p' q' : Nat} {b : Int} (h : Spr T p q b) (f : Frm p' q' T T') (h1 : p ≠ p') (h2 : p ≠ q') (h3 : q ≠ p') (h4 : q ≠ q') : Spr T' p q b := by
  obtain ⟨a, c, cells, s⟩ := h
  refine ⟨a, c, cells, ?_, ?_, s.ne, s.ha, s.hb, s.hc, s.hc2, s.hl⟩
  · rw [f.at_ p (List.getElem?_eq_some_iff.mp s.hp).1 h1 h2]; exact s.hp
  · rw [f.at_ q (List.getElem?_eq_some_iff.mp s.hq).1 h3 h4]; exact s.hq
theorem Spr.app {T X : Hq} {p q : Nat} {b : Int} (h : Spr T p q b) : Spr (T ++ X) p q b := by
  obtain ⟨a, c, cells, s⟩ := h
  exact ⟨a, c, cells, app_get s.hp, app_get s.hq, s.ne, s.ha, s.hb, s.hc, s.hc2, s.hl⟩
theorem spr_new {T : Hq} {cells : List Int} (hl : cells.length ≤ 63) : Spr (T ++ [.lst (cells.map D.int)] ++ [.lst [.obj T.length, .int 0, .int 0, .int 29]]) (T.length + 1) T.length 0 :=
  ⟨0, 29, cells, by
    have : (T ++ [O.lst (cells.map D.int)]).length = T.length + 1 := by simp
    rw [← this]; exact app_new, app_get app_new, by omega, by decide, by decide, by decide, by decide, hl⟩
theorem ixN_nat {n : Nat} {i : Int} (h : 0 ≤ i) (h2 : i < n) : ixN n i = some i.toNat := by unfold ixN; rw [if_pos h, if_pos h2]
theorem atI_nat {α : Type} {l : List α} {i : Int} (h : 0 ≤ i) (h2 : i < l.length) : atI l i = l[i.toNat]? := by unfold atI; rw [ixN_nat h h2]; rfl
theorem atI_0 {α : Type} (a : α) (l : List α) : atI (a :: l) 0 = some a := by rw [atI_nat (by decide) (by simp only [List.length_cons]; omega)]; rfl
theorem atI_1 {α : Type} (a b : α) (l : List α) : atI (a :: b :: l) 1 = some b := by rw [atI_nat (by decide) (by simp only [List.length_cons]; omega)]; rfl
theorem atI_2 {α : Type} (a b c : α) (l : List α) : atI (a :: b :: c :: l) 2 = some c := by rw [atI_nat (by decide) (by simp only [List.length_cons]; omega)]; rfl
theorem atI_3 {α : Type} (a b c d : α) (l : List α) : atI (a :: b :: c :: d :: l) 3 = some d := by rw [atI_nat (by decide) (by simp only [List.length_cons]; omega)]; rfl
theorem Sp4.ix {T : Hq} {p q : Nat} {a b c : Int} {cells : List Int} (h : Sp4 T p q a b c cells) : ixD (.obj p) (.int 0) T = .ok (.obj q) T ∧ ixD (.obj p) (.int 1) T = .ok (.int a) T ∧ ixD (.obj p) (.int 2) T = .ok (.int b) T ∧ ixD (.obj p) (.int 3) T = .ok (.int c) T := by
  refine ⟨?_, ?_, ?_, ?_⟩ <;> (unfold ixD ixDp; dsimp only; rw [h.hp]; dsimp only)
  · rw [atI_0]; rfl
  · rw [atI_1]; rfl
  · rw [atI_2]; rfl
  · rw [atI_3]; rfl
theorem Sp4.st1 {T : Hq} {p q : Nat} {a b c x : Int} {cells : List Int} (h : Sp4 T p q a b c cells) : setLD (.obj p) (.int 1) (.int x) T = some (T.set p (.lst [.obj q, .int x, .int b, .int c])) := by
  unfold setLD; dsimp only; rw [h.hp]; dsimp only; rw [ixN_nat (by decide) (by simp only [List.length_cons, List.length_nil]; decide)]; rfl
theorem Sp4.st2 {T : Hq} {p q : Nat} {a b c x : Int} {cells : List Int} (h : Sp4 T p q a b c cells) : setLD (.obj p) (.int 2) (.int x) T = some (T.set p (.lst [.obj q, .int a, .int x, .int c])) := by
  unfold setLD; dsimp only; rw [h.hp]; dsimp only; rw [ixN_nat (by decide) (by simp only [List.length_cons, List.length_nil]; decide)]; rfl
theorem Sp4.st3 {T : Hq} {p q : Nat} {a b c x : Int} {cells : List Int} (h : Sp4 T p q a b c cells) : setLD (.obj p) (.int 3) (.int x) T = some (T.set p (.lst [.obj q, .int a, .int b, .int x])) := by
  unfold setLD; dsimp only; rw [h.hp]; dsimp only; rw [ixN_nat (by decide) (by simp only [List.length_cons, List.length_nil]; decide)]; rfl
theorem Sp4.len {T : Hq} {p q : Nat} {a b c : Int} {cells : List Int} (h : Sp4 T p q a b c cells) : lenD [.obj q] T = .ok (.int cells.length) T := by
  simp only [lenD, lenDp, h.hq, List.length_map]
theorem Sp4.ty {T : Hq} {p q : Nat} {a b c : Int} {cells : List Int} (h : Sp4 T p q a b c cells) : tyD "list" (.obj q) T = true := by
  simp only [tyD, h.hq]; rfl
theorem Sp4.popD {T : Hq} {p q : Nat} {a b c x : Int} {cells : List Int} (h : Sp4 T p q a b c (x :: cells)) : popAtD (.obj q) [.int 0] T = .ok (.int x) (T.set q (.lst (cells.map D.int))) := by
  simp only [popAtD, h.hq, List.map_cons]
theorem rngB {i : Int} (h : 0 ≤ i) (h2 : i < 2 ^ 62) : RgB i := ⟨by omega, h2⟩
end Mn

set_option Elab.async false
set_option linter.all false
set_option maxRecDepth 100000
set_option maxHeartbeats 1000000
/-! Pl 4: things that are drawn. -/
namespace Mn
open PySem PySem.Spec PyProof.Rows L2
/-- flat data -/
def fl : D → Bool
  | .non => true | .bl _ => true | .int _ => true | .str _ => true
  | _ => false
def pd : D → PyData
  | .bl b => .bool b | .int i => .int i | .str x => .str x
  | _ => .none
theorem toP_fl {T : Hq} {n : Nat} {d : D} (h : fl d = true) : toP T n d = some (pd d) := by cases d <;> first | (cases n <;> rfl) | cases h
theorem mapO_fl {T : Hq} {n : Nat} : ∀ {ds : List D}, (∀ d ∈ ds, fl d = true) → mapO (toP T n) ds = some (ds.map pd)
  | [], _ => rfl
  | d :: ds, h => by
    unfold mapO
    rw [toP_fl (h d (by simp)), mapO_fl fun e he => h e (List.mem_cons_of_mem _ he)]
    rfl
theorem eqv_pd (d : D) : PyData.eqv (pd d) (pd d) = true := by cases d <;> simp [pd, PyData.eqv]
theorem eqvAll_pd : ∀ ds : List D, PyData.eqvAll (ds.map pd) (ds.map pd) = true
  | [] => by simp [PyData.eqvAll]
  | d :: ds => by simp only [List.map_cons, PyData.eqvAll, eqv_pd, eqvAll_pd ds, Bool.and_self]
/-- a drawn thing, its objects apart from two places -/
inductive Gd (p q : Nat) (T : Hq) : D → Prop
  | at_ {d : D} (h : fl d = true) : Gd p q T d
  | tup {ds : List D} (h : ∀ d ∈ ds, fl d = true) : Gd p q T (.tup ds)
  | lst {n : Nat} {ds : List D} (np : n ≠ p) (nq : n ≠ q) (e : T[n]? = some (.lst ds)) (h : ∀ d ∈ ds, fl d = true) : Gd p q T (.obj n)
  | dct {n : Nat} {kvs : List (Key × D)} (np : n ≠ p) (nq : n ≠ q) (e : T[n]? = some (.dct kvs)) (h1 : (kvs.map (·.1)).Nodup) (h2 : (kvs.all fun kv => flatD kv.2) = true) : Gd p q T (.obj n)
theorem Gd.frame {p q : Nat} {T T' : Hq} {d : D} (f : Frm p q T T') : Gd p q T d → Gd p q T' d
  | .at_ h => .at_ h
  | .tup h => .tup h
  | .lst np nq e h => .lst np nq (by rw [f.at_ _ (List.getElem?_eq_some_iff.mp e).1 np nq]; exact e) h
  | .dct np nq e h1 h2 => .dct np nq (by rw [f.at_ _ (List.getElem?_eq_some_iff.mp e).1 np nq]; exact e) h1 h2
theorem eqD2_of {d e : D} {T : Hq} {a b : PyData} (h1 : toP T 64 d = some a) (h2 : toP T 64 e = some b) (hn : eqSame d e T = false) : eqD2 d e T = .ok (.bl (PyData.eqv a b)) T := by
  unfold eqD2
  rw [hn]
  simp only [Bool.false_eq_true, if_false]
  unfold eqD eqDp
  rw [h1, h2]
theorem eqSame_fl {d e : D} {T : Hq} (h : ∀ n, d ≠ .obj n) : eqSame d e T = false := by
  cases d <;> first | rfl | exact absurd rfl (h _)
theorem Gd.eq {p q : Nat} {T : Hq} {d : D} (g : Gd p q T d) : eqD2 d d T = .ok (.bl true) T := by
  cases g with
  | at_ h =>
    rw [eqD2_of (toP_fl h) (toP_fl h) (eqSame_fl fun n z => by rw [z] at h; cases h), eqv_pd]
  | @tup ds h =>
    have e : toP T 64 (.tup ds) = some (.tuple (ds.map pd)) := by show (mapO (toP T 63) ds).map PyData.tuple = _; rw [mapO_fl h]; rfl
    rw [eqD2_of e e (eqSame_fl fun n z => by cases z)]
    simp only [PyData.eqv, eqvAll_pd]
  | @lst n ds np nq e h =>
    have e1 : toP T 64 (.obj n) = some (.list (ds.map pd)) := by
      show (match T[n]? with
        | some (.lst ds) => (mapO (toP T 63) ds).map PyData.list
        | _ => none) = _
      rw [e]; dsimp only; rw [mapO_fl h]; rfl
    have e2 : eqSame (.obj n) (.obj n) T = false := by simp [eqSame, e]
    rw [eqD2_of e1 e1 e2]
    simp only [PyData.eqv, eqvAll_pd]
  | @dct n kvs np nq e h1 h2 =>
    unfold eqD2
    have : eqSame (.obj n) (.obj n) T = true := by simp only [eqSame, e, h2, decide_eq_true h1, beq_self_eq_true, Bool.and_self]
    rw [if_pos this]
theorem Gd.ty {p q : Nat} {T : Hq} {d : D} (g : Gd p q T d) : ∃ t, tyOfD d T = some (.b t) ∧ basics.contains t = true := by
  cases g with
  | at_ h => cases d <;> first | exact ⟨_, rfl, by decide⟩ | cases h
  | tup h => exact ⟨_, rfl, by decide⟩
  | lst np nq e h => exact ⟨"list", by simp [tyOfD, e], by decide⟩
  | dct np nq e h1 h2 => exact ⟨"dict", by simp [tyOfD, e], by decide⟩
theorem qT_bb {CA : Nat → Addr} {a b : String} (h1 : basics.contains a = true) (h2 : basics.contains b = true) : qT CA (.b a) (.b b) = some (qB a b) := by
  simp only [qT, h1, h2, Bool.and_self, if_true]
/-- isinstance(d, a basic type) -/
theorem isi_basic {CA : Nat → Addr} {d : D} {T : Hq} {a b : String} (h : tyOfD d T = some (.b a)) (h1 : basics.contains a = true) (h2 : basics.contains b = true) : isiD (qT CA) [d, .tyv b] T = .ok (.bl (qB a b)) T := by
  simp only [isiD, h, Option.bind_some, qT_bb h1 h2]
/-! ### errors -/
theorem isE_at {CA : Nat → Addr} {n j : Nat} (h : j < n) : isE CA n (CA j) = true := by
  unfold isE
  exact List.any_eq_true.mpr ⟨j, List.mem_range.mpr h, by simp⟩
theorem CA_beq {CA : Nat → Addr} (inj : ∀ i j, i < 10 → j < 10 → CA i = CA j → i = j) {i j : Nat} (hi : i < 10) (hj : j < 10) : (CA i == CA j) = (i == j) := by
  by_cases e : i = j
  · subst e; exact (beq_self_eq_true _).trans (beq_self_eq_true _).symm
  · exact (beq_eq_false_iff_ne.mpr fun z => e (inj i j hi hj z)).trans (beq_eq_false_iff_ne.mpr e).symm
theorem qT_oo {CA : Nat → Addr} (inj : ∀ i j, i < 10 → j < 10 → CA i = CA j → i = j) {i j : Nat} (hi : i < 9) (hj : j < 10) : qT CA (.o (CA i)) (.o (CA j)) = some (j == 9 || i == j) := by
  simp only [qT, isE_at hi, isE_at hj, Bool.and_self, if_true]
  rw [CA_beq inj hj (by omega), CA_beq inj (by omega) hj]
theorem qT_ve {CA : Nat → Addr} {i : Nat} (hi : i < 9) : qT CA (.o (CA i)) (.b "ValueError") = some true := by
  simp only [qT, isE_at hi, if_true]
theorem fTab_at {CA : Nat → Addr} {j : Nat} (h : j < 9) : fTab CA (fldOf (eN j)) (CA j) = true := by
  unfold fTab
  exact List.any_eq_true.mpr ⟨j, List.mem_range.mpr h, by simp⟩
theorem hmT_at {CA : Nat → Addr} {h j : Nat} (hj : j < 9) : hmT CA h (eN j) = some (h == 9 || h == j, CA j) := by
  have : eIx (eN j) = some j := by
    match j, hj with
    | 0, _ => decide +kernel
    | 1, _ => decide +kernel
    | 2, _ => decide +kernel
    | 3, _ => decide +kernel
    | 4, _ => decide +kernel
    | 5, _ => decide +kernel
    | 6, _ => decide +kernel
    | 7, _ => decide +kernel
    | 8, _ => decide +kernel
  unfold hmT
  rw [this]; rfl
/-- what a def with a spring does -/
def DrawS (F : FMn) : Prop := ∀ (T : Hq) (p q : Nat) (b many : Int), Spr T p q b → b < 2 ^ 40 → 0 < many → many < 2 ^ 30 → (F [.obj p, .int many] T).sat fun d T' => ∃ n, d = .int n ∧ 0 ≤ n ∧ n < many ∧ Spr T' p q (b + 1) ∧ Frm p q T T'
def PickL (F : FMn) : Prop := ∀ (T : Hq) (p q n : Nat) (b : Int) (ds : List D), Spr T p q b → b < 2 ^ 40 → n ≠ p → n ≠ q → T[n]? = some (.lst ds) → 0 < ds.length → ds.length < 1000 → (F [.obj p, .obj n] T).sat fun d T' => d ∈ ds ∧ Spr T' p q (b + 1) ∧ Frm p q T T'
def PickS (F : FMn) : Prop := ∀ (T : Hq) (p q : Nat) (b : Int) (x : Str), Spr T p q b → b < 2 ^ 40 → 0 < x.length → x.length < 1000 → (F [.obj p, .str x] T).sat fun d T' => ∃ c, d = .str ⟨#[c]⟩ ∧ Spr T' p q (b + 1) ∧ Frm p q T T'
theorem Spr.lt {T : Hq} {p q : Nat} {b : Int} (h : Spr T p q b) : p < T.length ∧ q < T.length := by
  obtain ⟨a, c, cells, s⟩ := h
  exact ⟨(List.getElem?_eq_some_iff.mp s.hp).1, (List.getElem?_eq_some_iff.mp s.hq).1⟩
end Mn

set_option Elab.async false
set_option linter.all false
set_option maxRecDepth 100000
set_option maxHeartbeats 4000000
namespace Mn.K30
open PySem PySem.Spec PyProof.Rows L2 Mn He
noncomputable section
def top (i : Nat) : Stmt := PySem.Challenge.pw_promisedpost_k30_errors_made.main.body.getD i (.Pass ⟨0, 0, 0, 0⟩)
abbrev s__law_begin : Stmt := top 12
abbrev N__law_begin : List Str := ["script"]
def m__law_begin (CA : Nat → Addr) (Φ : Nat → FMn) : SMn := sRet (mLst (mCons (mCallB listD (mCons (mVar 0) (mNil))) (mCons (mConst (.int 0)) (mCons (mConst (.int 0)) (mCons (mConst (.int 29)) (mNil))))))
theorem sc__law_begin : FnScope N__law_begin ["script"] (defScope s__law_begin) := ⟨rfl, rfl, rfl, by decide +kernel, rfl, by decide +kernel, by decide +kernel⟩
abbrev s__law_draw : Stmt := top 13
abbrev N__law_draw : List Str := ["spring", "many", "turn", "cell", "digit", "mixed"]
def m__law_draw (CA : Nat → Addr) (Φ : Nat → FMn) : SMn := sSeq (sAsg (mBin addD (mBin ixD (mVar 0) (mConst (.int 2))) (mConst (.int 1))) (aSub (mVar 0) (mConst (.int 2)) setLD)) (sSeq (sFor (iRng (mCons (mCallB lenD (mCons (mBin ixD (mVar 0) (mConst (.int 0))) (mNil))) (mNil))) (aName 2) (sSeq (sIf (asB (mBin gtD (mBin ixD (mVar 0) (mConst (.int 1))) (mConst (.int 0)))) (sBreak) (sNext)) (sSeq (sSet 3 (mMeth "list" popAtD (mBin ixD (mVar 0) (mConst (.int 0))) (mCons (mConst (.int 0)) (mNil)))) (sSeq (sAsg (mBin modD (mCallB intD (mCons (mBin addD (mBin addD (mBin mulD (mBin ixD (mVar 0) (mConst (.int 3))) (mConst (.int 6971))) (mBin mulD (mVar 3) (mConst (.int 31)))) (mConst (.int 7))) (mNil))) (mConst (.int 2147483563))) (aSub (mVar 0) (mConst (.int 3)) setLD)) (sAsg (mIf (asB (mBin geD (mCallB absD (mCons (mVar 3) (mNil))) (mBin powD (mConst (.int 10)) (mConst (.int 18))))) (mCallB absD (mCons (mVar 3) (mNil))) (mConst (.int 0))) (aSub (mVar 0) (mConst (.int 1)) setLD)))))) (sSeq (sIf (asB (mBin gtD (mBin ixD (mVar 0) (mConst (.int 1))) (mConst (.int 0)))) (sSeq (sSet 4 (mBin modD (mCallB intD (mCons (mBin ixD (mVar 0) (mConst (.int 1))) (mNil))) (mVar 1))) (sSeq (sAsg (mBin fdivD (mBin ixD (mVar 0) (mConst (.int 1))) (mVar 1)) (aSub (mVar 0) (mConst (.int 1)) setLD)) (sRet (mVar 4)))) (sNext)) (sSeq (sSet 5 (mBin modD (mCallB intD (mCons (mBin powD (mBin addD (mBin addD (mBin ixD (mVar 0) (mConst (.int 3))) (mBin mulD (mConst (.int 6007)) (mBin ixD (mVar 0) (mConst (.int 2))))) (mConst (.int 90001))) (mConst (.int 3))) (mNil))) (mConst (.int 2147483629)))) (sRet (mBin modD (mBin modD (mCallB intD (mCons (mBin powD (mBin addD (mBin addD (mBin mulD (mVar 5) (mConst (.int 40009))) (mBin mulD (mConst (.int 20011)) (mBin ixD (mVar 0) (mConst (.int 2))))) (mConst (.int 17))) (mConst (.int 3))) (mNil))) (mConst (.int 1000000007))) (mVar 1))))))
theorem sc__law_draw : FnScope N__law_draw ["spring", "many"] (defScope s__law_draw) := ⟨rfl, rfl, rfl, by decide +kernel, rfl, by decide +kernel, by decide +kernel⟩
abbrev s__law_pick : Stmt := top 14
abbrev N__law_pick : List Str := ["spring", "some"]
def m__law_pick (CA : Nat → Addr) (Φ : Nat → FMn) : SMn := sRet (mBin ixD (mVar 1) (mCall 2 (Φ 1) (mCons (mVar 0) (mCons (mCallB lenD (mCons (mVar 1) (mNil))) (mNil)))))
theorem sc__law_pick : FnScope N__law_pick ["spring", "some"] (defScope s__law_pick) := ⟨rfl, rfl, rfl, by decide +kernel, rfl, by decide +kernel, by decide +kernel⟩
abbrev s__law_text : Stmt := top 15
abbrev N__law_text : List Str := ["spring", "way", "signs", "turn"]
def m__law_text (CA : Nat → Addr) (Φ : Nat → FMn) : SMn := sSeq (sSet 1 (mCall 2 (Φ 1) (mCons (mVar 0) (mCons (mConst (.int 6)) (mNil))))) (sSeq (sIf (asB (mBin ltD (mVar 1) (mConst (.int 3)))) (sRet (mCall 2 (Φ 2) (mCons (mVar 0) (mCons (mLst (mCons (mConst (.str "")) (mCons (mConst (.str "a")) (mCons (mConst (.str "0")) (mCons (mConst (.str "1")) (mCons (mConst (.str "-1")) (mCons (mConst (.str "True")) (mCons (mConst (.str "None")) (mCons (mConst (.str " ")) (mCons (mConst (.str "~")) (mCons (mConst (.str "row")) (mCons (mConst (.str "two words")) (mCons (mConst (.str "007")) (mNil)))))))))))))) (mNil))))) (sNext)) (sSeq (sIf (asB (mBin eqD2 (mVar 1) (mConst (.int 5)))) (sRet (mBin mulD (mCall 2 (Φ 2) (mCons (mVar 0) (mCons (mConst (.str "ab ~!09Z")) (mNil)))) (mCall 2 (Φ 2) (mCons (mVar 0) (mCons (mLst (mCons (mConst (.int 59)) (mCons (mConst (.int 60)) (mCons (mConst (.int 31)) (mNil))))) (mNil)))))) (sNext)) (sSeq (sSet 2 (mConst (.str " !#$&'()*+,-./0123456789:;<=>?@ABCXYZ[]^_abcxyz{|}~"))) (sRet (mMeth "str" joinD (mConst (.str "")) (mCons (mComp [3] (iRng (mCons (mCall 2 (Φ 1) (mCons (mVar 0) (mCons (mConst (.int 12)) (mNil)))) (mNil))) (.one 3) (bYes) (mCall 2 (Φ 2) (mCons (mVar 0) (mCons (mVar 2) (mNil))))) (mNil)))))))
theorem sc__law_text : FnScope N__law_text ["spring"] (defScope s__law_text) := ⟨rfl, rfl, rfl, by decide +kernel, rfl, by decide +kernel, by decide +kernel⟩
abbrev s__law_number : Stmt := top 16
abbrev N__law_number : List Str := ["spring", "way", "far"]
def m__law_number (CA : Nat → Addr) (Φ : Nat → FMn) : SMn := sSeq (sPar 1 2 (mCons (mCall 2 (Φ 1) (mCons (mVar 0) (mCons (mConst (.int 5)) (mNil)))) (mCons (mBin addD (mConst (.int 1)) (mCall 2 (Φ 1) (mCons (mVar 0) (mCons (mConst (.int 999983)) (mNil))))) (mNil)))) (sSeq (sIf (asB (mBin ltD (mVar 1) (mConst (.int 2)))) (sRet (mCall 2 (Φ 2) (mCons (mVar 0) (mCons (mLst (mCons (mConst (.int 0)) (mCons (mConst (.int 1)) (mCons (mUn negD (mConst (.int 1))) (mCons (mConst (.int 2)) (mCons (mConst (.int 10)) (mCons (mUn negD (mConst (.int 10))) (mCons (mConst (.int 7)) (mNil))))))))) (mNil))))) (sNext)) (sSeq (sIf (asB (mBin eqD2 (mVar 1) (mConst (.int 2)))) (sRet (mBin mulD (mVar 2) (mBin subD (mConst (.int 1)) (mBin mulD (mConst (.int 2)) (mCall 2 (Φ 1) (mCons (mVar 0) (mCons (mConst (.int 2)) (mNil)))))))) (sNext)) (sSeq (sIf (asB (mBin eqD2 (mVar 1) (mConst (.int 3)))) (sRet (mCall 2 (Φ 2) (mCons (mVar 0) (mCons (mLst (mCons (mBin subD (mBin powD (mConst (.int 10)) (mConst (.int 30))) (mConst (.int 1))) (mCons (mBin subD (mConst (.int 2)) (mBin powD (mConst (.int 10)) (mConst (.int 30)))) (mCons (mBin powD (mConst (.int 10)) (mConst (.int 18))) (mCons (mBin powD (mConst (.int 2)) (mConst (.int 64))) (mCons (mBin subD (mUn negD (mBin powD (mConst (.int 2)) (mConst (.int 64)))) (mConst (.int 1))) (mCons (mBin addD (mBin powD (mConst (.int 10)) (mConst (.int 29))) (mConst (.int 1))) (mNil)))))))) (mNil))))) (sNext)) (sRet (mBin subD (mBin addD (mBin mulD (mVar 2) (mBin powD (mConst (.int 10)) (mConst (.int 20)))) (mCall 2 (Φ 1) (mCons (mVar 0) (mCons (mConst (.int 97)) (mNil))))) (mBin mulD (mBin modD (mCallB intD (mCons (mVar 2) (mNil))) (mConst (.int 3))) (mBin powD (mConst (.int 10)) (mConst (.int 27)))))))))
theorem sc__law_number : FnScope N__law_number ["spring"] (defScope s__law_number) := ⟨rfl, rfl, rfl, by decide +kernel, rfl, by decide +kernel, by decide +kernel⟩
abbrev s__law_thing : Stmt := top 17
abbrev N__law_thing : List Str := ["spring", "way"]
def m__law_thing (CA : Nat → Addr) (Φ : Nat → FMn) : SMn := sSeq (sSet 1 (mCall 2 (Φ 1) (mCons (mVar 0) (mCons (mConst (.int 6)) (mNil))))) (sSeq (sIf (asB (mBin eqD2 (mVar 1) (mConst (.int 0)))) (sRet (mCall 1 (Φ 4) (mCons (mVar 0) (mNil)))) (sNext)) (sSeq (sIf (asB (mBin eqD2 (mVar 1) (mConst (.int 1)))) (sRet (mCall 1 (Φ 3) (mCons (mVar 0) (mNil)))) (sNext)) (sSeq (sIf (asB (mBin eqD2 (mVar 1) (mConst (.int 2)))) (sRet (mTup (mCons (mCall 1 (Φ 3) (mCons (mVar 0) (mNil))) (mCons (mCall 1 (Φ 4) (mCons (mVar 0) (mNil))) (mNil))))) (sNext)) (sRet (mCall 2 (Φ 2) (mCons (mVar 0) (mCons (mLst (mCons (mConst .non) (mCons (mConst (.bl true)) (mCons (mConst (.bl false)) (mCons (mConst (.int 0)) (mCons (mConst (.int 1)) (mCons (mConst (.str "")) (mCons (mTup (mNil)) (mCons (mTup (mCons (mConst (.str "row")) (mCons (mConst (.int 0)) (mCons (mConst (.str "a")) (mNil))))) (mCons (mLst (mNil)) (mCons (mLst (mCons (mConst (.int 1)) (mCons (mConst (.str "a")) (mNil)))) (mCons (mDict0) (mCons (mDict [(mConst (.str "a"), mTup (mCons (mConst (.int 1)) (mNil)))]) (mCons (mConst (.str "copies")) (mCons (mUn negD (mConst (.int 1))) (mNil)))))))))))))))) (mNil))))))))
theorem sc__law_thing : FnScope N__law_thing ["spring"] (defScope s__law_thing) := ⟨rfl, rfl, rfl, by decide +kernel, rfl, by decide +kernel, by decide +kernel⟩
abbrev s__law_made : Stmt := top 18
abbrev N__law_made : List Str := ["which", "thing"]
def m__law_made (CA : Nat → Addr) (Φ : Nat → FMn) : SMn := sSeq (sIf (asB (mBin eqD2 (mVar 0) (mConst (.int 0)))) (sRet (mErr (CA 0) "name" (mCons (mVar 1) (mNil)))) (sNext)) (sSeq (sIf (asB (mBin eqD2 (mVar 0) (mConst (.int 1)))) (sRet (mErr (CA 1) "word" (mCons (mVar 1) (mNil)))) (sNext)) (sSeq (sIf (asB (mBin eqD2 (mVar 0) (mConst (.int 2)))) (sRet (mErr (CA 2) "place" (mCons (mVar 1) (mNil)))) (sNext)) (sSeq (sIf (asB (mBin eqD2 (mVar 0) (mConst (.int 3)))) (sRet (mErr (CA 3) "path" (mCons (mVar 1) (mNil)))) (sNext)) (sSeq (sIf (asB (mBin eqD2 (mVar 0) (mConst (.int 4)))) (sRet (mErr (CA 4) "name" (mCons (mVar 1) (mNil)))) (sNext)) (sSeq (sIf (asB (mBin eqD2 (mVar 0) (mConst (.int 5)))) (sRet (mErr (CA 5) "name" (mCons (mVar 1) (mNil)))) (sNext)) (sSeq (sIf (asB (mBin eqD2 (mVar 0) (mConst (.int 6)))) (sRet (mErr (CA 6) "line" (mCons (mVar 1) (mNil)))) (sNext)) (sRet (mIf (asB (mBin eqD2 (mVar 0) (mConst (.int 7)))) (mErr (CA 7) "many" (mCons (mVar 1) (mNil))) (mErr (CA 8) "limit" (mCons (mVar 1) (mNil)))))))))))
theorem sc__law_made : FnScope N__law_made ["which", "thing"] (defScope s__law_made) := ⟨rfl, rfl, rfl, by decide +kernel, rfl, by decide +kernel, by decide +kernel⟩
abbrev s__law_named : Stmt := top 19
abbrev N__law_named : List Str := ["which", "thing"]
def m__law_named (CA : Nat → Addr) (Φ : Nat → FMn) : SMn := sSeq (sIf (asB (mBin eqD2 (mVar 0) (mConst (.int 0)))) (sRet (mErr1 (CA 0) "name" (mVar 1))) (sNext)) (sSeq (sIf (asB (mBin eqD2 (mVar 0) (mConst (.int 1)))) (sRet (mErr1 (CA 1) "word" (mVar 1))) (sNext)) (sSeq (sIf (asB (mBin eqD2 (mVar 0) (mConst (.int 2)))) (sRet (mErr1 (CA 2) "place" (mVar 1))) (sNext)) (sSeq (sIf (asB (mBin eqD2 (mVar 0) (mConst (.int 3)))) (sRet (mErr1 (CA 3) "path" (mVar 1))) (sNext)) (sSeq (sIf (asB (mBin eqD2 (mVar 0) (mConst (.int 4)))) (sRet (mErr1 (CA 4) "name" (mVar 1))) (sNext)) (sSeq (sIf (asB (mBin eqD2 (mVar 0) (mConst (.int 5)))) (sRet (mErr1 (CA 5) "name" (mVar 1))) (sNext)) (sSeq (sIf (asB (mBin eqD2 (mVar 0) (mConst (.int 6)))) (sRet (mErr1 (CA 6) "line" (mVar 1))) (sNext)) (sRet (mIf (asB (mBin eqD2 (mVar 0) (mConst (.int 7)))) (mErr1 (CA 7) "many" (mVar 1)) (mErr1 (CA 8) "limit" (mVar 1))))))))))
theorem sc__law_named : FnScope N__law_named ["which", "thing"] (defScope s__law_named) := ⟨rfl, rfl, rfl, by decide +kernel, rfl, by decide +kernel, by decide +kernel⟩
abbrev s__law_kept : Stmt := top 20
abbrev N__law_kept : List Str := ["which", "error"]
def m__law_kept (CA : Nat → Addr) (Φ : Nat → FMn) : SMn := sSeq (sIf (asB (mBin inD (mVar 0) (mTup (mCons (mConst (.int 0)) (mCons (mConst (.int 4)) (mCons (mConst (.int 5)) (mNil))))))) (sRet (mXat "name" (fTab CA "name") (mVar 1))) (sNext)) (sSeq (sIf (asB (mBin eqD2 (mVar 0) (mConst (.int 1)))) (sRet (mXat "word" (fTab CA "word") (mVar 1))) (sNext)) (sSeq (sIf (asB (mBin eqD2 (mVar 0) (mConst (.int 2)))) (sRet (mXat "place" (fTab CA "place") (mVar 1))) (sNext)) (sSeq (sIf (asB (mBin eqD2 (mVar 0) (mConst (.int 3)))) (sRet (mXat "path" (fTab CA "path") (mVar 1))) (sNext)) (sSeq (sIf (asB (mBin eqD2 (mVar 0) (mConst (.int 6)))) (sRet (mXat "line" (fTab CA "line") (mVar 1))) (sNext)) (sRet (mIf (asB (mBin eqD2 (mVar 0) (mConst (.int 7)))) (mXat "many" (fTab CA "many") (mVar 1)) (mXat "limit" (fTab CA "limit") (mVar 1))))))))
theorem sc__law_kept : FnScope N__law_kept ["which", "error"] (defScope s__law_kept) := ⟨rfl, rfl, rfl, by decide +kernel, rfl, by decide +kernel, by decide +kernel⟩
abbrev s__law_thrown : Stmt := top 21
abbrev N__law_thrown : List Str := ["which", "thing"]
def m__law_thrown (CA : Nat → Addr) (Φ : Nat → FMn) : SMn := sSeq (sIf (asB (mBin eqD2 (mVar 0) (mConst (.int 0)))) (sRaise "BadArgument" (mCons (mVar 1) (mNil))) (sNext)) (sSeq (sIf (asB (mBin eqD2 (mVar 0) (mConst (.int 1)))) (sRaise "NotPossible" (mCons (mVar 1) (mNil))) (sNext)) (sSeq (sIf (asB (mBin eqD2 (mVar 0) (mConst (.int 2)))) (sRaise "Stopped" (mCons (mVar 1) (mNil))) (sNext)) (sSeq (sIf (asB (mBin eqD2 (mVar 0) (mConst (.int 3)))) (sRaise "Unreadable" (mCons (mVar 1) (mNil))) (sNext)) (sSeq (sIf (asB (mBin eqD2 (mVar 0) (mConst (.int 4)))) (sRaise "BadPlan" (mCons (mVar 1) (mNil))) (sNext)) (sSeq (sIf (asB (mBin eqD2 (mVar 0) (mConst (.int 5)))) (sRaise "NoPlan" (mCons (mVar 1) (mNil))) (sNext)) (sSeq (sIf (asB (mBin eqD2 (mVar 0) (mConst (.int 6)))) (sRaise "BadText" (mCons (mVar 1) (mNil))) (sNext)) (sSeq (sIf (asB (mBin eqD2 (mVar 0) (mConst (.int 7)))) (sRaise "NothingBack" (mCons (mVar 1) (mNil))) (sNext)) (sRaise "TooMany" (mCons (mVar 1) (mNil))))))))))
theorem sc__law_thrown : FnScope N__law_thrown ["which", "thing"] (defScope s__law_thrown) := ⟨rfl, rfl, rfl, by decide +kernel, rfl, by decide +kernel, by decide +kernel⟩
abbrev s__law_caught : Stmt := top 22
abbrev N__law_caught : List Str := ["which", "thing", "e", "found"]
def m__law_caught (CA : Nat → Addr) (Φ : Nat → FMn) : SMn := sSeq (sTry 2 (hmT CA 9) (sExpr (mCall 2 (Φ 9) (mCons (mVar 0) (mCons (mVar 1) (mNil))))) (fun a C dd => sSeq (sSet 3 (mLst (mCons (mCallB (isiX (qT CA) a C dd) (mCons (mVar 2) (mCons (mConst (.cls (CA 0))) (mNil)))) (mCons (mCallB (isiX (qT CA) a C dd) (mCons (mVar 2) (mCons (mConst (.cls (CA 1))) (mNil)))) (mCons (mCallB (isiX (qT CA) a C dd) (mCons (mVar 2) (mCons (mConst (.cls (CA 2))) (mNil)))) (mCons (mCallB (isiX (qT CA) a C dd) (mCons (mVar 2) (mCons (mConst (.cls (CA 3))) (mNil)))) (mNil))))))) (sSeq (sSet 3 (mBin addD (mVar 3) (mLst (mCons (mCallB (isiX (qT CA) a C dd) (mCons (mVar 2) (mCons (mConst (.cls (CA 4))) (mNil)))) (mCons (mCallB (isiX (qT CA) a C dd) (mCons (mVar 2) (mCons (mConst (.cls (CA 5))) (mNil)))) (mCons (mCallB (isiX (qT CA) a C dd) (mCons (mVar 2) (mCons (mConst (.cls (CA 6))) (mNil)))) (mCons (mCallB (isiX (qT CA) a C dd) (mCons (mVar 2) (mCons (mConst (.cls (CA 7))) (mNil)))) (mNil)))))))) (sRet (mBin addD (mBin addD (mLst (mCons (mCallB (isiX (qT CA) a C dd) (mCons (mVar 2) (mCons (mConst (.tyv "ValueError")) (mNil)))) (mNil))) (mVar 3)) (mLst (mCons (mCallB (isiX (qT CA) a C dd) (mCons (mVar 2) (mCons (mConst (.cls (CA 8))) (mNil)))) (mNil)))))))) (sRet (mLst (mNil)))
theorem sc__law_caught : FnScope N__law_caught ["which", "thing"] (defScope s__law_caught) := ⟨rfl, rfl, rfl, by decide +kernel, rfl, by decide +kernel, by decide +kernel⟩
abbrev s__law_like : Stmt := top 23
abbrev N__law_like : List Str := ["found", "due"]
def m__law_like (CA : Nat → Addr) (Φ : Nat → FMn) : SMn := sRet (mAnd (mBin eqD2 (mVar 0) (mVar 1)) (mAnd (mBin eqD2 (mCallB (isiD (qT CA)) (mCons (mVar 0) (mCons (mConst (.tyv "bool")) (mNil)))) (mCallB (isiD (qT CA)) (mCons (mVar 1) (mCons (mConst (.tyv "bool")) (mNil))))) (mBin eqD2 (mCallB (isiD (qT CA)) (mCons (mVar 0) (mCons (mConst (.tyv "int")) (mNil)))) (mCallB (isiD (qT CA)) (mCons (mVar 1) (mCons (mConst (.tyv "int")) (mNil)))))))
theorem sc__law_like : FnScope N__law_like ["found", "due"] (defScope s__law_like) := ⟨rfl, rfl, rfl, by decide +kernel, rfl, by decide +kernel, by decide +kernel⟩
abbrev s_law : Stmt := top 24
abbrev N_law : List Str := ["script", "spring", "turn", "which", "thing", "other", "first", "second", "error", "at"]
def m_law (CA : Nat → Addr) (Φ : Nat → FMn) : SMn := sSeq (sSet 1 (mCall 1 (Φ 0) (mCons (mVar 0) (mNil)))) (sSeq (sFor (iRng (mCons (mConst (.int 3)) (mNil))) (aName 2) (sFor (iRng (mCons (mConst (.int 9)) (mNil))) (aName 3) (sSeq (sPar 4 5 (mCons (mCall 1 (Φ 5) (mCons (mVar 1) (mNil))) (mCons (mCall 1 (Φ 5) (mCons (mVar 1) (mNil))) (mNil)))) (sSeq (sPar 6 7 (mCons (mCall 2 (Φ 6) (mCons (mVar 3) (mCons (mVar 4) (mNil)))) (mCons (mCall 2 (Φ 7) (mCons (mVar 3) (mCons (mVar 5) (mNil)))) (mNil)))) (sSeq (sIf (bOr (bNot (bVal (mCall 2 (Φ 11) (mCons (mCall 2 (Φ 8) (mCons (mVar 3) (mCons (mVar 6) (mNil)))) (mCons (mVar 4) (mNil)))))) (bNot (bVal (mCall 2 (Φ 11) (mCons (mCall 2 (Φ 8) (mCons (mVar 3) (mCons (mVar 7) (mNil)))) (mCons (mVar 5) (mNil))))))) (sRet (mConst (.bl false))) (sNext)) (sSeq (sFor (iSeq (mTup (mCons (mVar 6) (mCons (mVar 7) (mNil))))) (aName 8) (sIf (bOr (bNot (bVal (mCallB (isiD (qT CA)) (mCons (mVar 8) (mCons (mConst (.cls (CA 9))) (mNil)))))) (bNot (bVal (mCallB (isiD (qT CA)) (mCons (mVar 8) (mCons (mConst (.tyv "ValueError")) (mNil))))))) (sRet (mConst (.bl false))) (sNext))) (sSeq (sIf (asB (mBin neD (mCall 2 (Φ 10) (mCons (mVar 3) (mCons (mVar 4) (mNil)))) (mBin addD (mLst (mCons (mConst (.bl true)) (mNil))) (mComp [9] (iRng (mCons (mConst (.int 9)) (mNil))) (.one 9) (bYes) (mBin eqD2 (mVar 9) (mVar 3)))))) (sRet (mConst (.bl false))) (sNext)) (sIf (bNot (bVal (mCall 2 (Φ 11) (mCons (mCall 2 (Φ 8) (mCons (mVar 3) (mCons (mVar 6) (mNil)))) (mCons (mVar 4) (mNil)))))) (sRet (mConst (.bl false))) (sNext))))))))) (sRet (mConst (.bl true))))
theorem sc_law : FnScope N_law ["script"] (defScope s_law) := ⟨rfl, rfl, rfl, by decide +kernel, rfl, by decide +kernel, by decide +kernel⟩
section
variable {P : Program} {w : World} {K : PySem.W.Frag} {mg : Str → Option Value} {base : Heap} {k : Nat} {CA : Nat → Addr} {Φ : Nat → FMn} {f : Addr}
theorem ss__law_begin (EA : ErrAll P K mg CA) (f_list : mg "list" = none) (cdv : Value) (A : Around) (outer : List Env) (s : Shared) (H : Hp) (EE : XK) (hr : Room k (A.deeper (envOfC "_law_begin" (defScope s__law_begin) s.heap.objs.size f cdv))) : SSs (bodyCx P w K mg base N__law_begin "_law_begin" (defScope s__law_begin) f cdv A outer s H EE) (defBody s__law_begin) (m__law_begin CA Φ) :=
  (sss_one (ss_ret (se_lst (sa_cons (se_callTy cd_list rfl f_list (by decide +kernel) (sa_cons (se_var (i := 0) rfl (visB_ok rfl) rfl rfl) sa_nil rfl) (by decide) rfl rfl rfl) (sa_cons se_int (sa_cons se_int (sa_cons se_int sa_nil rfl) rfl) rfl) rfl))))
theorem ss__law_draw (EA : ErrAll P K mg CA) (f_abs : mg "abs" = none) (f_int : mg "int" = none) (f_len : mg "len" = none) (f_range : mg "range" = none) (cdv : Value) (A : Around) (outer : List Env) (s : Shared) (H : Hp) (EE : XK) (hr : Room k (A.deeper (envOfC "_law_draw" (defScope s__law_draw) s.heap.objs.size f cdv))) : SSs (bodyCx P w K mg base N__law_draw "_law_draw" (defScope s__law_draw) f cdv A outer s H EE) (defBody s__law_draw) (m__law_draw CA Φ) :=
  (sss_cons (ss_asg (se_op o2_add (se_ix (se_var (i := 0) rfl (visB_ok rfl) rfl rfl) se_int (fun _ _ => rfl)) se_int) (sg_sub (se_var (i := 0) rfl (visB_ok rfl) rfl rfl) se_int set_L (fun _ _ a b => pg_sub a b set_L)) rfl rfl rfl) (sss_cons (ss_for (passes_of rfl) rfl (si_rng rfl f_range (sa_cons (se_callB cd_len rfl f_len (by decide +kernel) (sa_cons (se_ix (se_var (i := 0) rfl (visB_ok rfl) rfl rfl) se_int (fun _ _ => rfl)) sa_nil rfl) (by decide) rfl rfl rfl) sa_nil rfl) rfl) (sg_name (nmB_ok rfl) rfl (locB_ok rfl) (.inl rfl)) (sss_cons (ss_if (st_cmp o2_gt (se_ix (se_var (i := 0) rfl (visB_ok rfl) rfl rfl) se_int (fun _ _ => rfl)) se_int rfl) (sss_one ss_break) sss_nil) (sss_cons (ss_set (nmB_ok rfl) rfl (locB_ok rfl) (se_meth PySem.F.plainAttrs_list PySem.F.slot_list_pop PySem.F.type_list_pop md_popAt (se_ix (se_var (i := 0) rfl (visB_ok rfl) rfl rfl) se_int (fun _ _ => rfl)) (sa_cons se_int sa_nil rfl) rfl rfl rfl rfl rfl) rfl (.inl rfl)) (sss_cons (ss_asg (se_op o2_mod (se_callTy cd_int rfl f_int (by decide +kernel) (sa_cons (se_op o2_add (se_op o2_add (se_op o2_mul (se_ix (se_var (i := 0) rfl (visB_ok rfl) rfl rfl) se_int (fun _ _ => rfl)) se_int) (se_op o2_mul (se_var (i := 3) rfl (visB_ok rfl) rfl rfl) se_int)) se_int) sa_nil rfl) (by decide) rfl rfl rfl) se_int) (sg_sub (se_var (i := 0) rfl (visB_ok rfl) rfl rfl) se_int set_L (fun _ _ a b => pg_sub a b set_L)) rfl rfl rfl) (sss_one (ss_asg (se_if (st_cmp o2_ge (se_callB cd_abs rfl f_abs (by decide +kernel) (sa_cons (se_var (i := 3) rfl (visB_ok rfl) rfl rfl) sa_nil rfl) (by decide) rfl rfl rfl) (se_op o2_pow se_int se_int) rfl) (se_callB cd_abs rfl f_abs (by decide +kernel) (sa_cons (se_var (i := 3) rfl (visB_ok rfl) rfl rfl) sa_nil rfl) (by decide) rfl rfl rfl) se_int) (sg_sub (se_var (i := 0) rfl (visB_ok rfl) rfl rfl) se_int set_L (fun _ _ a b => pg_sub a b set_L)) rfl rfl rfl))))) (fun _ => rfl)) (sss_cons (ss_if (st_cmp o2_gt (se_ix (se_var (i := 0) rfl (visB_ok rfl) rfl rfl) se_int (fun _ _ => rfl)) se_int rfl) (sss_cons (ss_set (nmB_ok rfl) rfl (locB_ok rfl) (se_op o2_mod (se_callTy cd_int rfl f_int (by decide +kernel) (sa_cons (se_ix (se_var (i := 0) rfl (visB_ok rfl) rfl rfl) se_int (fun _ _ => rfl)) sa_nil rfl) (by decide) rfl rfl rfl) (se_var (i := 1) rfl (visB_ok rfl) rfl rfl)) rfl (.inl rfl)) (sss_cons (ss_asg (se_op o2_fdiv (se_ix (se_var (i := 0) rfl (visB_ok rfl) rfl rfl) se_int (fun _ _ => rfl)) (se_var (i := 1) rfl (visB_ok rfl) rfl rfl)) (sg_sub (se_var (i := 0) rfl (visB_ok rfl) rfl rfl) se_int set_L (fun _ _ a b => pg_sub a b set_L)) rfl rfl rfl) (sss_one (ss_ret (se_var (i := 4) rfl (visB_ok rfl) rfl rfl))))) sss_nil) (sss_cons (ss_set (nmB_ok rfl) rfl (locB_ok rfl) (se_op o2_mod (se_callTy cd_int rfl f_int (by decide +kernel) (sa_cons (se_op o2_pow (se_op o2_add (se_op o2_add (se_ix (se_var (i := 0) rfl (visB_ok rfl) rfl rfl) se_int (fun _ _ => rfl)) (se_op o2_mul se_int (se_ix (se_var (i := 0) rfl (visB_ok rfl) rfl rfl) se_int (fun _ _ => rfl)))) se_int) se_int) sa_nil rfl) (by decide) rfl rfl rfl) se_int) rfl (.inl rfl)) (sss_one (ss_ret (se_op o2_mod (se_op o2_mod (se_callTy cd_int rfl f_int (by decide +kernel) (sa_cons (se_op o2_pow (se_op o2_add (se_op o2_add (se_op o2_mul (se_var (i := 5) rfl (visB_ok rfl) rfl rfl) se_int) (se_op o2_mul se_int (se_ix (se_var (i := 0) rfl (visB_ok rfl) rfl rfl) se_int (fun _ _ => rfl)))) se_int) se_int) sa_nil rfl) (by decide) rfl rfl rfl) se_int) (se_var (i := 1) rfl (visB_ok rfl) rfl rfl))))))))
theorem ss__law_pick (EA : ErrAll P K mg CA) (h__law_draw : DefOk P w K mg base k "_law_draw" 2 (Φ 1)) (f_len : mg "len" = none) (cdv : Value) (A : Around) (outer : List Env) (s : Shared) (H : Hp) (EE : XK) (hr : Room k (A.deeper (envOfC "_law_pick" (defScope s__law_pick) s.heap.objs.size f cdv))) : SSs (bodyCx P w K mg base N__law_pick "_law_pick" (defScope s__law_pick) f cdv A outer s H EE) (defBody s__law_pick) (m__law_pick CA Φ) :=
  (sss_one (ss_ret (se_ix (se_var (i := 1) rfl (visB_ok rfl) rfl rfl) (se_call h__law_draw hr rfl (sa_cons (se_var (i := 0) rfl (visB_ok rfl) rfl rfl) (sa_cons (se_callB cd_len rfl f_len (by decide +kernel) (sa_cons (se_var (i := 1) rfl (visB_ok rfl) rfl rfl) sa_nil rfl) (by decide) rfl rfl rfl) sa_nil rfl) rfl) rfl rfl rfl) (fun _ _ => rfl))))
theorem ss__law_text (EA : ErrAll P K mg CA) (h__law_draw : DefOk P w K mg base k "_law_draw" 2 (Φ 1)) (h__law_pick : DefOk P w K mg base k "_law_pick" 2 (Φ 2)) (f_range : mg "range" = none) (cdv : Value) (A : Around) (outer : List Env) (s : Shared) (H : Hp) (EE : XK) (hr : Room k (A.deeper (envOfC "_law_text" (defScope s__law_text) s.heap.objs.size f cdv))) : SSs (bodyCx P w K mg base N__law_text "_law_text" (defScope s__law_text) f cdv A outer s H EE) (defBody s__law_text) (m__law_text CA Φ) :=
  (sss_cons (ss_set (nmB_ok rfl) rfl (locB_ok rfl) (se_call h__law_draw hr rfl (sa_cons (se_var (i := 0) rfl (visB_ok rfl) rfl rfl) (sa_cons se_int sa_nil rfl) rfl) rfl rfl rfl) rfl (.inl rfl)) (sss_cons (ss_if (st_cmp o2_lt (se_var (i := 1) rfl (visB_ok rfl) rfl rfl) se_int rfl) (sss_one (ss_ret (se_call h__law_pick hr rfl (sa_cons (se_var (i := 0) rfl (visB_ok rfl) rfl rfl) (sa_cons (se_lst (sa_cons (se_str (strOk_of _)) (sa_cons (se_str (strOk_of _)) (sa_cons (se_str (strOk_of _)) (sa_cons (se_str (strOk_of _)) (sa_cons (se_str (strOk_of _)) (sa_cons (se_str (strOk_of _)) (sa_cons (se_str (strOk_of _)) (sa_cons (se_str (strOk_of _)) (sa_cons (se_str (strOk_of _)) (sa_cons (se_str (strOk_of _)) (sa_cons (se_str (strOk_of _)) (sa_cons (se_str (strOk_of _)) sa_nil rfl) rfl) rfl) rfl) rfl) rfl) rfl) rfl) rfl) rfl) rfl) rfl)) sa_nil rfl) rfl) rfl rfl rfl))) sss_nil) (sss_cons (ss_if (st_cmp (o2_eq2 (u64 hr)) (se_var (i := 1) rfl (visB_ok rfl) rfl rfl) se_int rfl) (sss_one (ss_ret (se_op o2_mul (se_call h__law_pick hr rfl (sa_cons (se_var (i := 0) rfl (visB_ok rfl) rfl rfl) (sa_cons (se_str (strOk_of _)) sa_nil rfl) rfl) rfl rfl rfl) (se_call h__law_pick hr rfl (sa_cons (se_var (i := 0) rfl (visB_ok rfl) rfl rfl) (sa_cons (se_lst (sa_cons se_int (sa_cons se_int (sa_cons se_int sa_nil rfl) rfl) rfl)) sa_nil rfl) rfl) rfl rfl rfl)))) sss_nil) (sss_cons (ss_set (nmB_ok rfl) rfl (locB_ok rfl) (se_str (strOk_of _)) rfl (.inl rfl)) (sss_one (ss_ret (se_meth PySem.F.plainAttrs_str PySem.F.slot_str_join PySem.F.type_str_join md_join (se_str (strOk_of _)) (sa_cons (se_comp (own := [("turn", 3)]) (p := (.one 3)) rfl (nmB_ok rfl) (si_rng rfl f_range (sa_cons (se_call h__law_draw hr rfl (sa_cons (se_var (i := 0) rfl (visB_ok rfl) rfl rfl) (sa_cons se_int sa_nil rfl) rfl) rfl rfl rfl) sa_nil rfl) rfl) (blkB_ok (by kernel_rfl)) (by decide) (fun _ _ _ _ _ => pg_one (nmB_ok rfl) rfl (locB_ok rfl) (.inr rfl)) (fun _ _ _ _ _ => sts_nil) (fun _ _ _ _ _ => (se_call h__law_pick hr rfl (sa_cons (se_var (i := 0) rfl (visB_ok rfl) rfl rfl) (sa_cons (se_var (i := 2) rfl (visB_ok rfl) rfl rfl) sa_nil rfl) rfl) rfl rfl rfl)) (fun _ => rfl)) sa_nil rfl) rfl rfl rfl rfl rfl)))))))
theorem ss__law_number (EA : ErrAll P K mg CA) (h__law_draw : DefOk P w K mg base k "_law_draw" 2 (Φ 1)) (h__law_pick : DefOk P w K mg base k "_law_pick" 2 (Φ 2)) (f_int : mg "int" = none) (cdv : Value) (A : Around) (outer : List Env) (s : Shared) (H : Hp) (EE : XK) (hr : Room k (A.deeper (envOfC "_law_number" (defScope s__law_number) s.heap.objs.size f cdv))) : SSs (bodyCx P w K mg base N__law_number "_law_number" (defScope s__law_number) f cdv A outer s H EE) (defBody s__law_number) (m__law_number CA Φ) :=
  (sss_cons (ss_par (nmB_ok rfl) rfl rfl (fun _ h => ps_par rfl (nmB_ok rfl) rfl rfl (by decide) rfl rfl h rfl rfl) (sa_cons (se_call h__law_draw hr rfl (sa_cons (se_var (i := 0) rfl (visB_ok rfl) rfl rfl) (sa_cons se_int sa_nil rfl) rfl) rfl rfl rfl) (sa_cons (se_op o2_add se_int (se_call h__law_draw hr rfl (sa_cons (se_var (i := 0) rfl (visB_ok rfl) rfl rfl) (sa_cons se_int sa_nil rfl) rfl) rfl rfl rfl)) sa_nil rfl) rfl)) (sss_cons (ss_if (st_cmp o2_lt (se_var (i := 1) rfl (visB_ok rfl) rfl rfl) se_int rfl) (sss_one (ss_ret (se_call h__law_pick hr rfl (sa_cons (se_var (i := 0) rfl (visB_ok rfl) rfl rfl) (sa_cons (se_lst (sa_cons se_int (sa_cons se_int (sa_cons (se_neg se_int) (sa_cons se_int (sa_cons se_int (sa_cons (se_neg se_int) (sa_cons se_int sa_nil rfl) rfl) rfl) rfl) rfl) rfl) rfl)) sa_nil rfl) rfl) rfl rfl rfl))) sss_nil) (sss_cons (ss_if (st_cmp (o2_eq2 (u64 hr)) (se_var (i := 1) rfl (visB_ok rfl) rfl rfl) se_int rfl) (sss_one (ss_ret (se_op o2_mul (se_var (i := 2) rfl (visB_ok rfl) rfl rfl) (se_op o2_sub se_int (se_op o2_mul se_int (se_call h__law_draw hr rfl (sa_cons (se_var (i := 0) rfl (visB_ok rfl) rfl rfl) (sa_cons se_int sa_nil rfl) rfl) rfl rfl rfl)))))) sss_nil) (sss_cons (ss_if (st_cmp (o2_eq2 (u64 hr)) (se_var (i := 1) rfl (visB_ok rfl) rfl rfl) se_int rfl) (sss_one (ss_ret (se_call h__law_pick hr rfl (sa_cons (se_var (i := 0) rfl (visB_ok rfl) rfl rfl) (sa_cons (se_lst (sa_cons (se_op o2_sub (se_op o2_pow se_int se_int) se_int) (sa_cons (se_op o2_sub se_int (se_op o2_pow se_int se_int)) (sa_cons (se_op o2_pow se_int se_int) (sa_cons (se_op o2_pow se_int se_int) (sa_cons (se_op o2_sub (se_neg (se_op o2_pow se_int se_int)) se_int) (sa_cons (se_op o2_add (se_op o2_pow se_int se_int) se_int) sa_nil rfl) rfl) rfl) rfl) rfl) rfl)) sa_nil rfl) rfl) rfl rfl rfl))) sss_nil) (sss_one (ss_ret (se_op o2_sub (se_op o2_add (se_op o2_mul (se_var (i := 2) rfl (visB_ok rfl) rfl rfl) (se_op o2_pow se_int se_int)) (se_call h__law_draw hr rfl (sa_cons (se_var (i := 0) rfl (visB_ok rfl) rfl rfl) (sa_cons se_int sa_nil rfl) rfl) rfl rfl rfl)) (se_op o2_mul (se_op o2_mod (se_callTy cd_int rfl f_int (by decide +kernel) (sa_cons (se_var (i := 2) rfl (visB_ok rfl) rfl rfl) sa_nil rfl) (by decide) rfl rfl rfl) se_int) (se_op o2_pow se_int se_int)))))))))
theorem ss__law_thing (EA : ErrAll P K mg CA) (h__law_draw : DefOk P w K mg base k "_law_draw" 2 (Φ 1)) (h__law_number : DefOk P w K mg base k "_law_number" 1 (Φ 4)) (h__law_pick : DefOk P w K mg base k "_law_pick" 2 (Φ 2)) (h__law_text : DefOk P w K mg base k "_law_text" 1 (Φ 3)) (cdv : Value) (A : Around) (outer : List Env) (s : Shared) (H : Hp) (EE : XK) (hr : Room k (A.deeper (envOfC "_law_thing" (defScope s__law_thing) s.heap.objs.size f cdv))) : SSs (bodyCx P w K mg base N__law_thing "_law_thing" (defScope s__law_thing) f cdv A outer s H EE) (defBody s__law_thing) (m__law_thing CA Φ) :=
  (sss_cons (ss_set (nmB_ok rfl) rfl (locB_ok rfl) (se_call h__law_draw hr rfl (sa_cons (se_var (i := 0) rfl (visB_ok rfl) rfl rfl) (sa_cons se_int sa_nil rfl) rfl) rfl rfl rfl) rfl (.inl rfl)) (sss_cons (ss_if (st_cmp (o2_eq2 (u64 hr)) (se_var (i := 1) rfl (visB_ok rfl) rfl rfl) se_int rfl) (sss_one (ss_ret (se_call h__law_number hr rfl (sa_cons (se_var (i := 0) rfl (visB_ok rfl) rfl rfl) sa_nil rfl) rfl rfl rfl))) sss_nil) (sss_cons (ss_if (st_cmp (o2_eq2 (u64 hr)) (se_var (i := 1) rfl (visB_ok rfl) rfl rfl) se_int rfl) (sss_one (ss_ret (se_call h__law_text hr rfl (sa_cons (se_var (i := 0) rfl (visB_ok rfl) rfl rfl) sa_nil rfl) rfl rfl rfl))) sss_nil) (sss_cons (ss_if (st_cmp (o2_eq2 (u64 hr)) (se_var (i := 1) rfl (visB_ok rfl) rfl rfl) se_int rfl) (sss_one (ss_ret (se_tup (sa_cons (se_call h__law_text hr rfl (sa_cons (se_var (i := 0) rfl (visB_ok rfl) rfl rfl) sa_nil rfl) rfl rfl rfl) (sa_cons (se_call h__law_number hr rfl (sa_cons (se_var (i := 0) rfl (visB_ok rfl) rfl rfl) sa_nil rfl) rfl rfl rfl) sa_nil rfl) rfl)))) sss_nil) (sss_one (ss_ret (se_call h__law_pick hr rfl (sa_cons (se_var (i := 0) rfl (visB_ok rfl) rfl rfl) (sa_cons (se_lst (sa_cons se_non (sa_cons se_bl (sa_cons se_bl (sa_cons se_int (sa_cons se_int (sa_cons (se_str (strOk_of _)) (sa_cons (se_tup sa_nil) (sa_cons (se_tup (sa_cons (se_str (strOk_of _)) (sa_cons se_int (sa_cons (se_str (strOk_of _)) sa_nil rfl) rfl) rfl)) (sa_cons (se_lst sa_nil) (sa_cons (se_lst (sa_cons se_int (sa_cons (se_str (strOk_of _)) sa_nil rfl) rfl)) (sa_cons se_dict0 (sa_cons (se_dict (.cons (se_str (strOk_of _)) (se_tup (sa_cons se_int sa_nil rfl)) .nil) rfl rfl (List.cons_ne_nil _ _) (by decide) rfl) (sa_cons (se_str (strOk_of _)) (sa_cons (se_neg se_int) sa_nil rfl) rfl) rfl) rfl) rfl) rfl) rfl) rfl) rfl) rfl) rfl) rfl) rfl) rfl)) sa_nil rfl) rfl) rfl rfl rfl)))))))
theorem ss__law_made (EA : ErrAll P K mg CA) (cdv : Value) (A : Around) (outer : List Env) (s : Shared) (H : Hp) (EE : XK) (hr : Room k (A.deeper (envOfC "_law_made" (defScope s__law_made) s.heap.objs.size f cdv))) : SSs (bodyCx P w K mg base N__law_made "_law_made" (defScope s__law_made) f cdv A outer s H EE) (defBody s__law_made) (m__law_made CA Φ) :=
  (sss_cons (ss_if (st_cmp (o2_eq2 (u64 hr)) (se_var (i := 0) rfl (visB_ok rfl) rfl rfl) se_int rfl) (sss_one (ss_ret (se_errE EA 0 (by decide) rfl (by decide +kernel) hr (sa_cons (se_var (i := 1) rfl (visB_ok rfl) rfl rfl) sa_nil rfl) rfl rfl rfl rfl))) sss_nil) (sss_cons (ss_if (st_cmp (o2_eq2 (u64 hr)) (se_var (i := 0) rfl (visB_ok rfl) rfl rfl) se_int rfl) (sss_one (ss_ret (se_errE EA 1 (by decide) rfl (by decide +kernel) hr (sa_cons (se_var (i := 1) rfl (visB_ok rfl) rfl rfl) sa_nil rfl) rfl rfl rfl rfl))) sss_nil) (sss_cons (ss_if (st_cmp (o2_eq2 (u64 hr)) (se_var (i := 0) rfl (visB_ok rfl) rfl rfl) se_int rfl) (sss_one (ss_ret (se_errE EA 2 (by decide) rfl (by decide +kernel) hr (sa_cons (se_var (i := 1) rfl (visB_ok rfl) rfl rfl) sa_nil rfl) rfl rfl rfl rfl))) sss_nil) (sss_cons (ss_if (st_cmp (o2_eq2 (u64 hr)) (se_var (i := 0) rfl (visB_ok rfl) rfl rfl) se_int rfl) (sss_one (ss_ret (se_errE EA 3 (by decide) rfl (by decide +kernel) hr (sa_cons (se_var (i := 1) rfl (visB_ok rfl) rfl rfl) sa_nil rfl) rfl rfl rfl rfl))) sss_nil) (sss_cons (ss_if (st_cmp (o2_eq2 (u64 hr)) (se_var (i := 0) rfl (visB_ok rfl) rfl rfl) se_int rfl) (sss_one (ss_ret (se_errE EA 4 (by decide) rfl (by decide +kernel) hr (sa_cons (se_var (i := 1) rfl (visB_ok rfl) rfl rfl) sa_nil rfl) rfl rfl rfl rfl))) sss_nil) (sss_cons (ss_if (st_cmp (o2_eq2 (u64 hr)) (se_var (i := 0) rfl (visB_ok rfl) rfl rfl) se_int rfl) (sss_one (ss_ret (se_errE EA 5 (by decide) rfl (by decide +kernel) hr (sa_cons (se_var (i := 1) rfl (visB_ok rfl) rfl rfl) sa_nil rfl) rfl rfl rfl rfl))) sss_nil) (sss_cons (ss_if (st_cmp (o2_eq2 (u64 hr)) (se_var (i := 0) rfl (visB_ok rfl) rfl rfl) se_int rfl) (sss_one (ss_ret (se_errE EA 6 (by decide) rfl (by decide +kernel) hr (sa_cons (se_var (i := 1) rfl (visB_ok rfl) rfl rfl) sa_nil rfl) rfl rfl rfl rfl))) sss_nil) (sss_one (ss_ret (se_if (st_cmp (o2_eq2 (u64 hr)) (se_var (i := 0) rfl (visB_ok rfl) rfl rfl) se_int rfl) (se_errE EA 7 (by decide) rfl (by decide +kernel) hr (sa_cons (se_var (i := 1) rfl (visB_ok rfl) rfl rfl) sa_nil rfl) rfl rfl rfl rfl) (se_errE EA 8 (by decide) rfl (by decide +kernel) hr (sa_cons (se_var (i := 1) rfl (visB_ok rfl) rfl rfl) sa_nil rfl) rfl rfl rfl rfl)))))))))))
theorem ss__law_named (EA : ErrAll P K mg CA) (cdv : Value) (A : Around) (outer : List Env) (s : Shared) (H : Hp) (EE : XK) (hr : Room k (A.deeper (envOfC "_law_named" (defScope s__law_named) s.heap.objs.size f cdv))) : SSs (bodyCx P w K mg base N__law_named "_law_named" (defScope s__law_named) f cdv A outer s H EE) (defBody s__law_named) (m__law_named CA Φ) :=
  (sss_cons (ss_if (st_cmp (o2_eq2 (u64 hr)) (se_var (i := 0) rfl (visB_ok rfl) rfl rfl) se_int rfl) (sss_one (ss_ret (se_errKE EA 0 (by decide) rfl (by decide +kernel) hr (se_var (i := 1) rfl (visB_ok rfl) rfl rfl) rfl rfl))) sss_nil) (sss_cons (ss_if (st_cmp (o2_eq2 (u64 hr)) (se_var (i := 0) rfl (visB_ok rfl) rfl rfl) se_int rfl) (sss_one (ss_ret (se_errKE EA 1 (by decide) rfl (by decide +kernel) hr (se_var (i := 1) rfl (visB_ok rfl) rfl rfl) rfl rfl))) sss_nil) (sss_cons (ss_if (st_cmp (o2_eq2 (u64 hr)) (se_var (i := 0) rfl (visB_ok rfl) rfl rfl) se_int rfl) (sss_one (ss_ret (se_errKE EA 2 (by decide) rfl (by decide +kernel) hr (se_var (i := 1) rfl (visB_ok rfl) rfl rfl) rfl rfl))) sss_nil) (sss_cons (ss_if (st_cmp (o2_eq2 (u64 hr)) (se_var (i := 0) rfl (visB_ok rfl) rfl rfl) se_int rfl) (sss_one (ss_ret (se_errKE EA 3 (by decide) rfl (by decide +kernel) hr (se_var (i := 1) rfl (visB_ok rfl) rfl rfl) rfl rfl))) sss_nil) (sss_cons (ss_if (st_cmp (o2_eq2 (u64 hr)) (se_var (i := 0) rfl (visB_ok rfl) rfl rfl) se_int rfl) (sss_one (ss_ret (se_errKE EA 4 (by decide) rfl (by decide +kernel) hr (se_var (i := 1) rfl (visB_ok rfl) rfl rfl) rfl rfl))) sss_nil) (sss_cons (ss_if (st_cmp (o2_eq2 (u64 hr)) (se_var (i := 0) rfl (visB_ok rfl) rfl rfl) se_int rfl) (sss_one (ss_ret (se_errKE EA 5 (by decide) rfl (by decide +kernel) hr (se_var (i := 1) rfl (visB_ok rfl) rfl rfl) rfl rfl))) sss_nil) (sss_cons (ss_if (st_cmp (o2_eq2 (u64 hr)) (se_var (i := 0) rfl (visB_ok rfl) rfl rfl) se_int rfl) (sss_one (ss_ret (se_errKE EA 6 (by decide) rfl (by decide +kernel) hr (se_var (i := 1) rfl (visB_ok rfl) rfl rfl) rfl rfl))) sss_nil) (sss_one (ss_ret (se_if (st_cmp (o2_eq2 (u64 hr)) (se_var (i := 0) rfl (visB_ok rfl) rfl rfl) se_int rfl) (se_errKE EA 7 (by decide) rfl (by decide +kernel) hr (se_var (i := 1) rfl (visB_ok rfl) rfl rfl) rfl rfl) (se_errKE EA 8 (by decide) rfl (by decide +kernel) hr (se_var (i := 1) rfl (visB_ok rfl) rfl rfl) rfl rfl)))))))))))
theorem ss__law_kept (EA : ErrAll P K mg CA) (cdv : Value) (A : Around) (outer : List Env) (s : Shared) (H : Hp) (EE : XK) (hr : Room k (A.deeper (envOfC "_law_kept" (defScope s__law_kept) s.heap.objs.size f cdv))) : SSs (bodyCx P w K mg base N__law_kept "_law_kept" (defScope s__law_kept) f cdv A outer s H EE) (defBody s__law_kept) (m__law_kept CA Φ) :=
  (sss_cons (ss_if (st_cmp (o2_in (u65 hr)) (se_var (i := 0) rfl (visB_ok rfl) rfl rfl) (se_tup (sa_cons se_int (sa_cons se_int (sa_cons se_int sa_nil rfl) rfl) rfl)) rfl) (sss_one (ss_ret (se_xat EA.tab (se_var (i := 1) rfl (visB_ok rfl) rfl rfl) rfl))) sss_nil) (sss_cons (ss_if (st_cmp (o2_eq2 (u64 hr)) (se_var (i := 0) rfl (visB_ok rfl) rfl rfl) se_int rfl) (sss_one (ss_ret (se_xat EA.tab (se_var (i := 1) rfl (visB_ok rfl) rfl rfl) rfl))) sss_nil) (sss_cons (ss_if (st_cmp (o2_eq2 (u64 hr)) (se_var (i := 0) rfl (visB_ok rfl) rfl rfl) se_int rfl) (sss_one (ss_ret (se_xat EA.tab (se_var (i := 1) rfl (visB_ok rfl) rfl rfl) rfl))) sss_nil) (sss_cons (ss_if (st_cmp (o2_eq2 (u64 hr)) (se_var (i := 0) rfl (visB_ok rfl) rfl rfl) se_int rfl) (sss_one (ss_ret (se_xat EA.tab (se_var (i := 1) rfl (visB_ok rfl) rfl rfl) rfl))) sss_nil) (sss_cons (ss_if (st_cmp (o2_eq2 (u64 hr)) (se_var (i := 0) rfl (visB_ok rfl) rfl rfl) se_int rfl) (sss_one (ss_ret (se_xat EA.tab (se_var (i := 1) rfl (visB_ok rfl) rfl rfl) rfl))) sss_nil) (sss_one (ss_ret (se_if (st_cmp (o2_eq2 (u64 hr)) (se_var (i := 0) rfl (visB_ok rfl) rfl rfl) se_int rfl) (se_xat EA.tab (se_var (i := 1) rfl (visB_ok rfl) rfl rfl) rfl) (se_xat EA.tab (se_var (i := 1) rfl (visB_ok rfl) rfl rfl) rfl)))))))))
theorem ss__law_thrown (EA : ErrAll P K mg CA) (cdv : Value) (A : Around) (outer : List Env) (s : Shared) (H : Hp) (EE : XK) (hr : Room k (A.deeper (envOfC "_law_thrown" (defScope s__law_thrown) s.heap.objs.size f cdv))) : SSs (bodyCx P w K mg base N__law_thrown "_law_thrown" (defScope s__law_thrown) f cdv A outer s H EE) (defBody s__law_thrown) (m__law_thrown CA Φ) :=
  (sss_cons (ss_if (st_cmp (o2_eq2 (u64 hr)) (se_var (i := 0) rfl (visB_ok rfl) rfl rfl) se_int rfl) (sss_one (ss_raiseE EA 0 (by decide) rfl rfl hr (sa_cons (se_var (i := 1) rfl (visB_ok rfl) rfl rfl) sa_nil rfl) rfl rfl rfl rfl)) sss_nil) (sss_cons (ss_if (st_cmp (o2_eq2 (u64 hr)) (se_var (i := 0) rfl (visB_ok rfl) rfl rfl) se_int rfl) (sss_one (ss_raiseE EA 1 (by decide) rfl rfl hr (sa_cons (se_var (i := 1) rfl (visB_ok rfl) rfl rfl) sa_nil rfl) rfl rfl rfl rfl)) sss_nil) (sss_cons (ss_if (st_cmp (o2_eq2 (u64 hr)) (se_var (i := 0) rfl (visB_ok rfl) rfl rfl) se_int rfl) (sss_one (ss_raiseE EA 2 (by decide) rfl rfl hr (sa_cons (se_var (i := 1) rfl (visB_ok rfl) rfl rfl) sa_nil rfl) rfl rfl rfl rfl)) sss_nil) (sss_cons (ss_if (st_cmp (o2_eq2 (u64 hr)) (se_var (i := 0) rfl (visB_ok rfl) rfl rfl) se_int rfl) (sss_one (ss_raiseE EA 3 (by decide) rfl rfl hr (sa_cons (se_var (i := 1) rfl (visB_ok rfl) rfl rfl) sa_nil rfl) rfl rfl rfl rfl)) sss_nil) (sss_cons (ss_if (st_cmp (o2_eq2 (u64 hr)) (se_var (i := 0) rfl (visB_ok rfl) rfl rfl) se_int rfl) (sss_one (ss_raiseE EA 4 (by decide) rfl rfl hr (sa_cons (se_var (i := 1) rfl (visB_ok rfl) rfl rfl) sa_nil rfl) rfl rfl rfl rfl)) sss_nil) (sss_cons (ss_if (st_cmp (o2_eq2 (u64 hr)) (se_var (i := 0) rfl (visB_ok rfl) rfl rfl) se_int rfl) (sss_one (ss_raiseE EA 5 (by decide) rfl rfl hr (sa_cons (se_var (i := 1) rfl (visB_ok rfl) rfl rfl) sa_nil rfl) rfl rfl rfl rfl)) sss_nil) (sss_cons (ss_if (st_cmp (o2_eq2 (u64 hr)) (se_var (i := 0) rfl (visB_ok rfl) rfl rfl) se_int rfl) (sss_one (ss_raiseE EA 6 (by decide) rfl rfl hr (sa_cons (se_var (i := 1) rfl (visB_ok rfl) rfl rfl) sa_nil rfl) rfl rfl rfl rfl)) sss_nil) (sss_cons (ss_if (st_cmp (o2_eq2 (u64 hr)) (se_var (i := 0) rfl (visB_ok rfl) rfl rfl) se_int rfl) (sss_one (ss_raiseE EA 7 (by decide) rfl rfl hr (sa_cons (se_var (i := 1) rfl (visB_ok rfl) rfl rfl) sa_nil rfl) rfl rfl rfl rfl)) sss_nil) (sss_one (ss_raiseE EA 8 (by decide) rfl rfl hr (sa_cons (se_var (i := 1) rfl (visB_ok rfl) rfl rfl) sa_nil rfl) rfl rfl rfl rfl))))))))))
theorem ss__law_caught (EA : ErrAll P K mg CA) (h__law_thrown : DefOk P w K mg base k "_law_thrown" 2 (Φ 9)) (f_ValueError : mg "ValueError" = none) (f_isinstance : mg "isinstance" = none) (cdv : Value) (A : Around) (outer : List Env) (s : Shared) (H : Hp) (EE : XK) (hr : Room k (A.deeper (envOfC "_law_caught" (defScope s__law_caught) s.heap.objs.size f cdv))) : SSs (bodyCx P w K mg base N__law_caught "_law_caught" (defScope s__law_caught) f cdv A outer s H EE) (defBody s__law_caught) (m__law_caught CA Φ) :=
  (sss_cons (ss_try (i := 2) rfl rfl (nmB_ok rfl) rfl rfl (EA.names 9 (by decide) rfl rfl rfl) (EA.hmt (by decide)) (fun _ _ => (sss_one (ss_expr (se_call h__law_thrown hr rfl (sa_cons (se_var (i := 0) rfl (visB_ok rfl) rfl rfl) (sa_cons (se_var (i := 1) rfl (visB_ok rfl) rfl rfl) sa_nil rfl) rfl) rfl rfl rfl) rfl))) (fun a oe C dd pn hz hf => (sss_cons (ss_set (nmB_ok rfl) rfl (locB_ok rfl) (se_lst (sa_cons (se_callB (cd_isiX EA.ist hz hf) rfl f_isinstance (by decide +kernel) (sa_cons (se_var (i := 2) rfl (visB_ok rfl) rfl rfl) (sa_cons (se_clsE EA 0 (by decide) rfl rfl rfl) sa_nil rfl) rfl) (by decide) rfl rfl rfl) (sa_cons (se_callB (cd_isiX EA.ist hz hf) rfl f_isinstance (by decide +kernel) (sa_cons (se_var (i := 2) rfl (visB_ok rfl) rfl rfl) (sa_cons (se_clsE EA 1 (by decide) rfl rfl rfl) sa_nil rfl) rfl) (by decide) rfl rfl rfl) (sa_cons (se_callB (cd_isiX EA.ist hz hf) rfl f_isinstance (by decide +kernel) (sa_cons (se_var (i := 2) rfl (visB_ok rfl) rfl rfl) (sa_cons (se_clsE EA 2 (by decide) rfl rfl rfl) sa_nil rfl) rfl) (by decide) rfl rfl rfl) (sa_cons (se_callB (cd_isiX EA.ist hz hf) rfl f_isinstance (by decide +kernel) (sa_cons (se_var (i := 2) rfl (visB_ok rfl) rfl rfl) (sa_cons (se_clsE EA 3 (by decide) rfl rfl rfl) sa_nil rfl) rfl) (by decide) rfl rfl rfl) sa_nil rfl) rfl) rfl) rfl)) rfl (.inl rfl)) (sss_cons (ss_set (nmB_ok rfl) rfl (locB_ok rfl) (se_op o2_add (se_var (i := 3) rfl (visB_ok rfl) rfl rfl) (se_lst (sa_cons (se_callB (cd_isiX EA.ist hz hf) rfl f_isinstance (by decide +kernel) (sa_cons (se_var (i := 2) rfl (visB_ok rfl) rfl rfl) (sa_cons (se_clsE EA 4 (by decide) rfl rfl rfl) sa_nil rfl) rfl) (by decide) rfl rfl rfl) (sa_cons (se_callB (cd_isiX EA.ist hz hf) rfl f_isinstance (by decide +kernel) (sa_cons (se_var (i := 2) rfl (visB_ok rfl) rfl rfl) (sa_cons (se_clsE EA 5 (by decide) rfl rfl rfl) sa_nil rfl) rfl) (by decide) rfl rfl rfl) (sa_cons (se_callB (cd_isiX EA.ist hz hf) rfl f_isinstance (by decide +kernel) (sa_cons (se_var (i := 2) rfl (visB_ok rfl) rfl rfl) (sa_cons (se_clsE EA 6 (by decide) rfl rfl rfl) sa_nil rfl) rfl) (by decide) rfl rfl rfl) (sa_cons (se_callB (cd_isiX EA.ist hz hf) rfl f_isinstance (by decide +kernel) (sa_cons (se_var (i := 2) rfl (visB_ok rfl) rfl rfl) (sa_cons (se_clsE EA 7 (by decide) rfl rfl rfl) sa_nil rfl) rfl) (by decide) rfl rfl rfl) sa_nil rfl) rfl) rfl) rfl))) rfl (.inl rfl)) (sss_one (ss_ret (se_op o2_add (se_op o2_add (se_lst (sa_cons (se_callB (cd_isiX EA.ist hz hf) rfl f_isinstance (by decide +kernel) (sa_cons (se_var (i := 2) rfl (visB_ok rfl) rfl rfl) (sa_cons (se_ty rfl f_ValueError (by decide +kernel) (by decide) rfl) sa_nil rfl) rfl) (by decide) rfl rfl rfl) sa_nil rfl)) (se_var (i := 3) rfl (visB_ok rfl) rfl rfl)) (se_lst (sa_cons (se_callB (cd_isiX EA.ist hz hf) rfl f_isinstance (by decide +kernel) (sa_cons (se_var (i := 2) rfl (visB_ok rfl) rfl rfl) (sa_cons (se_clsE EA 8 (by decide) rfl rfl rfl) sa_nil rfl) rfl) (by decide) rfl rfl rfl) sa_nil rfl))))))))) (sss_one (ss_ret (se_lst sa_nil))))
theorem ss__law_like (EA : ErrAll P K mg CA) (f_bool : mg "bool" = none) (f_int : mg "int" = none) (f_isinstance : mg "isinstance" = none) (cdv : Value) (A : Around) (outer : List Env) (s : Shared) (H : Hp) (EE : XK) (hr : Room k (A.deeper (envOfC "_law_like" (defScope s__law_like) s.heap.objs.size f cdv))) : SSs (bodyCx P w K mg base N__law_like "_law_like" (defScope s__law_like) f cdv A outer s H EE) (defBody s__law_like) (m__law_like CA Φ) :=
  (sss_one (ss_ret (se_and (se_cmp (o2_eq2 (u64 hr)) (se_var (i := 0) rfl (visB_ok rfl) rfl rfl) (se_var (i := 1) rfl (visB_ok rfl) rfl rfl) rfl) (se_and (se_cmp (o2_eq2 (u64 hr)) (se_callB (cd_isi EA.ist) rfl f_isinstance (by decide +kernel) (sa_cons (se_var (i := 0) rfl (visB_ok rfl) rfl rfl) (sa_cons (se_ty rfl f_bool (by decide +kernel) (by decide) rfl) sa_nil rfl) rfl) (by decide) rfl rfl rfl) (se_callB (cd_isi EA.ist) rfl f_isinstance (by decide +kernel) (sa_cons (se_var (i := 1) rfl (visB_ok rfl) rfl rfl) (sa_cons (se_ty rfl f_bool (by decide +kernel) (by decide) rfl) sa_nil rfl) rfl) (by decide) rfl rfl rfl) rfl) (se_one (se_cmp (o2_eq2 (u64 hr)) (se_callB (cd_isi EA.ist) rfl f_isinstance (by decide +kernel) (sa_cons (se_var (i := 0) rfl (visB_ok rfl) rfl rfl) (sa_cons (se_ty rfl f_int (by decide +kernel) (by decide) rfl) sa_nil rfl) rfl) (by decide) rfl rfl rfl) (se_callB (cd_isi EA.ist) rfl f_isinstance (by decide +kernel) (sa_cons (se_var (i := 1) rfl (visB_ok rfl) rfl rfl) (sa_cons (se_ty rfl f_int (by decide +kernel) (by decide) rfl) sa_nil rfl) rfl) (by decide) rfl rfl rfl) rfl))))))
theorem ss_law (EA : ErrAll P K mg CA) (h__law_begin : DefOk P w K mg base k "_law_begin" 1 (Φ 0)) (h__law_caught : DefOk P w K mg base k "_law_caught" 2 (Φ 10)) (h__law_kept : DefOk P w K mg base k "_law_kept" 2 (Φ 8)) (h__law_like : DefOk P w K mg base k "_law_like" 2 (Φ 11)) (h__law_made : DefOk P w K mg base k "_law_made" 2 (Φ 6)) (h__law_named : DefOk P w K mg base k "_law_named" 2 (Φ 7)) (h__law_thing : DefOk P w K mg base k "_law_thing" 1 (Φ 5)) (f_ValueError : mg "ValueError" = none) (f_isinstance : mg "isinstance" = none) (f_range : mg "range" = none) (cdv : Value) (A : Around) (outer : List Env) (s : Shared) (H : Hp) (EE : XK) (hr : Room k (A.deeper (envOfC "law" (defScope s_law) s.heap.objs.size f cdv))) : SSs (bodyCx P w K mg base N_law "law" (defScope s_law) f cdv A outer s H EE) (defBody s_law) (m_law CA Φ) :=
  (sss_cons (ss_set (nmB_ok rfl) rfl (locB_ok rfl) (se_call h__law_begin hr rfl (sa_cons (se_var (i := 0) rfl (visB_ok rfl) rfl rfl) sa_nil rfl) rfl rfl rfl) rfl (.inl rfl)) (sss_cons (ss_for (passes_of rfl) rfl (si_rng rfl f_range (sa_cons se_int sa_nil rfl) rfl) (sg_name (nmB_ok rfl) rfl (locB_ok rfl) (.inl rfl)) (sss_one (ss_for (passes_of rfl) rfl (si_rng rfl f_range (sa_cons se_int sa_nil rfl) rfl) (sg_name (nmB_ok rfl) rfl (locB_ok rfl) (.inl rfl)) (sss_cons (ss_par (nmB_ok rfl) rfl rfl (fun _ h => ps_par rfl (nmB_ok rfl) rfl rfl (by decide) rfl rfl h rfl rfl) (sa_cons (se_call h__law_thing hr rfl (sa_cons (se_var (i := 1) rfl (visB_ok rfl) rfl rfl) sa_nil rfl) rfl rfl rfl) (sa_cons (se_call h__law_thing hr rfl (sa_cons (se_var (i := 1) rfl (visB_ok rfl) rfl rfl) sa_nil rfl) rfl rfl rfl) sa_nil rfl) rfl)) (sss_cons (ss_par (nmB_ok rfl) rfl rfl (fun _ h => ps_par rfl (nmB_ok rfl) rfl rfl (by decide) rfl rfl h rfl rfl) (sa_cons (se_call h__law_made hr rfl (sa_cons (se_var (i := 3) rfl (visB_ok rfl) rfl rfl) (sa_cons (se_var (i := 4) rfl (visB_ok rfl) rfl rfl) sa_nil rfl) rfl) rfl rfl rfl) (sa_cons (se_call h__law_named hr rfl (sa_cons (se_var (i := 3) rfl (visB_ok rfl) rfl rfl) (sa_cons (se_var (i := 5) rfl (visB_ok rfl) rfl rfl) sa_nil rfl) rfl) rfl rfl rfl) sa_nil rfl) rfl)) (sss_cons (ss_if (SW.st (sw_or (st_not (st_val (se_call h__law_like hr rfl (sa_cons (se_call h__law_kept hr rfl (sa_cons (se_var (i := 3) rfl (visB_ok rfl) rfl rfl) (sa_cons (se_var (i := 6) rfl (visB_ok rfl) rfl rfl) sa_nil rfl) rfl) rfl rfl rfl) (sa_cons (se_var (i := 4) rfl (visB_ok rfl) rfl rfl) sa_nil rfl) rfl) rfl rfl rfl) (fun _ => rfl))) (sw_or1 (st_not (st_val (se_call h__law_like hr rfl (sa_cons (se_call h__law_kept hr rfl (sa_cons (se_var (i := 3) rfl (visB_ok rfl) rfl rfl) (sa_cons (se_var (i := 7) rfl (visB_ok rfl) rfl rfl) sa_nil rfl) rfl) rfl rfl rfl) (sa_cons (se_var (i := 5) rfl (visB_ok rfl) rfl rfl) sa_nil rfl) rfl) rfl rfl rfl) (fun _ => rfl)))))) (sss_one (ss_ret se_bl)) sss_nil) (sss_cons (ss_for (passes_of rfl) rfl (si_seq (se_tup (sa_cons (se_var (i := 6) rfl (visB_ok rfl) rfl rfl) (sa_cons (se_var (i := 7) rfl (visB_ok rfl) rfl rfl) sa_nil rfl) rfl))) (sg_name (nmB_ok rfl) rfl (locB_ok rfl) (.inl rfl)) (sss_one (ss_if (SW.st (sw_or (st_not (st_val (se_callB (cd_isi EA.ist) rfl f_isinstance (by decide +kernel) (sa_cons (se_var (i := 8) rfl (visB_ok rfl) rfl rfl) (sa_cons (se_clsE EA 9 (by decide) rfl rfl rfl) sa_nil rfl) rfl) (by decide) rfl rfl rfl) (fun _ => rfl))) (sw_or1 (st_not (st_val (se_callB (cd_isi EA.ist) rfl f_isinstance (by decide +kernel) (sa_cons (se_var (i := 8) rfl (visB_ok rfl) rfl rfl) (sa_cons (se_ty rfl f_ValueError (by decide +kernel) (by decide) rfl) sa_nil rfl) rfl) (by decide) rfl rfl rfl) (fun _ => rfl)))))) (sss_one (ss_ret se_bl)) sss_nil)) (fun _ => rfl)) (sss_cons (ss_if (st_cmp (o2_ne (u64 hr)) (se_call h__law_caught hr rfl (sa_cons (se_var (i := 3) rfl (visB_ok rfl) rfl rfl) (sa_cons (se_var (i := 4) rfl (visB_ok rfl) rfl rfl) sa_nil rfl) rfl) rfl rfl rfl) (se_op o2_add (se_lst (sa_cons se_bl sa_nil rfl)) (se_comp (own := [("at", 9)]) (p := (.one 9)) rfl (nmB_ok rfl) (si_rng rfl f_range (sa_cons se_int sa_nil rfl) rfl) (blkB_ok (by kernel_rfl)) (by decide) (fun _ _ _ _ _ => pg_one (nmB_ok rfl) rfl (locB_ok rfl) (.inr rfl)) (fun _ _ _ _ _ => sts_nil) (fun _ _ _ _ _ => (se_cmp (o2_eq2 (u64 hr)) (se_var (i := 9) rfl (visB_ok rfl) rfl rfl) (se_var (i := 3) rfl (visB_ok rfl) rfl rfl) rfl)) (fun _ => rfl))) rfl) (sss_one (ss_ret se_bl)) sss_nil) (sss_one (ss_if (st_not (st_val (se_call h__law_like hr rfl (sa_cons (se_call h__law_kept hr rfl (sa_cons (se_var (i := 3) rfl (visB_ok rfl) rfl rfl) (sa_cons (se_var (i := 6) rfl (visB_ok rfl) rfl rfl) sa_nil rfl) rfl) rfl rfl rfl) (sa_cons (se_var (i := 4) rfl (visB_ok rfl) rfl rfl) sa_nil rfl) rfl) rfl rfl rfl) (fun _ => rfl))) (sss_one (ss_ret se_bl)) sss_nil))))))) (fun _ => rfl))) (fun _ => rfl)) (sss_one (ss_ret se_bl))))
end
def Bd (CA : Nat → Addr) (Φ : Nat → FMn) : Nat → FMn
  | 0 => runBody 1 1 (m__law_begin CA Φ)
  | 1 => runBody 6 2 (m__law_draw CA Φ)
  | 2 => runBody 2 2 (m__law_pick CA Φ)
  | 3 => runBody 4 1 (m__law_text CA Φ)
  | 4 => runBody 3 1 (m__law_number CA Φ)
  | 5 => runBody 2 1 (m__law_thing CA Φ)
  | 6 => runBody 2 2 (m__law_made CA Φ)
  | 7 => runBody 2 2 (m__law_named CA Φ)
  | 8 => runBody 2 2 (m__law_kept CA Φ)
  | 9 => runBody 2 2 (m__law_thrown CA Φ)
  | 10 => runBody 4 2 (m__law_caught CA Φ)
  | 11 => runBody 2 2 (m__law_like CA Φ)
  | 12 => runBody 10 1 (m_law CA Φ)
  | _ => fun _ _ => .stuck
def Lv (CA : Nat → Addr) : Nat → Nat → FMn
  | 0 => fun _ _ _ => .stuck
  | k + 1 => Bd CA (Lv CA k)
abbrev FnP (K : PySem.W.Frag) (x : Str) (st : Stmt) (fd : FuncData) : Prop := FunD K x x (defArgs st) (defBody st) (defScope st) [] [] (fAd K (x, none)) fd
theorem all_ok {P : Program} {w : World} {K : PySem.W.Frag} {mg : Str → Option Value} {base : Heap} {CA : Nat → Addr} (EA : ErrAll P K mg CA) (f_ValueError : mg "ValueError" = none) (f_abs : mg "abs" = none) (f_bool : mg "bool" = none) (f_int : mg "int" = none) (f_isinstance : mg "isinstance" = none) (f_len : mg "len" = none) (f_list : mg "list" = none) (f_range : mg "range" = none) (F__law_begin : ∃ fd, FnP K "_law_begin" s__law_begin fd) (F__law_draw : ∃ fd, FnP K "_law_draw" s__law_draw fd) (F__law_pick : ∃ fd, FnP K "_law_pick" s__law_pick fd) (F__law_text : ∃ fd, FnP K "_law_text" s__law_text fd) (F__law_number : ∃ fd, FnP K "_law_number" s__law_number fd) (F__law_thing : ∃ fd, FnP K "_law_thing" s__law_thing fd) (F__law_made : ∃ fd, FnP K "_law_made" s__law_made fd) (F__law_named : ∃ fd, FnP K "_law_named" s__law_named fd) (F__law_kept : ∃ fd, FnP K "_law_kept" s__law_kept fd) (F__law_thrown : ∃ fd, FnP K "_law_thrown" s__law_thrown fd) (F__law_caught : ∃ fd, FnP K "_law_caught" s__law_caught fd) (F__law_like : ∃ fd, FnP K "_law_like" s__law_like fd) (F_law : ∃ fd, FnP K "law" s_law fd) (a__law_begin : mg "_law_begin" = some (.ref (fAd K ("_law_begin", none)))) (a__law_draw : mg "_law_draw" = some (.ref (fAd K ("_law_draw", none)))) (a__law_pick : mg "_law_pick" = some (.ref (fAd K ("_law_pick", none)))) (a__law_text : mg "_law_text" = some (.ref (fAd K ("_law_text", none)))) (a__law_number : mg "_law_number" = some (.ref (fAd K ("_law_number", none)))) (a__law_thing : mg "_law_thing" = some (.ref (fAd K ("_law_thing", none)))) (a__law_made : mg "_law_made" = some (.ref (fAd K ("_law_made", none)))) (a__law_named : mg "_law_named" = some (.ref (fAd K ("_law_named", none)))) (a__law_kept : mg "_law_kept" = some (.ref (fAd K ("_law_kept", none)))) (a__law_thrown : mg "_law_thrown" = some (.ref (fAd K ("_law_thrown", none)))) (a__law_caught : mg "_law_caught" = some (.ref (fAd K ("_law_caught", none)))) (a__law_like : mg "_law_like" = some (.ref (fAd K ("_law_like", none)))) (a_law : mg "law" = some (.ref (fAd K ("law", none)))) : ∀ k, DefOk P w K mg base (k + 1) "_law_begin" 1 (Lv CA k 0) ∧ DefOk P w K mg base (k + 1) "_law_draw" 2 (Lv CA k 1) ∧ DefOk P w K mg base (k + 1) "_law_pick" 2 (Lv CA k 2) ∧ DefOk P w K mg base (k + 1) "_law_text" 1 (Lv CA k 3) ∧ DefOk P w K mg base (k + 1) "_law_number" 1 (Lv CA k 4) ∧ DefOk P w K mg base (k + 1) "_law_thing" 1 (Lv CA k 5) ∧ DefOk P w K mg base (k + 1) "_law_made" 2 (Lv CA k 6) ∧ DefOk P w K mg base (k + 1) "_law_named" 2 (Lv CA k 7) ∧ DefOk P w K mg base (k + 1) "_law_kept" 2 (Lv CA k 8) ∧ DefOk P w K mg base (k + 1) "_law_thrown" 2 (Lv CA k 9) ∧ DefOk P w K mg base (k + 1) "_law_caught" 2 (Lv CA k 10) ∧ DefOk P w K mg base (k + 1) "_law_like" 2 (Lv CA k 11) ∧ DefOk P w K mg base (k + 1) "law" 1 (Lv CA k 12) := by
  obtain ⟨d__law_begin, F__law_begin⟩ := F__law_begin
  have b__law_begin : Binds K d__law_begin ["script"] [] := F__law_begin.bindsN fun _ _ _ _ _ _ us hl => match us, hl with | [_], _ => rfl
  obtain ⟨d__law_draw, F__law_draw⟩ := F__law_draw
  have b__law_draw : Binds K d__law_draw ["spring", "many"] [] := F__law_draw.bindsN fun _ _ _ _ _ _ us hl => match us, hl with | [_, _], _ => rfl
  obtain ⟨d__law_pick, F__law_pick⟩ := F__law_pick
  have b__law_pick : Binds K d__law_pick ["spring", "some"] [] := F__law_pick.bindsN fun _ _ _ _ _ _ us hl => match us, hl with | [_, _], _ => rfl
  obtain ⟨d__law_text, F__law_text⟩ := F__law_text
  have b__law_text : Binds K d__law_text ["spring"] [] := F__law_text.bindsN fun _ _ _ _ _ _ us hl => match us, hl with | [_], _ => rfl
  obtain ⟨d__law_number, F__law_number⟩ := F__law_number
  have b__law_number : Binds K d__law_number ["spring"] [] := F__law_number.bindsN fun _ _ _ _ _ _ us hl => match us, hl with | [_], _ => rfl
  obtain ⟨d__law_thing, F__law_thing⟩ := F__law_thing
  have b__law_thing : Binds K d__law_thing ["spring"] [] := F__law_thing.bindsN fun _ _ _ _ _ _ us hl => match us, hl with | [_], _ => rfl
  obtain ⟨d__law_made, F__law_made⟩ := F__law_made
  have b__law_made : Binds K d__law_made ["which", "thing"] [] := F__law_made.bindsN fun _ _ _ _ _ _ us hl => match us, hl with | [_, _], _ => rfl
  obtain ⟨d__law_named, F__law_named⟩ := F__law_named
  have b__law_named : Binds K d__law_named ["which", "thing"] [] := F__law_named.bindsN fun _ _ _ _ _ _ us hl => match us, hl with | [_, _], _ => rfl
  obtain ⟨d__law_kept, F__law_kept⟩ := F__law_kept
  have b__law_kept : Binds K d__law_kept ["which", "error"] [] := F__law_kept.bindsN fun _ _ _ _ _ _ us hl => match us, hl with | [_, _], _ => rfl
  obtain ⟨d__law_thrown, F__law_thrown⟩ := F__law_thrown
  have b__law_thrown : Binds K d__law_thrown ["which", "thing"] [] := F__law_thrown.bindsN fun _ _ _ _ _ _ us hl => match us, hl with | [_, _], _ => rfl
  obtain ⟨d__law_caught, F__law_caught⟩ := F__law_caught
  have b__law_caught : Binds K d__law_caught ["which", "thing"] [] := F__law_caught.bindsN fun _ _ _ _ _ _ us hl => match us, hl with | [_, _], _ => rfl
  obtain ⟨d__law_like, F__law_like⟩ := F__law_like
  have b__law_like : Binds K d__law_like ["found", "due"] [] := F__law_like.bindsN fun _ _ _ _ _ _ us hl => match us, hl with | [_, _], _ => rfl
  obtain ⟨d_law, F_law⟩ := F_law
  have b_law : Binds K d_law ["script"] [] := F_law.bindsN fun _ _ _ _ _ _ us hl => match us, hl with | [_], _ => rfl
  intro k
  induction k with
  | zero => exact ⟨def0 F__law_begin sc__law_begin a__law_begin b__law_begin, def0 F__law_draw sc__law_draw a__law_draw b__law_draw, def0 F__law_pick sc__law_pick a__law_pick b__law_pick, def0 F__law_text sc__law_text a__law_text b__law_text, def0 F__law_number sc__law_number a__law_number b__law_number, def0 F__law_thing sc__law_thing a__law_thing b__law_thing, def0 F__law_made sc__law_made a__law_made b__law_made, def0 F__law_named sc__law_named a__law_named b__law_named, def0 F__law_kept sc__law_kept a__law_kept b__law_kept, def0 F__law_thrown sc__law_thrown a__law_thrown b__law_thrown, def0 F__law_caught sc__law_caught a__law_caught b__law_caught, def0 F__law_like sc__law_like a__law_like b__law_like, def0 F_law sc_law a_law b_law⟩
  | succ k ih =>
    obtain ⟨h__law_begin, h__law_draw, h__law_pick, h__law_text, h__law_number, h__law_thing, h__law_made, h__law_named, h__law_kept, h__law_thrown, h__law_caught, h__law_like, h_law⟩ := ih
    exact ⟨defS F__law_begin sc__law_begin a__law_begin b__law_begin (ss__law_begin EA f_list),
      defS F__law_draw sc__law_draw a__law_draw b__law_draw (ss__law_draw EA f_abs f_int f_len f_range),
      defS F__law_pick sc__law_pick a__law_pick b__law_pick (ss__law_pick EA h__law_draw f_len),
      defS F__law_text sc__law_text a__law_text b__law_text (ss__law_text EA h__law_draw h__law_pick f_range),
      defS F__law_number sc__law_number a__law_number b__law_number (ss__law_number EA h__law_draw h__law_pick f_int),
      defS F__law_thing sc__law_thing a__law_thing b__law_thing (ss__law_thing EA h__law_draw h__law_number h__law_pick h__law_text),
      defS F__law_made sc__law_made a__law_made b__law_made (ss__law_made EA),
      defS F__law_named sc__law_named a__law_named b__law_named (ss__law_named EA),
      defS F__law_kept sc__law_kept a__law_kept b__law_kept (ss__law_kept EA),
      defS F__law_thrown sc__law_thrown a__law_thrown b__law_thrown (ss__law_thrown EA),
      defS F__law_caught sc__law_caught a__law_caught b__law_caught (ss__law_caught EA h__law_thrown f_ValueError f_isinstance),
      defS F__law_like sc__law_like a__law_like b__law_like (ss__law_like EA f_bool f_int f_isinstance),
      defS F_law sc_law a_law b_law (ss_law EA h__law_begin h__law_caught h__law_kept h__law_like h__law_made h__law_named h__law_thing f_ValueError f_isinstance f_range)⟩
def d__law_begin : He.DefD := ⟨("_law_begin", none), "_law_begin", "_law_begin", defArgs s__law_begin, defBody s__law_begin, defScope s__law_begin, [], []⟩
def d__law_draw : He.DefD := ⟨("_law_draw", none), "_law_draw", "_law_draw", defArgs s__law_draw, defBody s__law_draw, defScope s__law_draw, [], []⟩
def d__law_pick : He.DefD := ⟨("_law_pick", none), "_law_pick", "_law_pick", defArgs s__law_pick, defBody s__law_pick, defScope s__law_pick, [], []⟩
def d__law_text : He.DefD := ⟨("_law_text", none), "_law_text", "_law_text", defArgs s__law_text, defBody s__law_text, defScope s__law_text, [], []⟩
def d__law_number : He.DefD := ⟨("_law_number", none), "_law_number", "_law_number", defArgs s__law_number, defBody s__law_number, defScope s__law_number, [], []⟩
def d__law_thing : He.DefD := ⟨("_law_thing", none), "_law_thing", "_law_thing", defArgs s__law_thing, defBody s__law_thing, defScope s__law_thing, [], []⟩
def d__law_made : He.DefD := ⟨("_law_made", none), "_law_made", "_law_made", defArgs s__law_made, defBody s__law_made, defScope s__law_made, [], []⟩
def d__law_named : He.DefD := ⟨("_law_named", none), "_law_named", "_law_named", defArgs s__law_named, defBody s__law_named, defScope s__law_named, [], []⟩
def d__law_kept : He.DefD := ⟨("_law_kept", none), "_law_kept", "_law_kept", defArgs s__law_kept, defBody s__law_kept, defScope s__law_kept, [], []⟩
def d__law_thrown : He.DefD := ⟨("_law_thrown", none), "_law_thrown", "_law_thrown", defArgs s__law_thrown, defBody s__law_thrown, defScope s__law_thrown, [], []⟩
def d__law_caught : He.DefD := ⟨("_law_caught", none), "_law_caught", "_law_caught", defArgs s__law_caught, defBody s__law_caught, defScope s__law_caught, [], []⟩
def d__law_like : He.DefD := ⟨("_law_like", none), "_law_like", "_law_like", defArgs s__law_like, defBody s__law_like, defScope s__law_like, [], []⟩
def d_law : He.DefD := ⟨("law", none), "law", "law", defArgs s_law, defBody s_law, defScope s_law, [], []⟩
def fn : List He.DefD := [d__law_begin, d__law_draw, d__law_pick, d__law_text, d__law_number, d__law_thing, d__law_made, d__law_named, d__law_kept, d__law_thrown, d__law_caught, d__law_like, d_law]
def fa : List He.Fa := [.glo "_law_begin", .glo "_law_draw", .glo "_law_pick", .glo "_law_text", .glo "_law_number", .glo "_law_thing", .glo "_law_made", .glo "_law_named", .glo "_law_kept", .glo "_law_thrown", .glo "_law_caught", .glo "_law_like", .glo "law", .free "ValueError", .free "abs", .free "bool", .free "int", .free "isinstance", .free "len", .free "list", .free "range"]
def err (i : Nat) : ErD := match top i with
  | .ClassDef c _ _ [.FunctionDef _ ⟨_, [⟨_, _, p1⟩, ⟨fl, _, p2⟩], _, _, _, _, _⟩ [.Expr (.Call (.Attribute (.Call (.Name _ a0) _ _ a1) _ a2) [.Name _ a3] _ a4) _, .Assign [.Attribute (.Name _ b1) _ b2] (.Name _ b3) b4] _ _ _ _ _ _ _] _ _ _ _ _ _ _ => ⟨c, fl, c ++ ".__init__", p1, p2, a0, a1, a2, a3, a4, b1, b2, b3, b4⟩
  | _ => ⟨"", "", "", ⟨0,0,0,0⟩, ⟨0,0,0,0⟩, ⟨0,0,0,0⟩, ⟨0,0,0,0⟩, ⟨0,0,0,0⟩, ⟨0,0,0,0⟩, ⟨0,0,0,0⟩, ⟨0,0,0,0⟩, ⟨0,0,0,0⟩, ⟨0,0,0,0⟩, ⟨0,0,0,0⟩⟩
def er : List ErD := [err 2, err 3, err 4, err 5, err 6, err 7, err 8, err 9, err 10]
abbrev prog : Program := PySem.Challenge.pw_promisedpost_k30_errors_made
abbrev RR : PySem.W.OpenRow := PySem.W.OpenLaw.row PySem.Challenge.rw_promisedpost_k30_errors_made
abbrev hk : PySem.W.Hook := hookM 6 prog fa fn er chkE
def ob (s : PySem.W.SharedT) : AlM := obsMG 6 prog fa fn er chkE (HandSHeadRun.getT s)
theorem ob_eq (s : PySem.W.SharedT) : ob s = hk.obs s.abs := obsMG_eq (HandSHeadRun.getT_eq s)
def lo0 : List Str := ["__name__", "PostError", "BadArgument", "NotPossible", "Stopped", "Unreadable", "BadPlan", "NoPlan", "BadText", "NothingBack", "TooMany", "_law_begin", "_law_draw", "_law_pick", "_law_text", "_law_number", "_law_thing", "_law_made", "_law_named", "_law_kept", "_law_thrown", "_law_caught", "_law_like"]
def lo : List Str := lo0
theorem run (w : World) : HandSHeadRun.RunEq RR (PySem.W.view RR.prog [24]) hk ob 20000 lo w := by
  intro os
  kernel_rfl
theorem facts {w : World} {K : PySem.W.Frag} {h : Heap} {mg : Str → Option Value} {f : Addr} (X : K.In h) (G : h.Ns mainGlobals mg) (hfa : mg ("law" : Str) = some (.ref f)) (c : SaysM prog fa fn er chkE K) (n : Nat) :
    ∃ CA : Nat → Addr, ErrAll prog K mg CA ∧ ∃ fd : FuncData, (∀ (s : Shared) (v : Value), BindsTo s fd ⟨[v], []⟩ [("script", v)]) ∧ ∀ base : Heap, K.In base → base.Ns mainGlobals mg → FnOk prog w K mg base (L2.CX prog w) (n + 2) f fd ["script"] (spOf 1 K mg (Lv CA (n + 1) 12)) := by
  have er9 : ∀ j, j < 9 → ∃ fI cc cda, EI.ErrTxt prog K mg (eN j) (fldOf (eN j)) (ga K (eN j)) fI cc cda ∧ XfC K (ga K (eN j)) ∧ ExI K (ga K (eN j)) := by
    intro j hj
    match j, hj with
    | 0, _ => exact ⟨_, _, _, c.e X G 0 (e := err 2) rfl EI.fld_name⟩
    | 1, _ => exact ⟨_, _, _, c.e X G 1 (e := err 3) rfl EI.fld_word⟩
    | 2, _ => exact ⟨_, _, _, c.e X G 2 (e := err 4) rfl EI.fld_place⟩
    | 3, _ => exact ⟨_, _, _, c.e X G 3 (e := err 5) rfl EI.fld_path⟩
    | 4, _ => exact ⟨_, _, _, c.e X G 4 (e := err 6) rfl EI.fld_name⟩
    | 5, _ => exact ⟨_, _, _, c.e X G 5 (e := err 7) rfl EI.fld_name⟩
    | 6, _ => exact ⟨_, _, _, c.e X G 6 (e := err 8) rfl EI.fld_line⟩
    | 7, _ => exact ⟨_, _, _, c.e X G 7 (e := err 9) rfl EI.fld_many⟩
    | 8, _ => exact ⟨_, _, _, c.e X G 8 (e := err 10) rfl EI.fld_limit⟩
  have EA := chkE_ok X G c.c er9
  refine ⟨_, EA, ?_⟩
  have F__law_begin := c.d.def_ 0 (d := d__law_begin) rfl
  have a__law_begin := He.glo_ok X G (c.d.fact 0 (f := .glo "_law_begin") rfl)
  have F__law_draw := c.d.def_ 1 (d := d__law_draw) rfl
  have a__law_draw := He.glo_ok X G (c.d.fact 1 (f := .glo "_law_draw") rfl)
  have F__law_pick := c.d.def_ 2 (d := d__law_pick) rfl
  have a__law_pick := He.glo_ok X G (c.d.fact 2 (f := .glo "_law_pick") rfl)
  have F__law_text := c.d.def_ 3 (d := d__law_text) rfl
  have a__law_text := He.glo_ok X G (c.d.fact 3 (f := .glo "_law_text") rfl)
  have F__law_number := c.d.def_ 4 (d := d__law_number) rfl
  have a__law_number := He.glo_ok X G (c.d.fact 4 (f := .glo "_law_number") rfl)
  have F__law_thing := c.d.def_ 5 (d := d__law_thing) rfl
  have a__law_thing := He.glo_ok X G (c.d.fact 5 (f := .glo "_law_thing") rfl)
  have F__law_made := c.d.def_ 6 (d := d__law_made) rfl
  have a__law_made := He.glo_ok X G (c.d.fact 6 (f := .glo "_law_made") rfl)
  have F__law_named := c.d.def_ 7 (d := d__law_named) rfl
  have a__law_named := He.glo_ok X G (c.d.fact 7 (f := .glo "_law_named") rfl)
  have F__law_kept := c.d.def_ 8 (d := d__law_kept) rfl
  have a__law_kept := He.glo_ok X G (c.d.fact 8 (f := .glo "_law_kept") rfl)
  have F__law_thrown := c.d.def_ 9 (d := d__law_thrown) rfl
  have a__law_thrown := He.glo_ok X G (c.d.fact 9 (f := .glo "_law_thrown") rfl)
  have F__law_caught := c.d.def_ 10 (d := d__law_caught) rfl
  have a__law_caught := He.glo_ok X G (c.d.fact 10 (f := .glo "_law_caught") rfl)
  have F__law_like := c.d.def_ 11 (d := d__law_like) rfl
  have a__law_like := He.glo_ok X G (c.d.fact 11 (f := .glo "_law_like") rfl)
  have F_law := c.d.def_ 12 (d := d_law) rfl
  have a_law := He.glo_ok X G (c.d.fact 12 (f := .glo "law") rfl)
  have f_ValueError := He.free_ok X G (c.d.fact 13 (f := .free "ValueError") rfl)
  have f_abs := He.free_ok X G (c.d.fact 14 (f := .free "abs") rfl)
  have f_bool := He.free_ok X G (c.d.fact 15 (f := .free "bool") rfl)
  have f_int := He.free_ok X G (c.d.fact 16 (f := .free "int") rfl)
  have f_isinstance := He.free_ok X G (c.d.fact 17 (f := .free "isinstance") rfl)
  have f_len := He.free_ok X G (c.d.fact 18 (f := .free "len") rfl)
  have f_list := He.free_ok X G (c.d.fact 19 (f := .free "list") rfl)
  have f_range := He.free_ok X G (c.d.fact 20 (f := .free "range") rfl)
  have e : f = fAd K ("law", none) := by have := hfa.symm.trans a_law; cases this; rfl
  subst e
  obtain ⟨fd, Fl⟩ := F_law
  have F_law : ∃ fd, FnP K "law" s_law fd := ⟨fd, Fl⟩
  refine ⟨fd, fun s v => FunD.bindsA (ps := ["script"]) Fl (fun _ _ _ _ _ _ us hl => match us, hl with | [_], _ => rfl) s [v] rfl, fun base kb hb => ?_⟩
  obtain ⟨h__law_begin, h__law_draw, h__law_pick, h__law_text, h__law_number, h__law_thing, h__law_made, h__law_named, h__law_kept, h__law_thrown, h__law_caught, h__law_like, h_law⟩ := all_ok (w := w) (base := base) EA f_ValueError f_abs f_bool f_int f_isinstance f_len f_list f_range F__law_begin F__law_draw F__law_pick F__law_text F__law_number F__law_thing F__law_made F__law_named F__law_kept F__law_thrown F__law_caught F__law_like F_law a__law_begin a__law_draw a__law_pick a__law_text a__law_number a__law_thing a__law_made a__law_named a__law_kept a__law_thrown a__law_caught a__law_like a_law n
  exact fn_ok Fl sc_law (ss_law EA h__law_begin h__law_caught h__law_kept h__law_like h__law_made h__law_named h__law_thing f_ValueError f_isinstance f_range)
end
end Mn.K30

set_option Elab.async false
set_option linter.all false
set_option maxRecDepth 100000
set_option maxHeartbeats 1000000
namespace Mn.K30
open PySem PySem.Spec PyProof.Rows L2 Mn
theorem draw_ok {CA : Nat → Addr} {Φ : Nat → FMn} {T : Hq} {p q : Nat} {b many : Int} (h : Spr T p q b) (hb : b < 2 ^ 40) (hm : 0 < many) (hm2 : many < 2 ^ 30) :
    (runBody 6 2 (m__law_draw CA Φ) [.obj p, .int many] T).sat fun d T' => ∃ n, d = .int n ∧ 0 ≤ n ∧ n < many ∧ Spr T' p q (b + 1) ∧ Frm p q T T' := by
  obtain ⟨a, c, cells, s⟩ := h
  refine body_wp rfl ?_
  unfold m__law_draw
  have l0 : startD 6 [.obj p, .int many] = [some (.obj p), some (.int many), none, none, none, none] := rfl
  rw [l0]
  have hb0 := s.hb
  refine seq_nx (sub_e (d := .int (b + 1)) (T1 := T) (o := .obj p) (k := .int 2) ?_ rfl rfl s.st2) ?_
  · simp only [mBin, mVar, mConst, Res.bind_ok, List.getElem?_cons_zero, s.ix, addD_int]
  have s1 := s.put (a' := a) (b' := b + 1) (c' := c) s.ha (by omega) s.hc s.hc2
  have f1 : Frm p q T (T.set p (.lst [.obj q, .int a, .int (b + 1), .int c])) := Frm.set1
  revert s1 f1
  generalize T.set p (.lst [.obj q, .int a, .int (b + 1), .int c]) = T1
  intro s1 f1
  refine seq_for (J := fun l T' => ∃ a c x y cs, l = [some (.obj p), some (.int many), x, y, none, none] ∧ Sp4 T' p q a (b + 1) c cs ∧ Frm p q T T') ?_ ?_
  · have hr : RgB (cells.length : Int) := rngB (by omega) (by have := s.hl; omega)
    simp only [for_wp, rng_wp, mCons, mCallB, mNil, mBin, mVar, mConst, wp_bind, wp_ok, List.getElem?_cons_zero, s1.ix, s1.len]
    refine ⟨_, rfl, hr, ?_⟩
    refine loop_wp (n := cells.length) (fun i => .int (0 + i)) (fun i l T' => ∃ a c x y, l = [some (.obj p), some (.int many), x, y, none, none] ∧ Sp4 T' p q a (b + 1) c (cells.drop i) ∧ Frm p q T T') ?_ ?_ ?_ _ 0 _ _ (by simp) ⟨a, c, none, none, rfl, s1, f1⟩
    · intro i l T' _
      rfl
    · rintro i l T' hi ⟨a, c, x, y, rfl, s2, f2⟩
      obtain ⟨z, rest, hcr⟩ : ∃ z rest, cells.drop i = z :: rest := by
        cases e : cells.drop i with
        | nil => have := List.drop_eq_nil_iff.mp e; omega
        | cons z rest => exact ⟨z, rest, rfl⟩
      have hrest : cells.drop (i + 1) = rest := by rw [← List.drop_drop, hcr]; rfl
      rw [hcr] at s2
      simp only [name_wp, List.set_cons_succ, List.set_cons_zero, seq_wp, if_wp, asB_wp, mBin, mVar, mConst, wp_bind, wp_ok, List.getElem?_cons_zero, List.getElem?_cons_succ, s2.ix, gtD_int, bl_ex, decide_eq_true_eq, decide_eq_false_iff_not, break_wp, next_wp]
      refine ⟨fun ha => ⟨_, _, _, _, _, rfl, s2, f2⟩, fun ha => ?_⟩
      simp only [set_wp, mMeth, mCons, mNil, mBin, mVar, mConst, wp_bind, wp_ok, List.getElem?_cons_zero, s2.ix, s2.ty, if_true, s2.popD]
      have s3 := s2.pop
      have f3 : Frm p q T (T'.set q (.lst (rest.map D.int))) := f2.trans Frm.set2
      revert s3 f3
      generalize T'.set q (.lst (rest.map D.int)) = T3
      intro s3 f3
      simp only [List.set_cons_succ, List.set_cons_zero, asg_wp, mBin, mVar, mConst, mCallB, mCons, mNil, wp_bind, wp_ok, List.getElem?_cons_zero, List.getElem?_cons_succ, s3.ix, mulD_r (show (-1000000000000000000 : Int) < 6971 by decide) (by decide), mulD_r (show (-1000000000000000000 : Int) < 31 by decide) (by decide), addD_int, intD_int, modD_ok (show (0 : Int) < 2147483563 by decide), sub_wp, s3.st3, Option.some.injEq, exists_eq_left']
      have s4 := s3.put (a' := a) (b' := b + 1) (c' := (c * 6971 + z * 31 + 7) % 2147483563) s3.ha s3.hb (Int.emod_nonneg _ (by decide)) (Int.emod_lt_of_pos _ (by decide))
      have f4 : Frm p q T (T3.set p (.lst [.obj q, .int a, .int (b + 1), .int ((c * 6971 + z * 31 + 7) % 2147483563)])) := f3.trans Frm.set1
      revert s4 f4
      generalize T3.set p (.lst [.obj q, .int a, .int (b + 1), .int ((c * 6971 + z * 31 + 7) % 2147483563)]) = T4
      generalize (c * 6971 + z * 31 + 7) % 2147483563 = c4
      intro s4 f4
      simp only [if_e_wp, asB_wp, mBin, mVar, mConst, mCallB, mCons, mNil, wp_bind, wp_ok, List.getElem?_cons_zero, List.getElem?_cons_succ, absD_int, powD_ok (show (0 : Int) ≤ 18 by decide) (show (18 : Int) ≤ 1000000 by decide) (show (10 : Int).natAbs < 2 ^ 64 by decide), geD_int, bl_ex, s4.st1, Option.some.injEq, exists_eq_left']
      rw [← hrest] at s4
      exact ⟨fun _ => ⟨_, _, _, _, rfl, s4.put (by split <;> omega) s4.hb s4.hc s4.hc2, f4.trans Frm.set1⟩, fun _ => ⟨_, _, _, _, rfl, s4.put (Int.le_refl 0) s4.hb s4.hc s4.hc2, f4.trans Frm.set1⟩⟩
    · rintro l T' ⟨a, c, x, y, rfl, s2, f2⟩
      exact ⟨a, c, x, y, _, rfl, s2, f2⟩
  · rintro l T' ⟨a, c, x, y, cs, rfl, s2, f2⟩
    refine seq_if (x := decide (0 < a)) (T1 := T') (asB_e ?_) (fun ha => ?_) (fun ha => ?_)
    · simp only [mBin, mVar, mConst, Res.bind_ok, List.getElem?_cons_zero, s2.ix, gtD_int]
    · refine seq_nx (set_e (d := .int (a % many)) (T1 := T') ?_) ?_
      · simp only [mBin, mVar, mConst, mCallB, mCons, mNil, Res.bind_ok, List.getElem?_cons_zero, List.getElem?_cons_succ, s2.ix, intD_int, modD_ok hm]
      refine seq_nx (sub_e (d := .int (a / many)) (T1 := T') (o := .obj p) (k := .int 1) ?_ rfl rfl s2.st1) ?_
      · simp only [mBin, mVar, mConst, Res.bind_ok, List.set_cons_succ, List.set_cons_zero, List.getElem?_cons_zero, List.getElem?_cons_succ, s2.ix, fdivD_ok hm (show many < 1073741824 by omega)]
      refine ret_e rfl ?_
      exact ⟨_, rfl, Int.emod_nonneg _ (by omega), Int.emod_lt_of_pos _ hm, ⟨_, _, _, s2.put (Int.ediv_nonneg s2.ha (by omega)) s2.hb s2.hc s2.hc2⟩, f2.trans Frm.set1⟩
    · have hc1 : (c + 6007 * (b + 1) + 90001).natAbs < 2 ^ 64 := by have := s2.hc; have := s2.hc2; omega
      refine seq_nx (set_e (d := .int ((c + 6007 * (b + 1) + 90001) ^ (3 : Int).toNat % 2147483629)) (T1 := T') ?_) ?_
      · simp only [mBin, mVar, mConst, mCallB, mCons, mNil, Res.bind_ok, List.getElem?_cons_zero, s2.ix, intD_int, addD_int, mulD_l (show (-1000000000000000000 : Int) < 6007 by decide) (by decide), powD_ok (show (0 : Int) ≤ 3 by decide) (show (3 : Int) ≤ 1000000 by decide) hc1, modD_ok (show (0 : Int) < 2147483629 by decide)]
      have hm1 : 0 ≤ (c + 6007 * (b + 1) + 90001) ^ (3 : Int).toNat % 2147483629 := Int.emod_nonneg _ (by decide)
      have hm3 : (c + 6007 * (b + 1) + 90001) ^ (3 : Int).toNat % 2147483629 < 2147483629 := Int.emod_lt_of_pos _ (by decide)
      revert hm1 hm3
      generalize (c + 6007 * (b + 1) + 90001) ^ (3 : Int).toNat % 2147483629 = mx
      intro hm1 hm3
      have hc2 : (mx * 40009 + 20011 * (b + 1) + 17).natAbs < 2 ^ 64 := by omega
      refine ret_e (d := .int ((mx * 40009 + 20011 * (b + 1) + 17) ^ (3 : Int).toNat % 1000000007 % many)) (T1 := T') ?_ ?_
      · simp only [mBin, mVar, mConst, mCallB, mCons, mNil, Res.bind_ok, List.set_cons_succ, List.set_cons_zero, List.getElem?_cons_zero, List.getElem?_cons_succ, s2.ix, mulD_r (show (-1000000000000000000 : Int) < 40009 by decide) (by decide), mulD_l (show (-1000000000000000000 : Int) < 20011 by decide) (by decide), addD_int, powD_ok (show (0 : Int) ≤ 3 by decide) (show (3 : Int) ≤ 1000000 by decide) hc2, intD_int, modD_ok (show (0 : Int) < 1000000007 by decide), modD_ok hm]
      exact ⟨_, rfl, Int.emod_nonneg _ (by omega), Int.emod_lt_of_pos _ hm, ⟨_, _, _, s2⟩, f2⟩
end Mn.K30

set_option Elab.async false
set_option linter.all false
set_option maxRecDepth 100000
set_option maxHeartbeats 1000000
namespace Mn
open PySem PySem.Spec PyProof.Rows L2 Mn
theorem call1 {F : FMn} {a : EMn} {l : Lo} {T T1 : Hq} {d : D} (h : a l T = .ok d T1) : mCall 1 F (mCons a mNil) l T = F [d] T1 := by
  unfold mCall mCons mNil; rw [h]; rfl
theorem call2 {F : FMn} {a b : EMn} {l : Lo} {T T1 T2 : Hq} {d e : D} (h : a l T = .ok d T1) (h2 : b l T1 = .ok e T2) : mCall 2 F (mCons a (mCons b mNil)) l T = F [d, e] T2 := by
  unfold mCall mCons mNil; rw [h]; simp only [Res.bind_ok]; rw [h2]; rfl
theorem lst_e {m : LMn} {l : Lo} {T T1 : Hq} {xs : List D} (h : m l T = .ok xs T1) (hl : xs.length ≤ 1000000) : mLst m l T = .ok (.obj T1.length) (T1 ++ [.lst xs]) := by
  unfold mLst; rw [h]; simp only [Res.bind_ok]
  rw [if_pos (by rw [sizeLine_eq]; omega)]; rfl
theorem tup_e {m : LMn} {l : Lo} {T T1 : Hq} {xs : List D} (h : m l T = .ok xs T1) (hl : xs.length ≤ 1000000) : mTup m l T = .ok (.tup xs) T1 := by
  unfold mTup; rw [h]; simp only [Res.bind_ok]
  rw [if_pos (by rw [sizeLine_eq]; omega)]
theorem bin_e {g : D → D → Hq → Res D} {a b : EMn} {l : Lo} {T T1 T2 : Hq} {x y : D} (h : a l T = .ok x T1) (h2 : b l T1 = .ok y T2) : mBin g a b l T = g x y T2 := by
  unfold mBin; rw [h]; simp only [Res.bind_ok]; rw [h2]; rfl
theorem callB1 {g : List D → Hq → Res D} {a : EMn} {l : Lo} {T T1 : Hq} {d : D} (h : a l T = .ok d T1) : mCallB g (mCons a mNil) l T = g [d] T1 := by
  unfold mCallB mCons mNil; rw [h]; rfl
theorem callB2 {g : List D → Hq → Res D} {a b : EMn} {l : Lo} {T T1 T2 : Hq} {d e : D} (h : a l T = .ok d T1) (h2 : b l T1 = .ok e T2) : mCallB g (mCons a (mCons b mNil)) l T = g [d, e] T2 := by
  unfold mCallB mCons mNil; rw [h]; simp only [Res.bind_ok]; rw [h2]; rfl
theorem eqD2_int {i j : Int} {T : Hq} : eqD2 (.int i) (.int j) T = .ok (.bl (i == j)) T := by
  rw [eqD2_of (a := .int i) (b := .int j) rfl rfl rfl]; simp [PyData.eqv]
theorem lenStr {x : Str} {T : Hq} (h : x.length ≤ 1000000) : lenD [.str x] T = .ok (.int x.length) T := by
  simp only [lenD, lenDp]
  rw [if_pos (by rw [sizeLine_eq]; omega)]
theorem cons_e {a : EMn} {r : LMn} {l : Lo} {T T1 T2 : Hq} {d : D} {ds : List D} (h : a l T = .ok d T1) (h2 : r l T1 = .ok ds T2) : mCons a r l T = .ok (d :: ds) T2 := by
  unfold mCons; rw [h]; simp only [Res.bind_ok]; rw [h2]; rfl
theorem Res.sat.mono {α : Type} {r : Res α} {P P' : α → Hq → Prop} (h : r.sat P) (hp : ∀ a T, P a T → P' a T) : r.sat P' := Res.wp.mono h hp fun _ _ _ z => z
theorem ret_i {m : EMn} {l : Lo} {T : Hq} {P : D → Hq → Prop} {Q : SQ} (h : (m l T).sat P) (h2 : ∀ d T', P d T' → Q.rt d T') : (sRet m l T).wp Q := by
  obtain ⟨d, T', e, p⟩ := h.ok
  exact ret_e e (h2 d T' p)
theorem set_i {i : Nat} {m : EMn} {n : SMn} {l : Lo} {T : Hq} {P : D → Hq → Prop} {Q : SQ} (h : (m l T).sat P) (h2 : ∀ d T', P d T' → (n (l.set i (some d)) T').wp Q) : (sSeq (sSet i m) n l T).wp Q := by
  obtain ⟨d, T', e, p⟩ := h.ok
  exact seq_nx (set_e e) (h2 d T' p)
theorem rng_e {m : LMn} {l : Lo} {T T1 : Hq} {j : Int} (h : m l T = .ok [.int j] T1) (hj : RgB j) : iRng m l T = .ok (j.toNat, getR 0 j.toNat) T1 := by
  unfold iRng; rw [h]; simp only [Res.bind_ok]; exact if_pos hj
theorem mcomp_sat {own : List Nat} {it : IMn} {p : Pat} {cond : BMn} {elt : EMn} {l : Lo} {T T1 : Hq} {n : Nat} {g : Get} {Q : List D → Hq → Prop} (hi : it l T = .ok (n, g) T1) (hn : n ≤ 1000000) (iv : Nat → D) (I : Nat → List D → Hq → Prop) (h0 : I 0 [] T1)
    (hg : ∀ i ys T, I i ys T → g T i = some (if i < n then some (iv i) else none))
    (step : ∀ i ys T, i < n → I i ys T → ∃ l1, p.put (iv i) (wipeL l own) = some l1 ∧ (cond l1 T).sat fun b T1 => (b = true → (elt l1 T1).sat fun y T2 => I (i + 1) (ys ++ [y]) T2) ∧ (b = false → I (i + 1) ys T1))
    (fin : ∀ ys T, I n ys T → Q ys T) : (mComp own it p cond elt l T).sat fun d T' => ∃ zs T2, d = .obj T2.length ∧ T' = T2 ++ [.lst zs] ∧ Q zs T2 := by
  obtain ⟨zs, T2, e, q⟩ := (comp_wp iv I own hg step fin n 0 [] T1 (by simp) h0).ok
  unfold mComp mCompV
  rw [hi]
  simp only [Res.bind_ok]
  rw [if_pos (by rw [sizeLine_eq]; omega), e]
  exact ⟨zs, T2, rfl, rfl, q⟩
theorem meth_e {Ty : String} {g : D → List D → Hq → Res D} {o : EMn} {m : LMn} {l : Lo} {T T1 T2 : Hq} {d : D} {ds : List D} (h : o l T = .ok d T1) (ht : tyD Ty d T1 = true) (h2 : m l T1 = .ok ds T2) : mMeth Ty g o m l T = g d ds T2 := by
  unfold mMeth; rw [h]; simp only [Res.bind_ok]; rw [if_pos ht, h2]; rfl
/-- one of a written list -/
theorem pick_lit {F : FMn} (hP : PickL F) {m : LMn} {l : Lo} {T T1 : Hq} {p q : Nat} {b : Int} {xs : List D} (h0 : mVar 0 l T = .ok (.obj p) T) (e : m l T = .ok xs T1) (s : Spr T1 p q b) (f : Frm p q T T1) (hb : b < 2 ^ 40) (hl : 0 < xs.length) (hl2 : xs.length < 1000) :
    (mCall 2 F (mCons (mVar 0) (mCons (mLst m) mNil)) l T).sat fun d T' => d ∈ xs ∧ Spr T' p q (b + 1) ∧ Frm p q T1 T' := by
  rw [call2 h0 (lst_e e (by omega))]
  have hlt := s.lt
  refine (hP (T1 ++ [.lst xs]) p q T1.length b xs s.app hb (by omega) (by omega) app_new hl hl2).mono ?_
  rintro d T' ⟨h1, h2, h3⟩
  exact ⟨h1, h2, Frm.app.trans h3⟩
end Mn
namespace Mn.K30
open PySem PySem.Spec PyProof.Rows L2 Mn
variable {CA : Nat → Addr} {Φ : Nat → FMn}
theorem draw_s : DrawS (runBody 6 2 (m__law_draw CA Φ)) := fun T p q b many h hb hm hm2 => draw_ok h hb hm hm2
theorem pick_l (h1 : DrawS (Φ 1)) : PickL (runBody 2 2 (m__law_pick CA Φ)) := by
  intro T p q n b ds s hb np nq e h0 hl
  refine body_wp rfl ?_
  have l0 : startD 2 [.obj p, .obj n] = [some (.obj p), some (.obj n)] := rfl
  rw [l0]; unfold m__law_pick
  obtain ⟨d, T1, ee, i, rfl, hi0, hi1, s1, f1⟩ := (h1 T p q b ds.length s hb (by omega) (by omega)).ok
  have en : T1[n]? = some (.lst ds) := by rw [f1.at_ n (List.getElem?_eq_some_iff.mp e).1 np nq]; exact e
  obtain ⟨x, hx⟩ : ∃ x, atI ds i = some x := by rw [atI_nat hi0 hi1]; exact ⟨_, List.getElem?_eq_getElem (by omega)⟩
  have hmem : x ∈ ds := by rw [atI_nat hi0 hi1] at hx; exact List.mem_of_getElem? hx
  have e1 : mCall 2 (Φ 1) (mCons (mVar 0) (mCons (mCallB lenD (mCons (mVar 1) mNil)) mNil)) [some (.obj p), some (.obj n)] T = .ok (.int i) T1 := by
    rw [call2 (d := .obj p) (T1 := T) (e := .int ds.length) (T2 := T) rfl ?_]
    · exact ee
    · rw [callB1 (d := .obj n) (T1 := T) rfl]; simp only [lenD, lenDp, e]
  refine ret_e (d := x) (T1 := T1) ?_ ⟨hmem, s1, f1⟩
  rw [bin_e (x := .obj n) (T1 := T) rfl e1]
  simp only [ixD, ixDp, en, hx, ofR]
theorem pick_s (h1 : DrawS (Φ 1)) : PickS (runBody 2 2 (m__law_pick CA Φ)) := by
  intro T p q b x s hb h0 hl
  refine body_wp rfl ?_
  have l0 : startD 2 [.obj p, .str x] = [some (.obj p), some (.str x)] := rfl
  rw [l0]; unfold m__law_pick
  obtain ⟨d, T1, ee, i, rfl, hi0, hi1, s1, f1⟩ := (h1 T p q b x.length s hb (by omega) (by omega)).ok
  have hlen : x.cps.toList.length = x.length := by simp [Str.length]
  obtain ⟨c, hx⟩ : ∃ c, atI x.cps.toList i = some c := by rw [atI_nat hi0 (by rw [hlen]; exact hi1)]; exact ⟨_, List.getElem?_eq_getElem (by omega)⟩
  have e1 : mCall 2 (Φ 1) (mCons (mVar 0) (mCons (mCallB lenD (mCons (mVar 1) mNil)) mNil)) [some (.obj p), some (.str x)] T = .ok (.int i) T1 := by
    rw [call2 (d := .obj p) (T1 := T) (e := .int x.length) (T2 := T) rfl ?_]
    · exact ee
    · rw [callB1 (d := .str x) (T1 := T) rfl, lenStr (by omega)]
  refine ret_e (d := .str ⟨#[c]⟩) (T1 := T1) ?_ ⟨c, rfl, s1, f1⟩
  rw [bin_e (x := .str x) (T1 := T) rfl e1]
  simp only [ixD, ixDp]
  rw [if_pos (by rw [sizeLine_eq]; omega), hx]
  rfl
/-- a text -/
def TextS (F : FMn) : Prop := ∀ (T : Hq) (p q : Nat) (b : Int), Spr T p q b → b < 2 ^ 39 → (F [.obj p] T).sat fun d T' => ∃ x b', d = .str x ∧ Spr T' p q b' ∧ b' ≤ b + 20 ∧ Frm p q T T'
def NumS (F : FMn) : Prop := ∀ (T : Hq) (p q : Nat) (b : Int), Spr T p q b → b < 2 ^ 39 → (F [.obj p] T).sat fun d T' => ∃ i b', d = .int i ∧ Spr T' p q b' ∧ b' ≤ b + 20 ∧ Frm p q T T'
theorem number_s (h1 : DrawS (Φ 1)) (h2 : PickL (Φ 2)) : NumS (runBody 3 1 (m__law_number CA Φ)) := by
  intro T p q b s hb
  refine body_wp rfl ?_
  have l0 : startD 3 [.obj p] = [some (.obj p), none, none] := rfl
  rw [l0]; unfold m__law_number
  obtain ⟨_, T1, e1, way, rfl, hw0, hw1, s1, f1⟩ := (h1 T p q b 5 s (by omega) (by omega) (by omega)).ok
  obtain ⟨_, T2, e2, far, rfl, hf0, hf1, s2, f2⟩ := (h1 T1 p q (b + 1) 999983 s1 (by omega) (by omega) (by omega)).ok
  refine seq_nx (par_e (d1 := .int way) (d2 := .int (1 + far)) (T1 := T2) ?_) ?_
  · have a1 : mCall 2 (Φ 1) (mCons (mVar 0) (mCons (mConst (.int 5)) mNil)) [some (.obj p), none, none] T = .ok (.int way) T1 := by rw [call2 (d := .obj p) (T1 := T) rfl rfl]; exact e1
    have a2 : mCall 2 (Φ 1) (mCons (mVar 0) (mCons (mConst (.int 999983)) mNil)) [some (.obj p), none, none] T1 = .ok (.int far) T2 := by rw [call2 (d := .obj p) (T1 := T1) rfl rfl]; exact e2
    exact cons_e a1 (cons_e (by rw [bin_e (x := .int 1) (T1 := T1) rfl a2]; rfl) rfl)
  simp only [List.set_cons_succ, List.set_cons_zero]
  have f12 := f1.trans f2
  refine seq_if (x := decide (way < 2)) (T1 := T2) (asB_e (by rw [bin_e rfl rfl]; rfl)) (fun _ => ?_) (fun _ => ?_)
  · have hb1 : b + 1 + 1 < 2 ^ 40 := by omega
    have h0 : mVar 0 [some (.obj p), some (.int way), some (.int (1 + far))] T2 = .ok (.obj p) T2 := rfl
    refine ret_i (pick_lit h2 (T1 := T2) (p := p) (q := q) (xs := [.int 0, .int 1, .int (-1), .int 2, .int 10, .int (-10), .int 7]) h0 rfl s2 (Frm.refl _) hb1 (by decide) (by decide)) ?_
    rintro d T3 ⟨hd, s3, f3⟩
    have : ∃ i, d = .int i := by simp at hd; rcases hd with rfl | rfl | rfl | rfl | rfl | rfl | rfl <;> exact ⟨_, rfl⟩
    obtain ⟨i, rfl⟩ := this
    exact ⟨i, _, rfl, s3, by omega, f12.trans f3⟩
  refine seq_if (x := (way == 2)) (T1 := T2) (asB_e (by rw [bin_e rfl rfl]; exact eqD2_int)) (fun _ => ?_) (fun _ => ?_)
  · obtain ⟨_, T3, e3, sg, rfl, hs0, hs1, s3, f3⟩ := (h1 T2 p q (b + 1 + 1) 2 s2 (by omega) (by omega) (by omega)).ok
    have a3 : mCall 2 (Φ 1) (mCons (mVar 0) (mCons (mConst (.int 2)) mNil)) [some (.obj p), some (.int way), some (.int (1 + far))] T2 = .ok (.int sg) T3 := by rw [call2 (d := .obj p) (T1 := T2) rfl rfl]; exact e3
    have a4 : mBin mulD (mConst (.int 2)) (mCall 2 (Φ 1) (mCons (mVar 0) (mCons (mConst (.int 2)) mNil))) [some (.obj p), some (.int way), some (.int (1 + far))] T2 = .ok (.int (2 * sg)) T3 := by rw [bin_e (x := .int 2) (T1 := T2) rfl a3]; exact mulD_l (by decide) (by decide)
    have a5 : mBin subD (mConst (.int 1)) (mBin mulD (mConst (.int 2)) (mCall 2 (Φ 1) (mCons (mVar 0) (mCons (mConst (.int 2)) mNil)))) [some (.obj p), some (.int way), some (.int (1 + far))] T2 = .ok (.int (1 - 2 * sg)) T3 := by rw [bin_e (x := .int 1) (T1 := T2) rfl a4]; rfl
    refine ret_e (d := .int ((1 + far) * (1 - 2 * sg))) (T1 := T3) ?_ ⟨_, _, rfl, s3, by omega, f12.trans f3⟩
    rw [bin_e (x := .int (1 + far)) (T1 := T2) rfl a5]
    exact mulD_l (by omega) (by omega)
  refine seq_if (x := (way == 3)) (T1 := T2) (asB_e (by rw [bin_e rfl rfl]; exact eqD2_int)) (fun _ => ?_) (fun _ => ?_)
  · have hb1 : b + 1 + 1 < 2 ^ 40 := by omega
    have h0 : mVar 0 [some (.obj p), some (.int way), some (.int (1 + far))] T2 = .ok (.obj p) T2 := rfl
    have pw : ∀ (i j : Int), 0 ≤ j → j ≤ 1000000 → i.natAbs < 2 ^ 64 → ∀ l T, mBin powD (mConst (.int i)) (mConst (.int j)) l T = .ok (.int (i ^ j.toNat)) T := fun i j h1 h2 h3 l T => by rw [bin_e rfl rfl]; exact powD_ok h1 h2 h3
    refine ret_i (pick_lit h2 (T1 := T2) (p := p) (q := q) (xs := [.int (10 ^ (30 : Int).toNat - 1), .int (2 - 10 ^ (30 : Int).toNat), .int (10 ^ (18 : Int).toNat), .int (2 ^ (64 : Int).toNat), .int (-(2 ^ (64 : Int).toNat) - 1), .int (10 ^ (29 : Int).toNat + 1)]) h0
      (cons_e (by rw [bin_e (pw 10 30 (by decide) (by decide) (by decide) _ _) rfl]; rfl) (cons_e (by rw [bin_e rfl (pw 10 30 (by decide) (by decide) (by decide) _ _)]; rfl) (cons_e (pw 10 18 (by decide) (by decide) (by decide) _ _) (cons_e (pw 2 64 (by decide) (by decide) (by decide) _ _)
        (cons_e (by
          have z : mUn negD (mBin powD (mConst (.int 2)) (mConst (.int 64))) [some (.obj p), some (.int way), some (.int (1 + far))] T2 = .ok (.int (-(2 ^ (64 : Int).toNat))) T2 := by unfold mUn; rw [pw 2 64 (by decide) (by decide) (by decide)]; rfl
          rw [bin_e z rfl]; rfl) (cons_e (by rw [bin_e (pw 10 29 (by decide) (by decide) (by decide) _ _) rfl]; rfl) rfl)))))) s2 (Frm.refl _) hb1 (by simp) (by simp)) ?_
    rintro d T3 ⟨hd, s3, f3⟩
    have : ∃ i, d = .int i := by simp only [List.mem_cons, List.not_mem_nil, or_false] at hd; rcases hd with rfl | rfl | rfl | rfl | rfl | rfl <;> exact ⟨_, rfl⟩
    obtain ⟨i, rfl⟩ := this
    exact ⟨i, _, rfl, s3, by omega, f12.trans f3⟩
  obtain ⟨_, T3, e3, sg, rfl, hs0, hs1, s3, f3⟩ := (h1 T2 p q (b + 1 + 1) 97 s2 (by omega) (by omega) (by omega)).ok
  have pw : ∀ (i j : Int), 0 ≤ j → j ≤ 1000000 → i.natAbs < 2 ^ 64 → ∀ l T, mBin powD (mConst (.int i)) (mConst (.int j)) l T = .ok (.int (i ^ j.toNat)) T := fun i j h1 h2 h3 l T => by rw [bin_e rfl rfl]; exact powD_ok h1 h2 h3
  have a1 : mBin mulD (mVar 2) (mBin powD (mConst (.int 10)) (mConst (.int 20))) [some (.obj p), some (.int way), some (.int (1 + far))] T2 = .ok (.int ((1 + far) * 10 ^ (20 : Int).toNat)) T2 := by
    rw [bin_e (x := .int (1 + far)) (T1 := T2) rfl (pw 10 20 (by decide) (by decide) (by decide) _ _)]; exact mulD_l (by omega) (by omega)
  have a2 : mCall 2 (Φ 1) (mCons (mVar 0) (mCons (mConst (.int 97)) mNil)) [some (.obj p), some (.int way), some (.int (1 + far))] T2 = .ok (.int sg) T3 := by rw [call2 (d := .obj p) (T1 := T2) rfl rfl]; exact e3
  have a3 : mBin modD (mCallB intD (mCons (mVar 2) mNil)) (mConst (.int 3)) [some (.obj p), some (.int way), some (.int (1 + far))] T3 = .ok (.int ((1 + far) % 3)) T3 := by
    rw [bin_e (x := .int (1 + far)) (T1 := T3) (callB1 (d := .int (1 + far)) rfl) rfl]; exact modD_ok (by decide)
  have hr0 : 0 ≤ (1 + far) % 3 := Int.emod_nonneg _ (by decide)
  have hr1 : (1 + far) % 3 < 3 := Int.emod_lt_of_pos _ (by decide)
  refine ret_e (d := .int ((1 + far) * 10 ^ (20 : Int).toNat + sg - (1 + far) % 3 * 10 ^ (27 : Int).toNat)) (T1 := T3) ?_ ⟨_, _, rfl, s3, by omega, f12.trans f3⟩
  exact (bin_e ((bin_e a1 a2).trans addD_int) ((bin_e a3 (pw 10 27 (by decide) (by decide) (by decide) _ _)).trans (mulD_l (by omega) (by omega)))).trans subD_int
theorem text_s (h1 : DrawS (Φ 1)) (h2 : PickL (Φ 2)) (h3 : PickS (Φ 2)) : TextS (runBody 4 1 (m__law_text CA Φ)) := by
  intro T p q b s hb
  refine body_wp rfl ?_
  have l0 : startD 4 [.obj p] = [some (.obj p), none, none, none] := rfl
  rw [l0]; unfold m__law_text
  obtain ⟨_, T1, e1, way, rfl, hw0, hw1, s1, f1⟩ := (h1 T p q b 6 s (by omega) (by omega) (by omega)).ok
  refine seq_nx (set_e (d := .int way) (T1 := T1) (by rw [call2 (d := .obj p) (T1 := T) rfl rfl]; exact e1)) ?_
  simp only [List.set_cons_succ, List.set_cons_zero]
  refine seq_if (x := decide (way < 3)) (T1 := T1) (asB_e (by rw [bin_e rfl rfl]; rfl)) (fun _ => ?_) (fun _ => ?_)
  · have h0 : mVar 0 [some (.obj p), some (.int way), none, none] T1 = .ok (.obj p) T1 := rfl
    refine ret_i (pick_lit h2 (T1 := T1) (p := p) (q := q) (xs := [.str "", .str "a", .str "0", .str "1", .str "-1", .str "True", .str "None", .str " ", .str "~", .str "row", .str "two words", .str "007"]) h0 rfl s1 (Frm.refl _) (by omega) (by simp) (by simp)) ?_
    rintro d T3 ⟨hd, s3, f3⟩
    have : ∃ x, d = .str x := by simp only [List.mem_cons, List.not_mem_nil, or_false] at hd; rcases hd with rfl | rfl | rfl | rfl | rfl | rfl | rfl | rfl | rfl | rfl | rfl | rfl <;> exact ⟨_, rfl⟩
    obtain ⟨x, rfl⟩ := this
    exact ⟨x, _, rfl, s3, by omega, f1.trans f3⟩
  refine seq_if (x := (way == 5)) (T1 := T1) (asB_e (by rw [bin_e rfl rfl]; exact eqD2_int)) (fun _ => ?_) (fun _ => ?_)
  · obtain ⟨_, T2, e2, c, rfl, s2, f2⟩ := (h3 T1 p q (b + 1) "ab ~!09Z" s1 (by omega) (by decide +kernel) (by decide +kernel)).ok
    have h0 : mVar 0 [some (.obj p), some (.int way), none, none] T2 = .ok (.obj p) T2 := rfl
    obtain ⟨d, T3, e3, hd, s3, f3⟩ := (pick_lit h2 (m := mCons (mConst (.int 59)) (mCons (mConst (.int 60)) (mCons (mConst (.int 31)) mNil))) (l := [some (.obj p), some (.int way), none, none]) (T := T2) (T1 := T2) (p := p) (q := q) (xs := [.int 59, .int 60, .int 31]) h0 rfl s2 (Frm.refl _) (by omega) (by simp) (by simp)).ok
    have : ∃ j : Int, d = .int j ∧ 1 ≤ j ∧ j ≤ 1000 := by simp only [List.mem_cons, List.not_mem_nil, or_false] at hd; rcases hd with rfl | rfl | rfl <;> exact ⟨_, rfl, by decide, by decide⟩
    obtain ⟨j, rfl, hj1, hj2⟩ := this
    refine ret_e (d := .str (repS ⟨#[c]⟩ j.toNat)) (T1 := T3) ?_ ⟨_, _, rfl, s3, by omega, (f1.trans f2).trans f3⟩
    rw [bin_e (by rw [call2 (d := .obj p) (T1 := T1) rfl rfl]; exact e2) e3]
    exact if_pos ⟨hj1, hj2, (show (1 : Nat) ≤ 1000 by decide)⟩
  refine seq_nx (set_e (d := .str " !#$&'()*+,-./0123456789:;<=>?@ABCXYZ[]^_abcxyz{|}~") (T1 := T1) rfl) ?_
  simp only [List.set_cons_succ, List.set_cons_zero]
  obtain ⟨_, T2, e2, n, rfl, hn0, hn1, s2, f2⟩ := (h1 T1 p q (b + 1) 12 s1 (by omega) (by omega) (by omega)).ok
  have hr : RgB n := rngB hn0 (by omega)
  have it : iRng (mCons (mCall 2 (Φ 1) (mCons (mVar 0) (mCons (mConst (.int 12)) mNil))) mNil) [some (.obj p), some (.int way), some (.str " !#$&'()*+,-./0123456789:;<=>?@ABCXYZ[]^_abcxyz{|}~"), none] T1 = .ok (n.toNat, getR 0 n.toNat) T2 :=
    rng_e (cons_e (by rw [call2 (d := .obj p) (T1 := T1) rfl rfl]; exact e2) rfl) hr
  have cs := mcomp_sat (own := [3]) (p := .one 3) (cond := bYes) (elt := mCall 2 (Φ 2) (mCons (mVar 0) (mCons (mVar 2) mNil))) (Q := fun zs T' => ∃ b', Spr T' p q b' ∧ b' ≤ b + 2 + n ∧ Frm p q T T' ∧ (∃ cs : List Nat, zs = cs.map fun c => D.str ⟨#[c]⟩) ∧ zs.length ≤ 12) it (by omega) (fun i => .int (0 + i))
    (fun i ys T' => (∃ b', Spr T' p q b' ∧ b' ≤ b + 2 + i) ∧ Frm p q T T' ∧ (∃ cs : List Nat, ys = cs.map fun c => D.str ⟨#[c]⟩) ∧ ys.length = i) ⟨⟨_, s2, by omega⟩, f1.trans f2, ⟨[], rfl⟩, rfl⟩ (fun i ys T' _ => rfl)
    (fun i ys T' hi ⟨⟨b', s', hb'⟩, f', ⟨cs, hcs⟩, hl⟩ => by
      refine ⟨_, rfl, ?_⟩
      show Res.sat (.ok true T') _
      refine ⟨fun _ => ?_, fun z => by cases z⟩
      have e0 : mCall 2 (Φ 2) (mCons (mVar 0) (mCons (mVar 2) mNil)) ((wipeL [some (.obj p), some (.int way), some (.str " !#$&'()*+,-./0123456789:;<=>?@ABCXYZ[]^_abcxyz{|}~"), none] [3]).set 3 (some (.int (0 + i)))) T' = Φ 2 [.obj p, .str " !#$&'()*+,-./0123456789:;<=>?@ABCXYZ[]^_abcxyz{|}~"] T' := by rw [call2 rfl rfl]
      show (mCall 2 (Φ 2) (mCons (mVar 0) (mCons (mVar 2) mNil)) ((wipeL [some (.obj p), some (.int way), some (.str " !#$&'()*+,-./0123456789:;<=>?@ABCXYZ[]^_abcxyz{|}~"), none] [3]).set 3 (some (.int (0 + i)))) T').sat _
      rw [e0]
      refine (h3 T' p q b' _ s' (by omega) (by decide +kernel) (by decide +kernel)).mono ?_
      rintro d T'' ⟨c, rfl, s'', f''⟩
      exact ⟨⟨_, s'', by omega⟩, f'.trans f'', ⟨cs ++ [c], by rw [hcs]; simp⟩, by simp [hl]⟩)
    (fun ys T' ⟨⟨b', s', hb'⟩, f', hcs, hl⟩ => ⟨b', s', by omega, f', hcs, by omega⟩)
  obtain ⟨d, T3, e3, zs, T4, rfl, rfl, b4, s4, hb4, f4, ⟨cs, rfl⟩, hl⟩ := cs.ok
  have hs : asStrs (cs.map fun c => D.str ⟨#[c]⟩) = some (cs.map fun c => (⟨#[c]⟩ : Str)) := by
    clear hl e3
    induction cs with
    | nil => rfl
    | cons c cs ih => simp only [List.map_cons, asStrs, ih, Option.map_some]
  refine ret_e (d := .str (Txt.join "" (cs.map fun c => (⟨#[c]⟩ : Str)))) (T1 := T4 ++ [.lst (cs.map fun c => D.str ⟨#[c]⟩)]) ?_ ⟨_, b4, rfl, s4.app, by omega, f4.trans Frm.app⟩
  rw [meth_e (d := .str "") (T1 := T1) (ds := [.obj T4.length]) rfl rfl (cons_e e3 rfl)]
  have hseq : seqOf (.obj T4.length) (T4 ++ [.lst (cs.map fun c => D.str ⟨#[c]⟩)]) = some (cs.map fun c => D.str ⟨#[c]⟩) := by
    unfold seqOf; simp only [app_new]
  simp only [joinD, hseq, Option.bind_some, hs]
  refine if_pos ?_
  have h1 : ((cs.map fun c => (⟨#[c]⟩ : Str)).map (·.length)).sum = cs.length := by
    clear hl e3 hs hseq
    induction cs with
    | nil => rfl
    | cons c cs ih => simp only [List.map_cons, List.sum_cons, ih, List.length_cons]; show 1 + cs.length = _; omega
  rw [h1]
  simp only [List.length_map] at hl ⊢
  have : (("" : Str)).length = 0 := by decide +kernel
  rw [this]
  omega
end Mn.K30

set_option Elab.async false
set_option linter.all false
set_option maxRecDepth 100000
set_option maxHeartbeats 1000000
namespace Mn.K30
open PySem PySem.Spec PyProof.Rows L2 Mn
variable {CA : Nat → Addr} {Φ : Nat → FMn}
def ThingS (F : FMn) : Prop := ∀ (T : Hq) (p q : Nat) (b : Int), Spr T p q b → b < 2 ^ 38 → (F [.obj p] T).sat fun d T' => ∃ b', Gd p q T' d ∧ Spr T' p q b' ∧ b' ≤ b + 60 ∧ Frm p q T T'
theorem thing_s (h1 : DrawS (Φ 1)) (h2 : PickL (Φ 2)) (h3 : TextS (Φ 3)) (h4 : NumS (Φ 4)) : ThingS (runBody 2 1 (m__law_thing CA Φ)) := by
  intro T p q b s hb
  refine body_wp rfl ?_
  have l0 : startD 2 [.obj p] = [some (.obj p), none] := rfl
  rw [l0]; unfold m__law_thing
  obtain ⟨_, T1, e1, way, rfl, hw0, hw1, s1, f1⟩ := (h1 T p q b 6 s (by omega) (by omega) (by omega)).ok
  refine seq_nx (set_e (d := .int way) (T1 := T1) (by rw [call2 (d := .obj p) (T1 := T) rfl rfl]; exact e1)) ?_
  simp only [List.set_cons_succ, List.set_cons_zero]
  refine seq_if (asB_e ((bin_e rfl rfl).trans eqD2_int)) (fun _ => ?_) (fun _ => ?_)
  · obtain ⟨_, T2, e2, i, b2, rfl, s2, hb2, f2⟩ := (h4 T1 p q (b + 1) s1 (by omega)).ok
    exact ret_e ((call1 (d := .obj p) (T1 := T1) rfl).trans e2) ⟨b2, .at_ rfl, s2, by omega, f1.trans f2⟩
  refine seq_if (asB_e ((bin_e rfl rfl).trans eqD2_int)) (fun _ => ?_) (fun _ => ?_)
  · obtain ⟨_, T2, e2, i, b2, rfl, s2, hb2, f2⟩ := (h3 T1 p q (b + 1) s1 (by omega)).ok
    exact ret_e ((call1 (d := .obj p) (T1 := T1) rfl).trans e2) ⟨b2, .at_ rfl, s2, by omega, f1.trans f2⟩
  refine seq_if (asB_e ((bin_e rfl rfl).trans eqD2_int)) (fun _ => ?_) (fun _ => ?_)
  · obtain ⟨_, T2, e2, x, b2, rfl, s2, hb2, f2⟩ := (h3 T1 p q (b + 1) s1 (by omega)).ok
    obtain ⟨_, T3, e3, i, b3, rfl, s3, hb3, f3⟩ := (h4 T2 p q b2 s2 (by omega)).ok
    refine ret_e (tup_e (cons_e ((call1 (d := .obj p) (T1 := T1) rfl).trans e2) (cons_e ((call1 (d := .obj p) (T1 := T2) rfl).trans e3) rfl)) (by simp)) ⟨b3, .tup ?_, s3, by omega, (f1.trans f2).trans f3⟩
    intro d hd
    simp only [List.mem_cons, List.not_mem_nil, or_false] at hd
    rcases hd with rfl | rfl <;> rfl
  have hlt := s1.lt
  have h0 : mVar 0 [some (.obj p), some (.int way)] T1 = .ok (.obj p) T1 := rfl
  have lA : (T1 ++ [O.lst []]).length = T1.length + 1 := by simp
  have lB : (T1 ++ [O.lst []] ++ [O.lst [.int 1, .str "a"]]).length = T1.length + 2 := by simp
  have lC : (T1 ++ [O.lst []] ++ [O.lst [.int 1, .str "a"]] ++ [O.dct []]).length = T1.length + 3 := by simp
  have eA : mLst mNil [some (.obj p), some (.int way)] T1 = .ok (.obj T1.length) (T1 ++ [.lst []]) := lst_e rfl (by simp)
  have eB : mLst (mCons (mConst (.int 1)) (mCons (mConst (.str "a")) mNil)) [some (.obj p), some (.int way)] (T1 ++ [.lst []]) = .ok (.obj (T1.length + 1)) (T1 ++ [.lst []] ++ [.lst [.int 1, .str "a"]]) := by rw [lst_e rfl (by simp), lA]
  have eC : mDict0 [some (.obj p), some (.int way)] (T1 ++ [.lst []] ++ [.lst [.int 1, .str "a"]]) = .ok (.obj (T1.length + 2)) (T1 ++ [.lst []] ++ [.lst [.int 1, .str "a"]] ++ [.dct []]) := by unfold mDict0 newD; rw [lB]
  have eD : mDict [(mConst (.str "a"), mTup (mCons (mConst (.int 1)) mNil))] [some (.obj p), some (.int way)] (T1 ++ [.lst []] ++ [.lst [.int 1, .str "a"]] ++ [.dct []]) = .ok (.obj (T1.length + 3)) (T1 ++ [.lst []] ++ [.lst [.int 1, .str "a"]] ++ [.dct []] ++ [.dct [(.inr "a", .tup [.int 1])]]) := by
    unfold mDict mPairs
    simp only [mConst, Res.bind_ok, tup_e (m := mCons (mConst (.int 1)) mNil) (xs := [.int 1]) rfl (by simp), mPairs, keysD, keyD, List.length_cons, List.length_nil]
    rw [if_pos (by decide)]
    unfold newD; rw [lC]; rfl
  have s2 : Spr (T1 ++ [.lst []] ++ [.lst [.int 1, .str "a"]] ++ [.dct []] ++ [.dct [(.inr "a", .tup [.int 1])]]) p q (b + 1) := s1.app.app.app.app
  have f2 : Frm p q T1 (T1 ++ [.lst []] ++ [.lst [.int 1, .str "a"]] ++ [.dct []] ++ [.dct [(.inr "a", .tup [.int 1])]]) := ((Frm.app.trans Frm.app).trans Frm.app).trans Frm.app
  refine ret_i (pick_lit h2 (p := p) (q := q) (xs := [.non, .bl true, .bl false, .int 0, .int 1, .str "", .tup [], .tup [.str "row", .int 0, .str "a"], .obj T1.length, .obj (T1.length + 1), .obj (T1.length + 2), .obj (T1.length + 3), .str "copies", .int (-1)]) h0
    (cons_e rfl (cons_e rfl (cons_e rfl (cons_e rfl (cons_e rfl (cons_e rfl (cons_e (tup_e rfl (by simp)) (cons_e (tup_e rfl (by simp)) (cons_e eA (cons_e eB (cons_e eC (cons_e eD (cons_e rfl (cons_e rfl rfl)))))))))))))) s2 f2 (by omega) (by simp) (by simp)) ?_
  rintro d T3 ⟨hd, s3, f3⟩
  refine ⟨_, ?_, s3, by omega, (f1.trans f2).trans f3⟩
  have gA : (T1 ++ [.lst []] ++ [.lst [.int 1, .str "a"]] ++ [.dct []] ++ [.dct [(.inr "a", .tup [.int 1])]])[T1.length]? = some (O.lst []) := app_get (app_get (app_get app_new))
  have gB : (T1 ++ [.lst []] ++ [.lst [.int 1, .str "a"]] ++ [.dct []] ++ [.dct [(.inr "a", .tup [.int 1])]])[T1.length + 1]? = some (O.lst [.int 1, .str "a"]) := by rw [← lA]; exact app_get (app_get app_new)
  have gC : (T1 ++ [.lst []] ++ [.lst [.int 1, .str "a"]] ++ [.dct []] ++ [.dct [(.inr "a", .tup [.int 1])]])[T1.length + 2]? = some (O.dct []) := by rw [← lB]; exact app_get app_new
  have gD : (T1 ++ [.lst []] ++ [.lst [.int 1, .str "a"]] ++ [.dct []] ++ [.dct [(.inr "a", .tup [.int 1])]])[T1.length + 3]? = some (O.dct [(.inr "a", .tup [.int 1])]) := by rw [← lC]; exact app_new
  refine Gd.frame f3 ?_
  simp only [List.mem_cons, List.not_mem_nil, or_false] at hd
  rcases hd with rfl | rfl | rfl | rfl | rfl | rfl | rfl | rfl | rfl | rfl | rfl | rfl | rfl | rfl
  · exact .at_ rfl
  · exact .at_ rfl
  · exact .at_ rfl
  · exact .at_ rfl
  · exact .at_ rfl
  · exact .at_ rfl
  · exact .tup (by simp)
  · exact .tup (by simp [fl])
  · exact .lst (by omega) (by omega) gA (by simp)
  · exact .lst (by omega) (by omega) gB (by simp [fl])
  · exact .dct (by omega) (by omega) gC (by simp) (by simp)
  · exact .dct (by omega) (by omega) gD (by simp) (by simp [flatD])
  · exact .at_ rfl
  · exact .at_ rfl
end Mn.K30

set_option Elab.async false
set_option linter.all false
set_option maxRecDepth 100000
set_option maxHeartbeats 1000000
namespace Mn.K30
open PySem PySem.Spec PyProof.Rows L2 Mn
variable {CA : Nat → Addr} {Φ : Nat → FMn}
theorem begin_s {T : Hq} {ns : List Int} : (runBody 1 1 (m__law_begin CA Φ) [.rol (ns.map D.int)] T) = .ok (.obj (T.length + 1)) (T ++ [.lst (ns.map D.int)] ++ [.lst [.obj T.length, .int 0, .int 0, .int 29]]) := by
  have e1 : mCallB listD (mCons (mVar 0) mNil) [some (.rol (ns.map D.int))] T = .ok (.obj T.length) (T ++ [.lst (ns.map D.int)]) := by rw [callB1 (d := .rol (ns.map D.int)) (T1 := T) rfl]; rfl
  have e2 : mLst (mCons (mCallB listD (mCons (mVar 0) mNil)) (mCons (mConst (.int 0)) (mCons (mConst (.int 0)) (mCons (mConst (.int 29)) mNil)))) [some (.rol (ns.map D.int))] T = .ok (.obj (T ++ [O.lst (ns.map D.int)]).length) (T ++ [.lst (ns.map D.int)] ++ [.lst [.obj T.length, .int 0, .int 0, .int 29]]) := lst_e (cons_e e1 rfl) (by simp)
  have hl : (T ++ [O.lst (ns.map D.int)]).length = T.length + 1 := by simp
  rw [hl] at e2
  show (match m__law_begin CA Φ (startD 1 [.rol (ns.map D.int)]) T with
    | .nx _ T' => Res.ok D.non T'
    | .rt d T' => .ok d T'
    | .exc c d _ T' => .exc c d T'
    | _ => .stuck) = _
  have : m__law_begin CA Φ (startD 1 [.rol (ns.map D.int)]) T = .rt (.obj (T.length + 1)) (T ++ [.lst (ns.map D.int)] ++ [.lst [.obj T.length, .int 0, .int 0, .int 29]]) := by
    unfold m__law_begin sRet
    show Res.sb (mLst _ [some (.rol (ns.map D.int))] T) _ _ = _
    rw [e2]; rfl
  rw [this]
theorem made_s {j : Nat} (hj : j < 9) {T : Hq} {d : D} : (runBody 2 2 (m__law_made CA Φ) [.int j, d] T).sat fun e T' => e = .exn (CA j) (fldOf (eN j)) d ∧ T' = T := by
  refine body_wp rfl ?_
  have l0 : startD 2 [.int j, d] = [some (.int j), some d] := rfl
  rw [l0]; unfold m__law_made
  match j, hj with
  | 0, _ | 1, _ | 2, _ | 3, _ | 4, _ | 5, _ | 6, _ | 7, _ | 8, _ =>
    repeat (first | (refine seq_if (asB_e ((bin_e rfl rfl).trans eqD2_int)) (fun h => absurd h (by decide)) (fun _ => ?_)) | (refine seq_if (asB_e ((bin_e rfl rfl).trans eqD2_int)) (fun _ => ?_) (fun h => absurd h (by decide))))
    exact ret_e rfl ⟨rfl, rfl⟩
theorem named_s {j : Nat} (hj : j < 9) {T : Hq} {d : D} : (runBody 2 2 (m__law_named CA Φ) [.int j, d] T).sat fun e T' => e = .exn (CA j) (fldOf (eN j)) d ∧ T' = T := by
  refine body_wp rfl ?_
  have l0 : startD 2 [.int j, d] = [some (.int j), some d] := rfl
  rw [l0]; unfold m__law_named
  match j, hj with
  | 0, _ | 1, _ | 2, _ | 3, _ | 4, _ | 5, _ | 6, _ | 7, _ | 8, _ =>
    repeat (first | (refine seq_if (asB_e ((bin_e rfl rfl).trans eqD2_int)) (fun h => absurd h (by decide)) (fun _ => ?_)) | (refine seq_if (asB_e ((bin_e rfl rfl).trans eqD2_int)) (fun _ => ?_) (fun h => absurd h (by decide))))
    exact ret_e rfl ⟨rfl, rfl⟩
theorem raise_e {c : Str} {m : LMn} {l : Lo} {T : Hq} {d : D} {Q : SQ} (e : m l T = .ok [d] T) (h : Q.ex c d l T) : (sRaise c m l T).wp Q := by unfold sRaise; rw [e]; exact h
theorem thrown_s {j : Nat} (hj : j < 9) {T : Hq} {d : D} : (runBody 2 2 (m__law_thrown CA Φ) [.int j, d] T).wp (fun _ _ => False) (fun c e T' => c = eN j ∧ e = d ∧ T' = T) := by
  refine body_wp rfl ?_
  have l0 : startD 2 [.int j, d] = [some (.int j), some d] := rfl
  rw [l0]; unfold m__law_thrown
  match j, hj with
  | 0, _ | 1, _ | 2, _ | 3, _ | 4, _ | 5, _ | 6, _ | 7, _ | 8, _ =>
    repeat (first | (refine seq_if (asB_e ((bin_e rfl rfl).trans eqD2_int)) (fun h => absurd h (by decide)) (fun _ => ?_)) | (refine seq_if (asB_e ((bin_e rfl rfl).trans eqD2_int)) (fun _ => ?_) (fun h => absurd h (by decide))))
    exact raise_e rfl ⟨rfl, rfl, rfl⟩
theorem xat_e {j : Nat} (hj : j < 9) {l : Lo} {T : Hq} {d : D} {m : EMn} (e : m l T = .ok (.exn (CA j) (fldOf (eN j)) d) T) : mXat (fldOf (eN j)) (fTab CA (fldOf (eN j))) m l T = .ok d T := by
  unfold mXat; rw [e]; simp only [Res.bind_ok]; exact if_pos ⟨trivial, fTab_at hj⟩
theorem ifE_e {c : BMn} {a b : EMn} {l : Lo} {T : Hq} {x : Bool} (e : c l T = .ok x T) : mIf c a b l T = if x = true then a l T else b l T := by unfold mIf; rw [e]; rfl
theorem kept_s {j : Nat} (hj : j < 9) {T : Hq} {d : D} : (runBody 2 2 (m__law_kept CA Φ) [.int j, .exn (CA j) (fldOf (eN j)) d] T).sat fun e T' => e = d ∧ T' = T := by
  refine body_wp rfl ?_
  have l0 : startD 2 [.int j, .exn (CA j) (fldOf (eN j)) d] = [some (.int j), some (.exn (CA j) (fldOf (eN j)) d)] := rfl
  rw [l0]; unfold m__law_kept
  match j, hj with
  | 0, _ | 4, _ | 5, _ =>
    refine seq_if (x := true) (T1 := T) (asB_e ((bin_e rfl (tup_e rfl (by simp))).trans rfl)) (fun _ => ?_) (fun h => by cases h)
    first | exact ret_e (xat_e (j := 0) (by decide) rfl) ⟨rfl, rfl⟩ | exact ret_e (xat_e (j := 4) (by decide) rfl) ⟨rfl, rfl⟩ | exact ret_e (xat_e (j := 5) (by decide) rfl) ⟨rfl, rfl⟩
  | 1, _ | 2, _ | 3, _ | 6, _ =>
    refine seq_if (x := false) (T1 := T) (asB_e ((bin_e rfl (tup_e rfl (by simp))).trans rfl)) (fun h => by cases h) (fun _ => ?_)
    repeat (first | (refine seq_if (asB_e ((bin_e rfl rfl).trans eqD2_int)) (fun h => absurd h (by decide)) (fun _ => ?_)) | (refine seq_if (asB_e ((bin_e rfl rfl).trans eqD2_int)) (fun _ => ?_) (fun h => absurd h (by decide))))
    first | exact ret_e (xat_e (j := 1) (by decide) rfl) ⟨rfl, rfl⟩ | exact ret_e (xat_e (j := 2) (by decide) rfl) ⟨rfl, rfl⟩ | exact ret_e (xat_e (j := 3) (by decide) rfl) ⟨rfl, rfl⟩ | exact ret_e (xat_e (j := 6) (by decide) rfl) ⟨rfl, rfl⟩
  | 7, _ =>
    refine seq_if (x := false) (T1 := T) (asB_e ((bin_e rfl (tup_e rfl (by simp))).trans rfl)) (fun h => by cases h) (fun _ => ?_)
    repeat (refine seq_if (asB_e ((bin_e rfl rfl).trans eqD2_int)) (fun h => absurd h (by decide)) (fun _ => ?_))
    refine ret_e (d := d) (T1 := T) ?_ ⟨rfl, rfl⟩
    rw [ifE_e (x := true) (asB_e ((bin_e rfl rfl).trans eqD2_int)), if_pos rfl]
    exact xat_e (j := 7) (by decide) rfl
  | 8, _ =>
    refine seq_if (x := false) (T1 := T) (asB_e ((bin_e rfl (tup_e rfl (by simp))).trans rfl)) (fun h => by cases h) (fun _ => ?_)
    repeat (refine seq_if (asB_e ((bin_e rfl rfl).trans eqD2_int)) (fun h => absurd h (by decide)) (fun _ => ?_))
    refine ret_e (d := d) (T1 := T) ?_ ⟨rfl, rfl⟩
    rw [ifE_e (x := false) (asB_e ((bin_e rfl rfl).trans eqD2_int)), if_neg (by decide)]
    exact xat_e (j := 8) (by decide) rfl
end Mn.K30

set_option Elab.async false
set_option linter.all false
set_option maxRecDepth 100000
set_option maxHeartbeats 1000000
namespace Mn.K30
open PySem PySem.Spec PyProof.Rows L2 Mn
variable {CA : Nat → Addr} {Φ : Nat → FMn}
theorem and_e {m n : EMn} {l : Lo} {T T1 : Hq} {d : D} (e : m l T = .ok d T1) (h : truthD d T1 = some true) : mAnd m n l T = n l T1 := by
  unfold mAnd; rw [e]; simp only [Res.bind_ok, h, ofOpt, if_true]
theorem eq_bl {x : Bool} {T : Hq} : eqD2 (.bl x) (.bl x) T = .ok (.bl true) T := by
  rw [eqD2_of (a := .bool x) (b := .bool x) rfl rfl rfl]; simp [PyData.eqv]
theorem body_rt {nN n : Nat} {m : SMn} {ds : List D} {T T' : Hq} {d : D} (hl : ds.length = n) (h : m (startD nN ds) T = .rt d T') : runBody nN n m ds T = .ok d T' := by
  unfold runBody; rw [if_pos hl, h]
theorem ret_eq {m : EMn} {l : Lo} {T T1 : Hq} {d : D} (e : m l T = .ok d T1) : sRet m l T = .rt d T1 := by unfold sRet; rw [e]; rfl
theorem seq_eq {m n : SMn} {l l1 : Lo} {T T1 : Hq} (e : m l T = .nx l1 T1) : sSeq m n l T = n l1 T1 := by unfold sSeq; rw [e]
theorem seq_rt {m n : SMn} {l : Lo} {T T1 : Hq} {d : D} (e : m l T = .rt d T1) : sSeq m n l T = .rt d T1 := by unfold sSeq; rw [e]
theorem like_s {p q : Nat} {T : Hq} {d : D} (g : Gd p q T d) : runBody 2 2 (m__law_like CA Φ) [d, d] T = .ok (.bl true) T := by
  obtain ⟨t, ht, hb⟩ := g.ty
  refine body_rt rfl ?_
  have l0 : startD 2 [d, d] = [some d, some d] := rfl
  rw [l0]; unfold m__law_like
  refine ret_eq ?_
  have b1 : mCallB (isiD (qT CA)) (mCons (mVar 0) (mCons (mConst (.tyv "bool")) mNil)) [some d, some d] T = .ok (.bl (qB t "bool")) T := (callB2 (d := d) (e := .tyv "bool") rfl rfl).trans (isi_basic ht hb (by decide))
  have b2 : mCallB (isiD (qT CA)) (mCons (mVar 1) (mCons (mConst (.tyv "bool")) mNil)) [some d, some d] T = .ok (.bl (qB t "bool")) T := (callB2 (d := d) (e := .tyv "bool") rfl rfl).trans (isi_basic ht hb (by decide))
  have i1 : mCallB (isiD (qT CA)) (mCons (mVar 0) (mCons (mConst (.tyv "int")) mNil)) [some d, some d] T = .ok (.bl (qB t "int")) T := (callB2 (d := d) (e := .tyv "int") rfl rfl).trans (isi_basic ht hb (by decide))
  have i2 : mCallB (isiD (qT CA)) (mCons (mVar 1) (mCons (mConst (.tyv "int")) mNil)) [some d, some d] T = .ok (.bl (qB t "int")) T := (callB2 (d := d) (e := .tyv "int") rfl rfl).trans (isi_basic ht hb (by decide))
  rw [and_e ((bin_e (x := d) (y := d) rfl rfl).trans g.eq) rfl, and_e ((bin_e b1 b2).trans eq_bl) rfl, bin_e i1 i2]
  exact eq_bl
theorem isiX_c (inj : ∀ i j, i < 10 → j < 10 → CA i = CA j → i = j) {i j : Nat} (hj : j < 9) (hi : i < 10) {a dd : Addr} {f : Str} {d : D} {T : Hq} : isiX (qT CA) a (CA j) dd [.cex a (CA j) dd f d, .cls (CA i)] T = .ok (.bl (i == 9 || j == i)) T := by
  simp only [isiX, and_self, if_true, qT_oo inj hj hi]
theorem isiX_t {j : Nat} (hj : j < 9) {a dd : Addr} {f : Str} {d : D} {T : Hq} : isiX (qT CA) a (CA j) dd [.cex a (CA j) dd f d, .tyv "ValueError"] T = .ok (.bl true) T := by
  simp only [isiX, and_self, if_true, qT_ve hj]
theorem try_e {i j : Nat} (hj : j < 9) {body : SMn} {su : Addr → Addr → Addr → SMn} {l : Lo} {T : Hq} {d : D} {r : SR} (e : body l T = .exc (eN j) d l T) (h : ∀ a dd, ((su a (CA j) dd (l.set i (some (.cex a (CA j) dd (fldOf (eN j)) d))) T).clr i) = r) : sTry i (hmT CA 9) body su l T = r := by
  unfold sTry
  rw [e]
  simp only [hmT_at hj]
  exact uni_const h
def bs (j : Nat) : List D := [.bl true, .bl (j == 0), .bl (j == 1), .bl (j == 2), .bl (j == 3), .bl (j == 4), .bl (j == 5), .bl (j == 6), .bl (j == 7), .bl (j == 8)]
theorem add_lst {n m : Nat} {T : Hq} {xs ys : List D} (h1 : T[n]? = some (.lst xs)) (h2 : T[m]? = some (.lst ys)) (hl : xs.length + ys.length ≤ 1000) : addD (.obj n) (.obj m) T = .ok (.obj T.length) (T ++ [.lst (xs ++ ys)]) := by
  unfold addD; simp only [h1, h2]
  rw [if_pos (by rw [sizeLine_eq]; omega)]; rfl
theorem caught_s (inj : ∀ i j, i < 10 → j < 10 → CA i = CA j → i = j) {j : Nat} (hj : j < 9) {T : Hq} {d : D} (hΦ : Φ 9 [.int j, d] T = .exc (eN j) d T) : ∃ n X, runBody 4 2 (m__law_caught CA Φ) [.int j, d] T = .ok (.obj n) (T ++ X) ∧ (T ++ X)[n]? = some (.lst (bs j)) ∧ T.length ≤ n := by
  have l0 : startD 4 [.int j, d] = [some (.int j), some d, none, none] := rfl
  obtain ⟨T1, hT1⟩ : ∃ T1, T1 = T ++ [O.lst [.bl (j == 0), .bl (j == 1), .bl (j == 2), .bl (j == 3)]] := ⟨_, rfl⟩
  obtain ⟨T2, hT2⟩ : ∃ T2, T2 = T1 ++ [O.lst [.bl (j == 4), .bl (j == 5), .bl (j == 6), .bl (j == 7)]] := ⟨_, rfl⟩
  obtain ⟨T3, hT3⟩ : ∃ T3, T3 = T2 ++ [O.lst ([.bl (j == 0), .bl (j == 1), .bl (j == 2), .bl (j == 3)] ++ [.bl (j == 4), .bl (j == 5), .bl (j == 6), .bl (j == 7)])] := ⟨_, rfl⟩
  obtain ⟨T4, hT4⟩ : ∃ T4, T4 = T3 ++ [O.lst [.bl true]] := ⟨_, rfl⟩
  obtain ⟨T5, hT5⟩ : ∃ T5, T5 = T4 ++ [O.lst ([.bl true] ++ ([.bl (j == 0), .bl (j == 1), .bl (j == 2), .bl (j == 3)] ++ [.bl (j == 4), .bl (j == 5), .bl (j == 6), .bl (j == 7)]))] := ⟨_, rfl⟩
  obtain ⟨T6, hT6⟩ : ∃ T6, T6 = T5 ++ [O.lst [.bl (j == 8)]] := ⟨_, rfl⟩
  obtain ⟨T7, hT7⟩ : ∃ T7, T7 = T6 ++ [O.lst (bs j)] := ⟨_, rfl⟩
  have c : ∀ (i : Nat) (hi : i < 9) (a dd : Addr) (f : Str) (x : Option D) (T : Hq), mCallB (isiX (qT CA) a (CA j) dd) (mCons (mVar 2) (mCons (mConst (.cls (CA i))) mNil)) [some (.int j), some d, some (.cex a (CA j) dd f d), x] T = .ok (.bl (j == i)) T := fun i hi a dd f x T => by
    rw [callB2 (d := .cex a (CA j) dd f d) (e := .cls (CA i)) (T1 := T) (T2 := T) rfl rfl, isiX_c inj hj (by omega)]
    have : (i == 9) = false := by simp; omega
    rw [this]; rfl
  have cv : ∀ (a dd : Addr) (f : Str) (x : Option D) (T : Hq), mCallB (isiX (qT CA) a (CA j) dd) (mCons (mVar 2) (mCons (mConst (.tyv "ValueError")) mNil)) [some (.int j), some d, some (.cex a (CA j) dd f d), x] T = .ok (.bl true) T := fun a dd f x T => by
    rw [callB2 (d := .cex a (CA j) dd f d) (e := .tyv "ValueError") (T1 := T) (T2 := T) rfl rfl, isiX_t hj]
  have g1 : T2[T.length]? = some (.lst [.bl (j == 0), .bl (j == 1), .bl (j == 2), .bl (j == 3)]) := by rw [hT2, hT1]; exact app_get app_new
  have g2 : T2[T1.length]? = some (.lst [.bl (j == 4), .bl (j == 5), .bl (j == 6), .bl (j == 7)]) := by rw [hT2]; exact app_new
  have g3 : T4[T2.length]? = some (.lst ([.bl (j == 0), .bl (j == 1), .bl (j == 2), .bl (j == 3)] ++ [.bl (j == 4), .bl (j == 5), .bl (j == 6), .bl (j == 7)])) := by rw [hT4, hT3]; exact app_get app_new
  have g4 : T4[T3.length]? = some (.lst [.bl true]) := by rw [hT4]; exact app_new
  have g5 : T6[T4.length]? = some (.lst ([.bl true] ++ ([.bl (j == 0), .bl (j == 1), .bl (j == 2), .bl (j == 3)] ++ [.bl (j == 4), .bl (j == 5), .bl (j == 6), .bl (j == 7)]))) := by rw [hT6, hT5]; exact app_get app_new
  have g6 : T6[T5.length]? = some (.lst [.bl (j == 8)]) := by rw [hT6]; exact app_new
  have run : m__law_caught CA Φ [some (.int j), some d, none, none] T = .rt (.obj T6.length) T7 := by
    unfold m__law_caught
    refine seq_rt (try_e hj (d := d) ?_ fun a dd => ?_)
    · unfold sExpr; rw [(call2 (d := .int j) (e := d) (T1 := T) (T2 := T) rfl rfl).trans hΦ]; rfl
    · simp only [List.set_cons_succ, List.set_cons_zero]
      have q1 : mLst (mCons (mCallB (isiX (qT CA) a (CA j) dd) (mCons (mVar 2) (mCons (mConst (.cls (CA 0))) mNil))) (mCons (mCallB (isiX (qT CA) a (CA j) dd) (mCons (mVar 2) (mCons (mConst (.cls (CA 1))) mNil))) (mCons (mCallB (isiX (qT CA) a (CA j) dd) (mCons (mVar 2) (mCons (mConst (.cls (CA 2))) mNil))) (mCons (mCallB (isiX (qT CA) a (CA j) dd) (mCons (mVar 2) (mCons (mConst (.cls (CA 3))) mNil))) mNil)))) [some (.int j), some d, some (.cex a (CA j) dd (fldOf (eN j)) d), none] T = .ok (.obj T.length) T1 := by
        rw [hT1]; exact lst_e (cons_e (c 0 (by decide) ..) (cons_e (c 1 (by decide) ..) (cons_e (c 2 (by decide) ..) (cons_e (c 3 (by decide) ..) rfl)))) (by simp)
      have q2 : mLst (mCons (mCallB (isiX (qT CA) a (CA j) dd) (mCons (mVar 2) (mCons (mConst (.cls (CA 4))) mNil))) (mCons (mCallB (isiX (qT CA) a (CA j) dd) (mCons (mVar 2) (mCons (mConst (.cls (CA 5))) mNil))) (mCons (mCallB (isiX (qT CA) a (CA j) dd) (mCons (mVar 2) (mCons (mConst (.cls (CA 6))) mNil))) (mCons (mCallB (isiX (qT CA) a (CA j) dd) (mCons (mVar 2) (mCons (mConst (.cls (CA 7))) mNil))) mNil)))) [some (.int j), some d, some (.cex a (CA j) dd (fldOf (eN j)) d), some (.obj T.length)] T1 = .ok (.obj T1.length) T2 := by
        rw [hT2]; exact lst_e (cons_e (c 4 (by decide) ..) (cons_e (c 5 (by decide) ..) (cons_e (c 6 (by decide) ..) (cons_e (c 7 (by decide) ..) rfl)))) (by simp)
      have q4 : mLst (mCons (mCallB (isiX (qT CA) a (CA j) dd) (mCons (mVar 2) (mCons (mConst (.tyv "ValueError")) mNil))) mNil) [some (.int j), some d, some (.cex a (CA j) dd (fldOf (eN j)) d), some (.obj T2.length)] T3 = .ok (.obj T3.length) T4 := by
        rw [hT4]; exact lst_e (cons_e (cv ..) rfl) (by simp)
      have q6 : mLst (mCons (mCallB (isiX (qT CA) a (CA j) dd) (mCons (mVar 2) (mCons (mConst (.cls (CA 8))) mNil))) mNil) [some (.int j), some d, some (.cex a (CA j) dd (fldOf (eN j)) d), some (.obj T2.length)] T5 = .ok (.obj T5.length) T6 := by
        rw [hT6]; exact lst_e (cons_e (c 8 (by decide) ..) rfl) (by simp)
      have q3 : addD (.obj T.length) (.obj T1.length) T2 = .ok (.obj T2.length) T3 := by rw [hT3]; exact add_lst g1 g2 (by simp)
      have q5 : addD (.obj T3.length) (.obj T2.length) T4 = .ok (.obj T4.length) T5 := by rw [hT5]; exact add_lst g4 g3 (by simp)
      have q7 : addD (.obj T4.length) (.obj T5.length) T6 = .ok (.obj T6.length) T7 := by rw [hT7]; exact add_lst g5 g6 (by simp)
      rw [seq_eq (set_e q1)]
      simp only [List.set_cons_succ, List.set_cons_zero]
      rw [seq_eq (set_e ((bin_e (x := .obj T.length) (T1 := T1) rfl q2).trans q3))]
      simp only [List.set_cons_succ, List.set_cons_zero]
      rw [ret_eq ((bin_e ((bin_e q4 (y := .obj T2.length) (T2 := T4) rfl).trans q5) q6).trans q7)]
      rfl
  refine ⟨T6.length, [O.lst [.bl (j == 0), .bl (j == 1), .bl (j == 2), .bl (j == 3)]] ++ [O.lst [.bl (j == 4), .bl (j == 5), .bl (j == 6), .bl (j == 7)]] ++ [O.lst ([.bl (j == 0), .bl (j == 1), .bl (j == 2), .bl (j == 3)] ++ [.bl (j == 4), .bl (j == 5), .bl (j == 6), .bl (j == 7)])] ++ [O.lst [.bl true]] ++ [O.lst ([.bl true] ++ ([.bl (j == 0), .bl (j == 1), .bl (j == 2), .bl (j == 3)] ++ [.bl (j == 4), .bl (j == 5), .bl (j == 6), .bl (j == 7)]))] ++ [O.lst [.bl (j == 8)]] ++ [O.lst (bs j)], ?_, ?_, ?_⟩
  · have rr : runBody 4 2 (m__law_caught CA Φ) [.int j, d] T = .ok (.obj T6.length) T7 := body_rt rfl (by rw [l0]; exact run)
    rw [rr]
    congr 1
    rw [hT7, hT6, hT5, hT4, hT3, hT2, hT1]
    simp only [List.append_assoc]
  · have : T ++ ([O.lst [.bl (j == 0), .bl (j == 1), .bl (j == 2), .bl (j == 3)]] ++ [O.lst [.bl (j == 4), .bl (j == 5), .bl (j == 6), .bl (j == 7)]] ++ [O.lst ([.bl (j == 0), .bl (j == 1), .bl (j == 2), .bl (j == 3)] ++ [.bl (j == 4), .bl (j == 5), .bl (j == 6), .bl (j == 7)])] ++ [O.lst [.bl true]] ++ [O.lst ([.bl true] ++ ([.bl (j == 0), .bl (j == 1), .bl (j == 2), .bl (j == 3)] ++ [.bl (j == 4), .bl (j == 5), .bl (j == 6), .bl (j == 7)]))] ++ [O.lst [.bl (j == 8)]] ++ [O.lst (bs j)]) = T7 := by
      rw [hT7, hT6, hT5, hT4, hT3, hT2, hT1]
      simp only [List.append_assoc]
    rw [this, hT7]
    exact app_new
  · rw [hT6, hT5, hT4, hT3, hT2, hT1]
    simp only [List.length_append]
    omega
end Mn.K30

set_option Elab.async false
set_option linter.all false
set_option maxRecDepth 100000
set_option maxHeartbeats 1000000
namespace Mn.K30
open PySem PySem.Spec PyProof.Rows L2 Mn
variable {CA : Nat → Addr} {Φ : Nat → FMn}
/-- what the callees of the law do -/
structure Cal (CA : Nat → Addr) (Φ : Nat → FMn) : Prop where
  beg : ∀ (T : Hq) (ns : List Int), Φ 0 [.rol (ns.map D.int)] T = .ok (.obj (T.length + 1)) (T ++ [.lst (ns.map D.int)] ++ [.lst [.obj T.length, .int 0, .int 0, .int 29]])
  thing : ThingS (Φ 5)
  made : ∀ (j : Nat) (T : Hq) (d : D), j < 9 → Φ 6 [.int j, d] T = .ok (.exn (CA j) (fldOf (eN j)) d) T
  named : ∀ (j : Nat) (T : Hq) (d : D), j < 9 → Φ 7 [.int j, d] T = .ok (.exn (CA j) (fldOf (eN j)) d) T
  kept : ∀ (j : Nat) (T : Hq) (d : D), j < 9 → Φ 8 [.int j, .exn (CA j) (fldOf (eN j)) d] T = .ok d T
  caught : ∀ (j : Nat) (T : Hq) (d : D), j < 9 → ∃ n X, Φ 10 [.int j, d] T = .ok (.obj n) (T ++ X) ∧ (T ++ X)[n]? = some (.lst (bs j)) ∧ T.length ≤ n
  like : ∀ (p q : Nat) (T : Hq) (d : D), Gd p q T d → Φ 11 [d, d] T = .ok (.bl true) T
theorem sat_eq {r : Res D} {d : D} {T : Hq} (h : r.sat fun e T' => e = d ∧ T' = T) : r = .ok d T := by
  obtain ⟨e, T', e1, rfl, rfl⟩ := h.ok
  exact e1
theorem lv_draw (k : Nat) : DrawS (Lv CA (k + 1) 1) := draw_s
theorem lv_pick (k : Nat) : PickL (Lv CA (k + 2) 2) ∧ PickS (Lv CA (k + 2) 2) := ⟨pick_l (Φ := Lv CA (k + 1)) (lv_draw k), pick_s (Φ := Lv CA (k + 1)) (lv_draw k)⟩
theorem lv_text (k : Nat) : TextS (Lv CA (k + 3) 3) := text_s (Φ := Lv CA (k + 2)) (lv_draw (k + 1)) (lv_pick k).1 (lv_pick k).2
theorem lv_num (k : Nat) : NumS (Lv CA (k + 3) 4) := number_s (Φ := Lv CA (k + 2)) (lv_draw (k + 1)) (lv_pick k).1
theorem lv_thing (k : Nat) : ThingS (Lv CA (k + 4) 5) := thing_s (Φ := Lv CA (k + 3)) (lv_draw (k + 2)) (lv_pick (k + 1)).1 (lv_text k) (lv_num k)
theorem cal (inj : ∀ i j, i < 10 → j < 10 → CA i = CA j → i = j) (k : Nat) : Cal CA (Lv CA (k + 4)) where
  beg := fun T ns => begin_s (CA := CA) (Φ := Lv CA (k + 3))
  thing := lv_thing k
  made := fun j T d hj => sat_eq (made_s (Φ := Lv CA (k + 3)) hj)
  named := fun j T d hj => sat_eq (named_s (Φ := Lv CA (k + 3)) hj)
  kept := fun j T d hj => sat_eq (kept_s (Φ := Lv CA (k + 3)) hj)
  caught := fun j T d hj => caught_s (Φ := Lv CA (k + 3)) inj hj (by
    have h := thrown_s (CA := CA) (Φ := Lv CA (k + 2)) hj (T := T) (d := d)
    show runBody 2 2 (m__law_thrown CA (Lv CA (k + 2))) [.int j, d] T = _
    revert h
    cases runBody 2 2 (m__law_thrown CA (Lv CA (k + 2))) [.int j, d] T with
    | ok a T' => exact fun h => h.elim
    | exc c e T' => rintro ⟨rfl, rfl, rfl⟩; rfl
    | stuck => exact fun h => h.elim)
  like := fun p q T d g => like_s (Φ := Lv CA (k + 3)) g
theorem ne_same {n m : Nat} {T : Hq} {ds : List D} (h1 : T[n]? = some (.lst ds)) (h2 : T[m]? = some (.lst ds)) (hf : ∀ d ∈ ds, fl d = true) : neD (.obj n) (.obj m) T = .ok (.bl false) T := by
  have e1 : ∀ k, T[k]? = some (.lst ds) → toP T 64 (.obj k) = some (.list (ds.map pd)) := fun k e => by
    show (match T[k]? with
      | some (.lst ds) => (mapO (toP T 63) ds).map PyData.list
      | _ => none) = _
    rw [e]; dsimp only; rw [mapO_fl hf]; rfl
  unfold neD eqDp
  rw [e1 n h1, e1 m h2]
  simp only [PyData.eqv, eqvAll_pd, Bool.not_true]
theorem bs_is {j : Nat} (hj : j < 9) : bs j = [D.bl true] ++ (List.range 9).map fun (i : Nat) => D.bl (((0 : Int) + (i : Int)) == (j : Int)) := by
  match j, hj with
  | 0, _ | 1, _ | 2, _ | 3, _ | 4, _ | 5, _ | 6, _ | 7, _ | 8, _ => rfl
theorem bs_fl {j : Nat} : ∀ d ∈ bs j, fl d = true := by
  intro d hd
  simp only [bs, List.mem_cons, List.not_mem_nil, or_false] at hd
  rcases hd with rfl | rfl | rfl | rfl | rfl | rfl | rfl | rfl | rfl | rfl <;> rfl
theorem bval_e {m : EMn} {l : Lo} {T T1 : Hq} {b : Bool} (e : m l T = .ok (.bl b) T1) : bVal m l T = .ok b T1 := by unfold bVal; rw [e]; rfl
theorem bnot_e {m : BMn} {l : Lo} {T T1 : Hq} {b : Bool} (e : m l T = .ok b T1) : bNot m l T = .ok (!b) T1 := by unfold bNot; rw [e]; rfl
theorem bor_f {m n : BMn} {l : Lo} {T T1 : Hq} (e : m l T = .ok false T1) : bOr m n l T = n l T1 := by unfold bOr; rw [e]; rfl
theorem isi_o (inj : ∀ i j, i < 10 → j < 10 → CA i = CA j → i = j) {j : Nat} (hj : j < 9) {f : Str} {d : D} {T : Hq} : isiD (qT CA) [.exn (CA j) f d, .cls (CA 9)] T = .ok (.bl true) T := by
  simp only [isiD, tyOfD, Option.bind_some, qT_oo inj hj (show 9 < 10 by decide)]; rfl
theorem isi_v {j : Nat} (hj : j < 9) {f : Str} {d : D} {T : Hq} : isiD (qT CA) [.exn (CA j) f d, .tyv "ValueError"] T = .ok (.bl true) T := by
  simp only [isiD, tyOfD, Option.bind_some, qT_ve hj]
/-- one error made, raised, caught -/
theorem turn_ok (h : Cal CA Φ) (inj : ∀ i j, i < 10 → j < 10 → CA i = CA j → i = j) {j : Nat} (hj : j < 9) {s0 a4 a5 a6 a7 a8 a9 t : Option D} {T : Hq} {p q : Nat} {b : Int} (s : Spr T p q b) (hb : b < 2 ^ 37) {body : SMn}
    (hbody : body = sSeq (sPar 4 5 (mCons (mCall 1 (Φ 5) (mCons (mVar 1) (mNil))) (mCons (mCall 1 (Φ 5) (mCons (mVar 1) (mNil))) (mNil)))) (sSeq (sPar 6 7 (mCons (mCall 2 (Φ 6) (mCons (mVar 3) (mCons (mVar 4) (mNil)))) (mCons (mCall 2 (Φ 7) (mCons (mVar 3) (mCons (mVar 5) (mNil)))) (mNil)))) (sSeq (sIf (bOr (bNot (bVal (mCall 2 (Φ 11) (mCons (mCall 2 (Φ 8) (mCons (mVar 3) (mCons (mVar 6) (mNil)))) (mCons (mVar 4) (mNil)))))) (bNot (bVal (mCall 2 (Φ 11) (mCons (mCall 2 (Φ 8) (mCons (mVar 3) (mCons (mVar 7) (mNil)))) (mCons (mVar 5) (mNil))))))) (sRet (mConst (.bl false))) (sNext)) (sSeq (sFor (iSeq (mTup (mCons (mVar 6) (mCons (mVar 7) (mNil))))) (aName 8) (sIf (bOr (bNot (bVal (mCallB (isiD (qT CA)) (mCons (mVar 8) (mCons (mConst (.cls (CA 9))) (mNil)))))) (bNot (bVal (mCallB (isiD (qT CA)) (mCons (mVar 8) (mCons (mConst (.tyv "ValueError")) (mNil))))))) (sRet (mConst (.bl false))) (sNext))) (sSeq (sIf (asB (mBin neD (mCall 2 (Φ 10) (mCons (mVar 3) (mCons (mVar 4) (mNil)))) (mBin addD (mLst (mCons (mConst (.bl true)) (mNil))) (mComp [9] (iRng (mCons (mConst (.int 9)) (mNil))) (.one 9) (bYes) (mBin eqD2 (mVar 9) (mVar 3)))))) (sRet (mConst (.bl false))) (sNext)) (sIf (bNot (bVal (mCall 2 (Φ 11) (mCons (mCall 2 (Φ 8) (mCons (mVar 3) (mCons (mVar 6) (mNil)))) (mCons (mVar 4) (mNil)))))) (sRet (mConst (.bl false))) (sNext))))))) :
    (body [s0, some (.obj p), t, some (.int j), a4, a5, a6, a7, a8, a9] T).wp { nx := fun l' T' => ∃ a4 a5 a6 a7 a8 a9 b', l' = [s0, some (.obj p), t, some (.int j), a4, a5, a6, a7, a8, a9] ∧ Spr T' p q b' ∧ b' ≤ b + 120, rt := fun _ _ => False } := by
  subst hbody
  obtain ⟨d1, T1, e1, b1, g1, s1, hb1, f1⟩ := (h.thing T p q b s (by omega)).ok
  obtain ⟨d2, T2, e2, b2, g2, s2, hb2, f2⟩ := (h.thing T1 p q b1 s1 (by omega)).ok
  have g1' := g1.frame f2
  refine seq_nx (par_e (d1 := d1) (d2 := d2) (T1 := T2) (cons_e ((call1 (d := .obj p) (T1 := T) rfl).trans e1) (cons_e ((call1 (d := .obj p) (T1 := T1) rfl).trans e2) rfl))) ?_
  simp only [List.set_cons_succ, List.set_cons_zero]
  refine seq_nx (par_e (d1 := .exn (CA j) (fldOf (eN j)) d1) (d2 := .exn (CA j) (fldOf (eN j)) d2) (T1 := T2) (cons_e ((call2 (d := .int j) (e := d1) (T1 := T2) (T2 := T2) rfl rfl).trans (h.made j T2 d1 hj)) (cons_e ((call2 (d := .int j) (e := d2) (T1 := T2) (T2 := T2) rfl rfl).trans (h.named j T2 d2 hj)) rfl))) ?_
  simp only [List.set_cons_succ, List.set_cons_zero]
  have k1 : ∀ (a8 a9 : Option D) (T' : Hq), mCall 2 (Φ 8) (mCons (mVar 3) (mCons (mVar 6) mNil)) [s0, some (.obj p), t, some (.int j), some d1, some d2, some (.exn (CA j) (fldOf (eN j)) d1), some (.exn (CA j) (fldOf (eN j)) d2), a8, a9] T' = .ok d1 T' := fun a8 a9 T' => (call2 (d := .int j) (e := .exn (CA j) (fldOf (eN j)) d1) (T1 := T') (T2 := T') rfl rfl).trans (h.kept j T' d1 hj)
  have k2 : ∀ (a8 a9 : Option D) (T' : Hq), mCall 2 (Φ 8) (mCons (mVar 3) (mCons (mVar 7) mNil)) [s0, some (.obj p), t, some (.int j), some d1, some d2, some (.exn (CA j) (fldOf (eN j)) d1), some (.exn (CA j) (fldOf (eN j)) d2), a8, a9] T' = .ok d2 T' := fun a8 a9 T' => (call2 (d := .int j) (e := .exn (CA j) (fldOf (eN j)) d2) (T1 := T') (T2 := T') rfl rfl).trans (h.kept j T' d2 hj)
  have L1 : ∀ (a8 a9 : Option D) (T' : Hq), Gd p q T' d1 → mCall 2 (Φ 11) (mCons (mCall 2 (Φ 8) (mCons (mVar 3) (mCons (mVar 6) mNil))) (mCons (mVar 4) mNil)) [s0, some (.obj p), t, some (.int j), some d1, some d2, some (.exn (CA j) (fldOf (eN j)) d1), some (.exn (CA j) (fldOf (eN j)) d2), a8, a9] T' = .ok (.bl true) T' := fun a8 a9 T' g => (call2 (k1 a8 a9 T') (e := d1) (T2 := T') rfl).trans (h.like p q T' d1 g)
  have L2 : ∀ (a8 a9 : Option D) (T' : Hq), Gd p q T' d2 → mCall 2 (Φ 11) (mCons (mCall 2 (Φ 8) (mCons (mVar 3) (mCons (mVar 7) mNil))) (mCons (mVar 5) mNil)) [s0, some (.obj p), t, some (.int j), some d1, some d2, some (.exn (CA j) (fldOf (eN j)) d1), some (.exn (CA j) (fldOf (eN j)) d2), a8, a9] T' = .ok (.bl true) T' := fun a8 a9 T' g => (call2 (k2 a8 a9 T') (e := d2) (T2 := T') rfl).trans (h.like p q T' d2 g)
  refine seq_if (x := false) (T1 := T2) ((bor_f (bnot_e (bval_e (L1 _ _ _ g1')))).trans (bnot_e (bval_e (L2 _ _ _ g2)))) (fun z => by cases z) (fun _ => ?_)
  refine seq_for (J := fun l' T' => (∃ a8, l' = [s0, some (.obj p), t, some (.int j), some d1, some d2, some (.exn (CA j) (fldOf (eN j)) d1), some (.exn (CA j) (fldOf (eN j)) d2), a8, a9]) ∧ T' = T2) ?_ ?_
  · have it : iSeq (mTup (mCons (mVar 6) (mCons (mVar 7) mNil))) [s0, some (.obj p), t, some (.int j), some d1, some d2, some (.exn (CA j) (fldOf (eN j)) d1), some (.exn (CA j) (fldOf (eN j)) d2), a8, a9] T2 = .ok (2, getL [.exn (CA j) (fldOf (eN j)) d1, .exn (CA j) (fldOf (eN j)) d2]) T2 := by
      unfold iSeq; rw [tup_e (xs := [.exn (CA j) (fldOf (eN j)) d1, .exn (CA j) (fldOf (eN j)) d2]) (T1 := T2) rfl (by simp)]; rfl
    rw [for_wp, it]
    refine loop_wp (n := 2) (fun i => .exn (CA j) (fldOf (eN j)) (if i = 0 then d1 else d2)) (fun i l' T' => (∃ a8, l' = [s0, some (.obj p), t, some (.int j), some d1, some d2, some (.exn (CA j) (fldOf (eN j)) d1), some (.exn (CA j) (fldOf (eN j)) d2), a8, a9]) ∧ T' = T2) ?_ ?_ (fun l' T' z => z) 2 0 _ _ rfl ⟨⟨_, rfl⟩, rfl⟩
    · intro i l' T' _
      unfold getL
      match i with
      | 0 => rfl
      | 1 => rfl
      | i + 2 => rw [if_neg (by omega)]; simp
    · rintro i l' T' hi ⟨⟨x, rfl⟩, rfl⟩
      rw [name_wp]
      simp only [List.set_cons_succ, List.set_cons_zero]
      refine if_e (x := false) (T1 := T') ((bor_f (bnot_e (bval_e ((callB2 (d := .exn (CA j) (fldOf (eN j)) (if i = 0 then d1 else d2)) (e := .cls (CA 9)) (T1 := T') (T2 := T') rfl rfl).trans (isi_o inj hj))))).trans (bnot_e (bval_e ((callB2 (d := .exn (CA j) (fldOf (eN j)) (if i = 0 then d1 else d2)) (e := .tyv "ValueError") (T1 := T') (T2 := T') rfl rfl).trans (isi_v hj))))) (fun z => by cases z) (fun _ => ?_)
      exact ⟨⟨_, rfl⟩, rfl⟩
  rintro l' T' ⟨⟨a8', rfl⟩, rfl⟩
  obtain ⟨n, X, ec, en, hn⟩ := h.caught j T' d1 hj
  have c1 : mCall 2 (Φ 10) (mCons (mVar 3) (mCons (mVar 4) mNil)) [s0, some (.obj p), t, some (.int j), some d1, some d2, some (.exn (CA j) (fldOf (eN j)) d1), some (.exn (CA j) (fldOf (eN j)) d2), a8', a9] T' = .ok (.obj n) (T' ++ X) := (call2 (d := .int j) (e := d1) (T1 := T') (T2 := T') rfl rfl).trans ec
  obtain ⟨T3, hT3⟩ : ∃ T3, T3 = T' ++ X := ⟨_, rfl⟩
  rw [← hT3] at c1 en
  have c2 : mLst (mCons (mConst (.bl true)) mNil) [s0, some (.obj p), t, some (.int j), some d1, some d2, some (.exn (CA j) (fldOf (eN j)) d1), some (.exn (CA j) (fldOf (eN j)) d2), a8', a9] T3 = .ok (.obj T3.length) (T3 ++ [.lst [.bl true]]) := lst_e rfl (by simp)
  obtain ⟨T4, hT4⟩ : ∃ T4, T4 = T3 ++ [O.lst [.bl true]] := ⟨_, rfl⟩
  rw [← hT4] at c2
  obtain ⟨_, _, c3, zs, T5, rfl, rfl, rfl, rfl⟩ := (mcomp_sat (own := [9]) (p := .one 9) (cond := bYes) (elt := mBin eqD2 (mVar 9) (mVar 3)) (l := [s0, some (.obj p), t, some (.int j), some d1, some d2, some (.exn (CA j) (fldOf (eN j)) d1), some (.exn (CA j) (fldOf (eN j)) d2), a8', a9]) (T := T4) (T1 := T4) (n := 9) (g := getR 0 9)
    (Q := fun zs T'' => T'' = T4 ∧ zs = (List.range 9).map fun (i : Nat) => D.bl (((0 : Int) + (i : Int)) == (j : Int))) (rng_e (m := mCons (mConst (.int 9)) mNil) rfl (by decide)) (by decide) (fun i => .int (0 + i))
    (fun i ys T'' => T'' = T4 ∧ ys = (List.range i).map fun (i : Nat) => D.bl (((0 : Int) + (i : Int)) == (j : Int))) ⟨rfl, rfl⟩ (fun i ys T'' _ => rfl)
    (fun i ys T'' hi ⟨e1, e2⟩ => by
      refine ⟨_, rfl, ?_⟩
      show Res.sat (.ok true T'') _
      refine ⟨fun _ => ?_, fun z => by cases z⟩
      show (mBin eqD2 (mVar 9) (mVar 3) [s0, some (.obj p), t, some (.int j), some d1, some d2, some (.exn (CA j) (fldOf (eN j)) d1), some (.exn (CA j) (fldOf (eN j)) d2), a8', some (.int (0 + i))] T'').sat _
      rw [(bin_e (x := .int (0 + i)) (y := .int j) (T1 := T'') (T2 := T'') rfl rfl).trans eqD2_int]
      exact ⟨e1, by rw [e2, List.range_succ, List.map_append]; rfl⟩) (fun ys T'' z => z)).ok
  have g3 : (T5 ++ [O.lst ((List.range 9).map fun (i : Nat) => D.bl (((0 : Int) + (i : Int)) == (j : Int)))])[T3.length]? = some (.lst [.bl true]) := by rw [hT4]; exact app_get app_new
  have c4 := add_lst g3 app_new (by simp)
  rw [← bs_is hj] at c4
  have c5 := ne_same (n := n) (m := (T5 ++ [O.lst ((List.range 9).map fun (i : Nat) => D.bl (((0 : Int) + (i : Int)) == (j : Int)))]).length) (T := T5 ++ [O.lst ((List.range 9).map fun (i : Nat) => D.bl (((0 : Int) + (i : Int)) == (j : Int)))] ++ [O.lst (bs j)]) (by rw [hT4]; exact app_get (app_get (app_get en))) app_new bs_fl
  refine seq_if (x := false) (asB_e ((bin_e c1 ((bin_e c2 c3).trans c4)).trans c5)) (fun z => by cases z) (fun _ => ?_)
  have s6 : Spr (T5 ++ [O.lst ((List.range 9).map fun (i : Nat) => D.bl (((0 : Int) + (i : Int)) == (j : Int)))] ++ [O.lst (bs j)]) p q b2 := by rw [hT4, hT3]; exact s2.app.app.app.app
  have f6 : Frm p q T' (T5 ++ [O.lst ((List.range 9).map fun (i : Nat) => D.bl (((0 : Int) + (i : Int)) == (j : Int)))] ++ [O.lst (bs j)]) := by rw [hT4, hT3]; exact ((Frm.app.trans Frm.app).trans Frm.app).trans Frm.app
  refine if_e (x := false) (bnot_e (bval_e (L1 _ _ _ (g1'.frame f6)))) (fun z => by cases z) (fun _ => ?_)
  exact ⟨_, _, _, _, _, _, b2, rfl, s6, by omega⟩
end Mn.K30

set_option Elab.async false
set_option linter.all false
set_option maxRecDepth 100000
set_option maxHeartbeats 1000000
namespace Mn.K30
open PySem PySem.Spec PyProof.Rows L2 Mn
variable {CA : Nat → Addr} {Φ : Nat → FMn}
theorem law_true (h : Cal CA Φ) (inj : ∀ i j, i < 10 → j < 10 → CA i = CA j → i = j) {ns : List Int} (hl : ns.length ≤ 63) : ∃ T', runBody 10 1 (m_law CA Φ) [.rol (ns.map D.int)] [] = .ok (.bl true) T' := by
  suffices hs : (runBody 10 1 (m_law CA Φ) [.rol (ns.map D.int)] []).sat fun d _ => d = .bl true by
    obtain ⟨d, T', e, rfl⟩ := hs.ok
    exact ⟨T', e⟩
  refine body_wp rfl ?_
  have l0 : startD 10 [.rol (ns.map D.int)] = [some (.rol (ns.map D.int)), none, none, none, none, none, none, none, none, none] := rfl
  rw [l0]; unfold m_law
  refine seq_nx (set_e (d := .obj 1) (T1 := [] ++ [.lst (ns.map D.int)] ++ [.lst [.obj 0, .int 0, .int 0, .int 29]]) ((call1 (d := .rol (ns.map D.int)) (T1 := []) rfl).trans (h.beg [] ns))) ?_
  simp only [List.set_cons_succ, List.set_cons_zero]
  have s0 : Spr ([] ++ [O.lst (ns.map D.int)] ++ [.lst [.obj 0, .int 0, .int 0, .int 29]]) 1 0 0 := spr_new (T := []) hl
  revert s0
  generalize ([] ++ [O.lst (ns.map D.int)] ++ [O.lst [.obj 0, .int 0, .int 0, .int 29]] : Hq) = T0
  intro s0
  refine seq_for (J := fun _ _ => True) ?_ (fun l T' _ => ret_e rfl rfl)
  rw [for_wp, rng_e (m := mCons (mConst (.int 3)) mNil) (j := 3) (T1 := T0) rfl (by decide)]
  refine loop_wp (n := 3) (fun i => .int (i : Int)) (fun i l' T' => ∃ a2 a3 a4 a5 a6 a7 a8 a9 b', l' = [some (.rol (ns.map D.int)), some (.obj 1), a2, a3, a4, a5, a6, a7, a8, a9] ∧ Spr T' 1 0 b' ∧ b' ≤ 2000 * i) ?_ ?_ (fun _ _ _ => trivial) 3 0 _ _ rfl ⟨_, _, _, _, _, _, _, _, 0, rfl, s0, by decide⟩
  · intro i l' T' _
    show some (if i < 3 then some (D.int (0 + (i : Int))) else none) = _
    rw [Int.zero_add]
  rintro i l' T' hi ⟨a2, a3, a4, a5, a6, a7, a8, a9, b', rfl, s1, hb1⟩
  rw [name_wp]
  simp only [List.set_cons_succ, List.set_cons_zero]
  rw [for_wp, rng_e (m := mCons (mConst (.int 9)) mNil) (j := 9) (T1 := T') rfl (by decide)]
  refine loop_wp (n := 9) (fun i => .int (i : Int)) (fun k l' T' => ∃ a3 a4 a5 a6 a7 a8 a9 b'', l' = [some (.rol (ns.map D.int)), some (.obj 1), some (.int (i : Int)), a3, a4, a5, a6, a7, a8, a9] ∧ Spr T' 1 0 b'' ∧ b'' ≤ b' + 120 * k) ?_ ?_ ?_ 9 0 _ _ rfl ⟨_, _, _, _, _, _, _, b', rfl, s1, by omega⟩
  · intro k l' T' _
    show some (if k < 9 then some (D.int (0 + (k : Int))) else none) = _
    rw [Int.zero_add]
  · rintro k l' T' hk ⟨a3, a4, a5, a6, a7, a8, a9, b'', rfl, s2, hb2⟩
    rw [name_wp]
    simp only [List.set_cons_succ, List.set_cons_zero]
    refine SR.wp.mono (turn_ok h inj hk (b := b'') s2 (by omega) rfl) ?_ (fun _ _ z => z.elim) (fun _ _ z => z.elim) (fun _ _ z => z.elim) (fun _ _ _ _ z => z.elim)
    rintro l' T' ⟨a4, a5, a6, a7, a8, a9, b3, rfl, s3, hb3⟩
    exact ⟨_, _, _, _, _, _, _, b3, rfl, s3, by omega⟩
  · rintro l' T' ⟨a3, a4, a5, a6, a7, a8, a9, b'', rfl, s2, hb2⟩
    exact ⟨_, _, _, _, _, _, _, _, b'', rfl, s2, by omega⟩
theorem lv_s (n : Nat) : Lv CA (n + 1) 12 = runBody 10 1 (m_law CA (Lv CA n)) := rfl
theorem law_lv (inj : ∀ i j, i < 10 → j < 10 → CA i = CA j → i = j) (k : Nat) {ns : List Int} (hl : ns.length ≤ 63) : ∃ T', Lv CA (k + 4 + 1) 12 [.rol (ns.map D.int)] [] = .ok (.bl true) T' := by
  rw [lv_s (k + 4)]
  exact law_true (cal inj k) inj hl
end Mn.K30
namespace Mn
open PySem PySem.Spec PyProof.Rows L2
theorem noex {P : Program} {w : World} {K : PySem.W.Frag} {mg : Str → Option Value} {base : Heap} {k : Nat} {f : Addr} {fd : FuncData} {ps : List Str} {sp : Sp} (F : FnOk P w K mg base (L2.CX P w) k f fd ps sp) :
    FnOk P w K mg base L2.CX0 k f fd ps (fun vs H Q _ => sp vs H Q fun _ _ _ => False) where
  len := fun vs H Q E h => F.len _ _ _ _ h
  run := fun A outer s H args us vs Q E hr he hb hv hs => codeAny_mono (F.run A outer s H args us vs Q _ hr he hb hv hs) fun r s' h => by
    rcases r with e | (v | _ | _ | _)
    · obtain ⟨a, B, H', cls, d, e1, fl, hok, ub, na, os, ag, hE⟩ := h
      exact hE.elim
    · exact h
    · exact h
    · exact h
    · exact h
end Mn
open PySem PySem.W PySem.Calls PyProof.Rows Mn.K30 in
theorem PySem.Challenge.cw_promisedpost_k30_errors_made_holds : PySem.Challenge.rw_promisedpost_k30_errors_made.Holds := by
  w_on; o_law
  refine HandSHeadRun.head_any (r := OpenLaw.row PySem.Challenge.rw_promisedpost_k30_errors_made) (q := view (OpenLaw.row PySem.Challenge.rw_promisedpost_k30_errors_made).prog [24]) (H := Mn.K30.hk) (ob := Mn.K30.ob) (M := 20000) (loose := Mn.K30.lo) (d := HandSHeadRun.topDef (OpenLaw.row PySem.Challenge.rw_promisedpost_k30_errors_made).prog 24) (kwd := []) Mn.K30.ob_eq
    (by kernel_rfl) (fun s => by kernel_rfl) Mn.K30.run (by kernel_rfl) (by kernel_rfl) (by kernel_rfl) (by rfl) (by first | assumption | decide +kernel) (by decide +kernel) ⟨rfl, rfl, rfl, rfl, rfl, by decide +kernel⟩ ?hw ?hc
  case hw => w_witness2
  case hc =>
    refine L2.walk_ofE (l := PySem.Challenge.rw_promisedpost_k30_errors_made) (n := 63) (k := 42) (x := "script") (CX := L2.CX0) rfl (by decide) (by kernel_rfl) ⟨rfl, by decide, by decide⟩ ?F (fun _ _ _ _ z => z)
    intro w mg fa h Y G hmg0
    obtain ⟨K, KX, c⟩ := Y
    have hmg : mg ("law" : PySem.Str) = some (.ref fa) := by
      have e : (HandSHeadRun.topDef (OpenLaw.row PySem.Challenge.rw_promisedpost_k30_errors_made).prog 24).name = ("law" : PySem.Str) := by kernel_rfl
      rw [← e]
      exact hmg0
    obtain ⟨CA, EA, fd, hb, hF⟩ := Mn.K30.facts (w := w) KX G hmg c (36 + 4)
    refine ⟨K, fd, fun vs H Q _ => Mn.spOf 1 K mg (Mn.K30.Lv CA (36 + 4 + 1) 12) vs H Q fun _ _ _ => False, KX, hb, fun H a ns hl hO hS => ?_, fun base kb hb2 => Mn.noex (hF base kb hb2)⟩
    obtain ⟨T', e⟩ := Mn.K30.law_lv EA.inj 36 hl
    exact Mn.end_sp hO hS e
