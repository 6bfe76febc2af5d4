import PyProof.Rows.All
import Wide.All
import OpenK.AllK
import Wide.FinOn
import HandS.ForMost
import HandS.ForExc
import HandS.IsInst
import HandS.Zip
import HandS.Deep
import HandS.Defaults
import HandS.CallSlots
import HandS.Flow
import HandS.Style
import HandS.TupAny
import HandS.Set
import HandS.SetTxt0
import HandS.SetTxtIn
import HandS.SetFor
import HandS.Text
import PyProof.Rows.SortStr
import HandS.Star
import HandS.MakeKw
import HandS.FStr
import HandS.RaiseMore
import HandS.SortInts
import HandS.Property
import HandS.ClsMeth
import PyProof.SumWalkG
import HandS.TupMul
import KE.GoesMore
import PySem.Challenge.RW_newslate_k22_whole_sends
set_option Elab.async false
set_option linter.all false
set_option maxRecDepth 100000
set_option maxHeartbeats 1000000
/-! A clean reading over plain data: values D, logical heap LH, results Re; each construct once. -/
namespace NL
open PySem PySem.Spec L2

/-! ### data -/
inductive D where
  | non | bl (b : Bool) | int (i : Int) | str (x : Str) | tup (xs : List D) | loc (n : Nat) | raw (v : V) | fl (xs : List D)
inductive Ob where
  | lst (xs : List D)
  | ins (C : Addr) (fs : List (Str × D))
abbrev LH := List Ob
structure Ex where
  x : Str
  fs : List (Str × D)
inductive Re (a : Type) where
  | ok (a : a) (h : LH) | er (x : Ex) (h : LH) | bad
def Re.bind {a b : Type} : Re a → (a → LH → Re b) → Re b
  | .ok x h, f => f x h
  | .er x h, _ => .er x h
  | .bad, _ => .bad
@[simp] theorem Re.bind_ok {a b : Type} (x : a) (h : LH) (f : a → LH → Re b) : (Re.ok x h).bind f = f x h := rfl
@[simp] theorem Re.bind_er {a b : Type} (x : Ex) (h : LH) (f : a → LH → Re b) : (Re.er x h : Re a).bind f = .er x h := rfl
@[simp] theorem Re.bind_bad {a b : Type} (f : a → LH → Re b) : (Re.bad : Re a).bind f = .bad := rfl
abbrev LE := List (Option D)

/-! ### how data lie in the tracked heap -/
/-- a list that is never written: locked (the script), or of the written part -/
def FzL (K : PySem.W.Frag) (H : Hp) (a : Addr) (xs : List V) : Prop :=
  (∃ o, H a = some (.frz o (.lst xs))) ∨ ∃ (o : Obj) (its : Array Value) (n : Nat), K.lookup a = some o ∧ o.cls = .type "list" ∧ o.dict = none ∧ o.data = .seq its n ∧ its.size ≤ sizeLine ∧ Vals xs its.toList
theorem FzL.sq {K H a xs} (h : FzL K H a xs) : SqL K H a xs := h.elim (fun z => .inl (.inr z)) .inr
section
variable (K : PySem.W.Frag) (r : List Addr) (H : Hp)
mutual
inductive Rel : D → V → Prop
  | non : Rel .non .non
  | bl (b : Bool) : Rel (.bl b) (.bl b)
  | int (i : Int) : Rel (.int i) (.int i)
  | str (x : Str) : Rel (.str x) (.str x)
  | raw (v : V) : Rel (.raw v) v
  | loc {n : Nat} {a : Addr} : r[n]? = some a → Rel (.loc n) (.ref a)
  | tup {a : Addr} {xs : List V} {ds : List D} : SqT K H a xs → RelL ds xs → Rel (.tup ds) (.ref a)
  | fl {a : Addr} {xs : List V} {ds : List D} : FzL K H a xs → RelL ds xs → Rel (.fl ds) (.ref a)
inductive RelL : List D → List V → Prop
  | nil : RelL [] []
  | cons {d : D} {v : V} {ds : List D} {vs : List V} : Rel d v → RelL ds vs → RelL (d :: ds) (v :: vs)
end
/-- an instance's fields -/
inductive RelF : List (Str × D) → List (Str × V) → Prop
  | nil : RelF [] []
  | cons {x : Str} {d : D} {v : V} {fs : List (Str × D)} {gs : List (Str × V)} : Rel K r H d v → RelF fs gs → RelF ((x, d) :: fs) ((x, v) :: gs)
def ObRel (a : Addr) : Ob → Prop
  | .lst xs => ∃ vs, H a = some (.lst vs) ∧ RelL K r H xs vs
  | .ins C fs => ∃ dx gs, H a = some (.ins C dx gs) ∧ RelF K r H fs gs
structure SimH (lh : LH) : Prop where
  len : r.length = lh.length
  nd : r.Nodup
  ob : ∀ (n : Nat) (a : Addr) (o : Ob), r[n]? = some a → lh[n]? = some o → ObRel K r H a o
structure SimS (e : LE) (s : St) : Prop where
  len : e.length = s.length
  sl : ∀ (i : Nat) (d : D), e[i]? = some (some d) → ∃ v, s[i]? = some (some v) ∧ Rel K r H d v
end
structure Ext (K : PySem.W.Frag) (r : List Addr) (H : Hp) (r' : List Addr) (H' : Hp) : Prop where
  pre : ∀ (n : Nat) (a : Addr), r[n]? = some a → r'[n]? = some a
  tup : ∀ a xs, SqT K H a xs → SqT K H' a xs
  fl : ∀ a xs, FzL K H a xs → FzL K H' a xs
theorem Ext.refl {K r H} : Ext K r H r H := ⟨fun _ _ h => h, fun _ _ h => h, fun _ _ h => h⟩
theorem Ext.trans {K r H r1 H1 r2 H2} (a : Ext K r H r1 H1) (b : Ext K r1 H1 r2 H2) : Ext K r H r2 H2 :=
  ⟨fun n c h => b.pre n c (a.pre n c h), fun c xs h => b.tup c xs (a.tup c xs h), fun c xs h => b.fl c xs (a.fl c xs h)⟩
section
variable {K : PySem.W.Frag} {r r' : List Addr} {H H' : Hp}
mutual
theorem Rel.mono (x : Ext K r H r' H') : ∀ (d : D) (v : V), Rel K r H d v → Rel K r' H' d v
  | .non, _, h => by cases h; exact .non
  | .bl b, _, h => by cases h; exact .bl b
  | .int b, _, h => by cases h; exact .int b
  | .str b, _, h => by cases h; exact .str b
  | .raw b, _, h => by cases h; exact .raw b
  | .loc n, _, h => by cases h with | loc e => exact .loc (x.pre _ _ e)
  | .tup ds, _, h => by cases h with | tup e q => exact .tup (x.tup _ _ e) (RelL.mono x ds _ q)
  | .fl ds, _, h => by cases h with | fl e q => exact .fl (x.fl _ _ e) (RelL.mono x ds _ q)
theorem RelL.mono (x : Ext K r H r' H') : ∀ (ds : List D) (vs : List V), RelL K r H ds vs → RelL K r' H' ds vs
  | [], _, h => by cases h; exact .nil
  | d :: ds, _, h => by cases h with | cons p q => exact .cons (Rel.mono x d _ p) (RelL.mono x ds _ q)
end
theorem SimS.mono {e : LE} {s : St} (x : Ext K r H r' H') (h : SimS K r H e s) : SimS K r' H' e s :=
  ⟨h.len, fun i d q => let ⟨v, a, b⟩ := h.sl i d q; ⟨v, a, b.mono x⟩⟩
theorem SimS.set {e : LE} {s : St} {d : D} {v : V} (h : SimS K r H e s) (i : Nat) (q : Rel K r H d v) : SimS K r H (e.set i (some d)) (s.set i (some v)) := by
  refine ⟨by rw [List.length_set, List.length_set, h.len], fun j c hj => ?_⟩
  by_cases e1 : i = j
  · subst e1
    by_cases hl : i < e.length
    · rw [List.getElem?_set_self hl] at hj
      cases hj
      exact ⟨v, List.getElem?_set_self (by rw [← h.len]; exact hl), q⟩
    · rw [List.getElem?_eq_none (by rw [List.length_set]; omega)] at hj
      cases hj
  · rw [List.getElem?_set_ne e1] at hj
    obtain ⟨u, a, b⟩ := h.sl j c hj
    exact ⟨u, by rw [List.getElem?_set_ne e1]; exact a, b⟩
theorem RelL.length : ∀ {ds : List D} {vs : List V}, RelL K r H ds vs → ds.length = vs.length
  | _, _, .nil => rfl
  | _, _, .cons _ q => by rw [List.length_cons, List.length_cons, q.length]
theorem RelL.get : ∀ {ds : List D} {vs : List V} {i : Nat} {d : D}, RelL K r H ds vs → ds[i]? = some d → ∃ v, vs[i]? = some v ∧ Rel K r H d v
  | _, _, _, _, .nil, h => by simp at h
  | _, _, 0, d, .cons p q, h => by simp at h; subst h; exact ⟨_, rfl, p⟩
  | _, _, i + 1, d, .cons p q, h => by
    obtain ⟨v, a, b⟩ := q.get (i := i) (by simpa using h)
    exact ⟨v, by simpa using a, b⟩
theorem RelL.app : ∀ {ds es : List D} {vs us : List V}, RelL K r H ds vs → RelL K r H es us → RelL K r H (ds ++ es) (vs ++ us)
  | _, _, _, _, .nil, h => h
  | _, _, _, _, .cons p q, h => .cons p (q.app h)
theorem RelL.snoc {ds : List D} {vs : List V} {d : D} {v : V} (h : RelL K r H ds vs) (q : Rel K r H d v) : RelL K r H (ds ++ [d]) (vs ++ [v]) := h.app (.cons q .nil)
theorem RelL.take : ∀ (n : Nat) {ds : List D} {vs : List V}, RelL K r H ds vs → RelL K r H (ds.take n) (vs.take n)
  | 0, _, _, _ => .nil
  | _ + 1, _, _, .nil => .nil
  | n + 1, _, _, .cons p q => .cons p (q.take n)
theorem RelL.drop : ∀ (n : Nat) {ds : List D} {vs : List V}, RelL K r H ds vs → RelL K r H (ds.drop n) (vs.drop n)
  | 0, _, _, h => h
  | _ + 1, _, _, .nil => .nil
  | n + 1, _, _, .cons p q => q.drop n
theorem RelL.set : ∀ (n : Nat) {ds : List D} {vs : List V} {d : D} {v : V}, RelL K r H ds vs → Rel K r H d v → RelL K r H (ds.set n d) (vs.set n v)
  | _, _, _, _, _, .nil, _ => .nil
  | 0, _, _, _, _, .cons p q, h => .cons h q
  | n + 1, _, _, _, _, .cons p q, h => .cons p (q.set n h)
theorem RelL.rep : ∀ (n : Nat) {d : D} {v : V}, Rel K r H d v → RelL K r H (List.replicate n d) (List.replicate n v)
  | 0, _, _, _ => .nil
  | n + 1, _, _, h => .cons h (RelL.rep n h)
theorem RelL.erase : ∀ (n : Nat) {ds : List D} {vs : List V}, RelL K r H ds vs → RelL K r H (ds.eraseIdx n) (vs.eraseIdx n)
  | _, _, _, .nil => .nil
  | 0, _, _, .cons p q => q
  | n + 1, _, _, .cons p q => .cons p (q.erase n)
theorem RelF.mono (x : Ext K r H r' H') : ∀ {fs : List (Str × D)} {gs : List (Str × V)}, RelF K r H fs gs → RelF K r' H' fs gs
  | _, _, .nil => .nil
  | _, _, .cons p q => .cons (p.mono x) (q.mono x)
theorem RelF.get {f : Str} : ∀ {fs : List (Str × D)} {gs : List (Str × V)}, RelF K r H fs gs → (∀ d, fs.lookup f = some d → ∃ v, gs.lookup f = some v ∧ Rel K r H d v) ∧ (fs.lookup f = none → gs.lookup f = none)
  | _, _, .nil => ⟨fun d h => (nomatch h), fun _ => rfl⟩
  | _, _, .cons (x := x) p q => by
    have ih := q.get (f := f)
    by_cases e : f = x
    · subst e
      refine ⟨fun d h => ?_, fun h => ?_⟩
      · rw [List.lookup_cons_self] at h
        cases h
        exact ⟨_, List.lookup_cons_self, p⟩
      · rw [List.lookup_cons_self] at h
        cases h
    · have e' : (f == x) = false := by simpa using e
      refine ⟨fun d h => ?_, fun h => ?_⟩
      · rw [List.lookup_cons, e'] at h
        obtain ⟨v, a, b⟩ := ih.1 d h
        exact ⟨v, by rw [List.lookup_cons, e']; exact a, b⟩
      · rw [List.lookup_cons, e'] at h
        rw [List.lookup_cons, e']
        exact ih.2 h
theorem RelF.len : ∀ {fs : List (Str × D)} {gs : List (Str × V)}, RelF K r H fs gs → fs.length = gs.length
  | _, _, .nil => rfl
  | _, _, .cons _ q => by rw [List.length_cons, List.length_cons, q.len]
theorem ObRel.mono {a : Addr} {o : Ob} (x : Ext K r H r' H') (hk : H' a = H a) (h : ObRel K r H a o) : ObRel K r' H' a o := by
  cases o with
  | lst xs => obtain ⟨vs, e, q⟩ := h; exact ⟨vs, hk.trans e, q.mono x⟩
  | ins C fs => obtain ⟨dx, gs, e, q⟩ := h; exact ⟨dx, gs, hk.trans e, q.mono x⟩
/-- heaps that grow -/
theorem Ext.laid {p : Addr} {o : HO} (hp : H p = none) : Ext K r H r (upd H p o) := by
  refine ⟨fun _ _ h => h, fun a xs h => ?_, fun a xs h => h.elim (fun ⟨ob, z⟩ => .inl ⟨ob, by rw [upd_ne (ne_of_none z hp)]; exact z⟩) .inr⟩
  rcases h with (h | ⟨ob, h⟩) | h
  · exact .inl (.inl (by rw [upd_ne (ne_of_none h hp)]; exact h))
  · exact .inl (.inr ⟨ob, by rw [upd_ne (ne_of_none h hp)]; exact h⟩)
  · exact .inr h
theorem SimH.free {lh : LH} (h : SimH K r H lh) {p : Addr} (hp : H p = none) : p ∉ r := fun hm => by
  obtain ⟨n, hn⟩ := List.getElem?_of_mem hm
  have hl : n < lh.length := by rw [← h.len]; exact (List.getElem?_eq_some_iff.mp hn).1
  have q := h.ob n p _ hn (List.getElem?_eq_getElem hl)
  cases e : lh[n] with
  | lst xs => rw [e] at q; obtain ⟨vs, z, _⟩ := q; rw [hp] at z; cases z
  | ins C fs => rw [e] at q; obtain ⟨dx, gs, z, _⟩ := q; rw [hp] at z; cases z
/-- an immutable thing is laid -/
theorem SimH.laidT {lh : LH} {p : Addr} {o : HO} (h : SimH K r H lh) (hp : H p = none) : SimH K r (upd H p o) lh :=
  ⟨h.len, h.nd, fun n a ob e1 e2 => (h.ob n a ob e1 e2).mono (Ext.laid hp) (upd_ne fun z => h.free hp (by rw [← z]; exact List.mem_of_getElem? e1))⟩
theorem Ext.more {p : Addr} {o : HO} (hp : H p = none) : Ext K r H (r ++ [p]) (upd H p o) := by
  have x := Ext.laid (K := K) (r := r) (o := o) hp
  refine ⟨fun n a h => ?_, x.tup, x.fl⟩
  rw [List.getElem?_append_left (List.getElem?_eq_some_iff.mp h).1]
  exact h
/-- a thing is laid -/
theorem SimH.laidO {lh : LH} {p : Addr} {o : HO} {ob : Ob} (h : SimH K r H lh) (hp : H p = none) (q : ObRel K (r ++ [p]) (upd H p o) p ob) : SimH K (r ++ [p]) (upd H p o) (lh ++ [ob]) := by
  have x : Ext K r H (r ++ [p]) (upd H p o) := Ext.more hp
  refine ⟨by rw [List.length_append, List.length_append, h.len]; rfl, ?_, fun n a ob e1 e2 => ?_⟩
  · rw [List.nodup_append]
    refine ⟨h.nd, by simp, fun a ha b hb => ?_⟩
    have e : b = p := by simpa using hb
    subst e
    exact fun z => h.free hp (by rw [← z]; exact ha)
  · by_cases hn : n < r.length
    · rw [List.getElem?_append_left hn] at e1
      rw [List.getElem?_append_left (by rw [← h.len]; exact hn)] at e2
      exact (h.ob n a ob e1 e2).mono x (upd_ne fun z => h.free hp (by rw [← z]; exact List.mem_of_getElem? e1))
    · have l1 := (List.getElem?_eq_some_iff.mp e1).1
      have e : n = r.length := by rw [List.length_append] at l1; simp at l1; omega
      subst e
      rw [List.getElem?_concat_length] at e1
      rw [h.len, List.getElem?_concat_length] at e2
      cases e1
      cases e2
      exact q
/-- a list is laid -/
theorem SimH.laid {lh : LH} {p : Addr} {ds : List D} {vs : List V} (h : SimH K r H lh) (hp : H p = none) (q : RelL K r H ds vs) : SimH K (r ++ [p]) (upd H p (.lst vs)) (lh ++ [.lst ds]) :=
  h.laidO hp ⟨vs, upd_same, q.mono (Ext.more hp)⟩
theorem laid_new {lh : LH} {p : Addr} (h : SimH K r H lh) : (r ++ [p])[lh.length]? = some p := by rw [← h.len, List.getElem?_concat_length]
/-- what may be written over: lists, instances -/
def Soft : HO → Prop | .lst _ => True | .ins _ _ _ => True | _ => False
theorem Soft.tup {o : HO} (h : Soft o) (xs : List V) : (.tup xs : HO) ≠ o := fun z => by rw [← z] at h; exact h
theorem Soft.frz {o : HO} (h : Soft o) (b : Obj) (u : HO) : (.frz b u : HO) ≠ o := fun z => by rw [← z] at h; exact h
theorem Ext.wrO {p : Addr} {o o' : HO} (hp : H p = some o) (hs : Soft o) : Ext K r H r (upd H p o') := by
  refine ⟨fun _ _ h => h, fun a zs h => ?_, fun a zs h => h.elim (fun ⟨ob, z⟩ => .inl ⟨ob, by rw [upd_ne (ne_of z hp (hs.frz _ _))]; exact z⟩) .inr⟩
  rcases h with (h | ⟨ob, h⟩) | h
  · exact .inl (.inl (by rw [upd_ne (ne_of h hp (hs.tup _))]; exact h))
  · exact .inl (.inr ⟨ob, by rw [upd_ne (ne_of h hp (hs.frz _ _))]; exact h⟩)
  · exact .inr h
theorem SimH.wrO {lh : LH} {n : Nat} {p : Addr} {o o' : HO} {ob : Ob} (h : SimH K r H lh) (hn : r[n]? = some p) (hp : H p = some o) (hs : Soft o) (q : ObRel K r (upd H p o') p ob) : SimH K r (upd H p o') (lh.set n ob) := by
  have x : Ext K r H r (upd H p o') := Ext.wrO hp hs
  refine ⟨by rw [List.length_set, h.len], h.nd, fun m a ob' e1 e2 => ?_⟩
  by_cases e : n = m
  · subst e
    rw [hn] at e1
    cases e1
    rw [List.getElem?_set_self (by rw [← h.len]; exact (List.getElem?_eq_some_iff.mp hn).1)] at e2
    cases e2
    exact q
  · rw [List.getElem?_set_ne e] at e2
    have hne : a ≠ p := fun z => by
      subst z
      exact e (nd_ix h.nd hn e1)
    exact (h.ob m a ob' e1 e2).mono x (upd_ne hne)
theorem Ext.wr {p : Addr} {xs ys : List V} (hp : H p = some (.lst xs)) : Ext K r H r (upd H p (.lst ys)) := by
  refine ⟨fun _ _ h => h, fun a zs h => ?_, fun a zs h => h.elim (fun ⟨ob, z⟩ => .inl ⟨ob, by rw [upd_ne (ne_of z hp (by intro q; cases q))]; exact z⟩) .inr⟩
  rcases h with (h | ⟨ob, h⟩) | h
  · exact .inl (.inl (by rw [upd_ne (ne_of h hp (by intro z; cases z))]; exact h))
  · exact .inl (.inr ⟨ob, by rw [upd_ne (ne_of h hp (by intro z; cases z))]; exact h⟩)
  · exact .inr h
/-- a list is written -/
theorem SimH.wr {lh : LH} {n : Nat} {p : Addr} {xs : List V} {ds : List D} {vs : List V} (h : SimH K r H lh) (hn : r[n]? = some p) (hp : H p = some (.lst xs)) (q : RelL K r H ds vs) : SimH K r (upd H p (.lst vs)) (lh.set n (.lst ds)) := by
  have x : Ext K r H r (upd H p (.lst vs)) := Ext.wr hp
  refine ⟨by rw [List.length_set, h.len], h.nd, fun m a ob e1 e2 => ?_⟩
  by_cases e : n = m
  · subst e
    rw [hn] at e1
    cases e1
    rw [List.getElem?_set_self (by rw [← h.len]; exact (List.getElem?_eq_some_iff.mp hn).1)] at e2
    cases e2
    exact ⟨vs, upd_same, q.mono x⟩
  · rw [List.getElem?_set_ne e] at e2
    have hne : a ≠ p := fun z => by
      subst z
      exact e (nd_ix h.nd hn e1)
    exact (h.ob m a ob e1 e2).mono x (upd_ne hne)
end

/-! ### results and what is wanted of them -/
/-- an exception at D, and as it lies -/
def RelX (K : PySem.W.Frag) (mg : Str → Option Value) (r : List Addr) (H : Hp) (x : Ex) (c : Value) (dd : Option Addr) : Prop :=
  mg x.x = some c ∧ ((x.fs = [] ∧ dd = none) ∨ ∃ (d : Addr) (fv : List (Str × V)), dd = some d ∧ H d = some (.xd fv) ∧ RelL K r H (x.fs.map (·.2)) (fv.map (·.2)) ∧ x.fs.map (·.1) = fv.map (·.1))
section
variable (K : PySem.W.Frag) (mg : Str → Option Value) (W : XK)
def FinG {a b : Type} (R : List Addr → Hp → a → b → Prop) (r : List Addr) (H : Hp) (Q : b → Hp → Prop) : Re a → Prop
  | .ok d lh' => ∀ r' H' v, Ext K r H r' H' → SimH K r' H' lh' → R r' H' d v → Q v H'
  | .er x lh' => ∀ r' H' c dd, Ext K r H r' H' → SimH K r' H' lh' → RelX K mg r' H' x c dd → W c dd H'
  | .bad => False
end
section
variable {K : PySem.W.Frag} {mg : Str → Option Value} {W : XK}
theorem FinG.mono {a b : Type} {R : List Addr → Hp → a → b → Prop} {r r1 : List Addr} {H H1 : Hp} {Q : b → Hp → Prop} (x : Ext K r H r1 H1) : ∀ {t : Re a}, FinG K mg W R r H Q t → FinG K mg W R r1 H1 Q t
  | .ok d lh', h => fun r' H' v y => h r' H' v (x.trans y)
  | .er e lh', h => fun r' H' c dd y => h r' H' c dd (x.trans y)
  | .bad, h => h
theorem FinG.imp {a b : Type} {R : List Addr → Hp → a → b → Prop} {r : List Addr} {H : Hp} {Q Q' : b → Hp → Prop} (i : ∀ v H, Q v H → Q' v H) : ∀ {t : Re a}, FinG K mg W R r H Q t → FinG K mg W R r H Q' t
  | .ok d lh', h => fun r' H' v y z w => i _ _ (h r' H' v y z w)
  | .er e lh', h => h
  | .bad, h => h
theorem FinG.bind {a b c d : Type} {R : List Addr → Hp → a → b → Prop} {R' : List Addr → Hp → c → d → Prop} {r : List Addr} {H : Hp} {Q : d → Hp → Prop} {f : a → LH → Re c} : ∀ {t : Re a}, FinG K mg W R' r H Q (t.bind f) →
    FinG K mg W R r H (fun v H1 => ∃ r1 lh1 x, Ext K r H r1 H1 ∧ SimH K r1 H1 lh1 ∧ R r1 H1 x v ∧ FinG K mg W R' r1 H1 Q (f x lh1)) t
  | .ok x lh1, h => fun r1 H1 v y z w => ⟨r1, lh1, x, y, z, w, h.mono y⟩
  | .er e lh', h => h
  | .bad, h => h
theorem FinG.ok {a b : Type} {R : List Addr → Hp → a → b → Prop} {r : List Addr} {H : Hp} {Q : b → Hp → Prop} {d : a} {lh : LH} {v : b} (h : FinG K mg W R r H Q (.ok d lh)) (s : SimH K r H lh) (q : R r H d v) : Q v H := h r H v Ext.refl s q
theorem FinG.to {a b : Type} {R : List Addr → Hp → a → b → Prop} {r r' : List Addr} {H H' : Hp} {Q : b → Hp → Prop} {d : a} {lh : LH} {v : b} (h : FinG K mg W R r H Q (.ok d lh)) (x : Ext K r H r' H') (s : SimH K r' H' lh) (q : R r' H' d v) : Q v H' := h r' H' v x s q
end
end NL
set_option maxRecDepth 100000
set_option maxHeartbeats 1000000
namespace NL
open PySem PySem.Spec L2

/-! ### judgements -/
abbrev M := LE → LH → Re D
abbrev MT := LE → LH → Re Bool
abbrev MA := LE → LH → Re (List D)
def tG {a b : Type} (X : Cx) (W : WX) (R : List Addr → Hp → a → b → Prop) (m : LE → LH → Re a) : L2.St → Hp → (b → Hp → Prop) → Prop := fun s H Q =>
  ∃ r e lh, SimS X.K r H e s ∧ SimH X.K r H lh ∧ FinG X.K X.mg (fun c dd H' => W c dd s H') R r H Q (m e lh)
abbrev RB : List Addr → Hp → Bool → Bool → Prop := fun _ _ a b => a = b
def DE (X : Cx) (W : WX) (e : Expr) (m : M) : Prop := PE X e (tG X W (Rel X.K) m)
def DT (X : Cx) (W : WX) (e : Expr) (m : MT) : Prop := PT X e (tG X W RB m)
def DWW (X : Cx) (W : WX) (e : Expr) (m : MT) : Prop := PW X e (tG X W RB m)
structure DA (X : Cx) (W : WX) (es : List Expr) (m : MA) : Prop where
  pa : PA X es (tG X W (RelL X.K) m)
  len : ∀ e lh ds lh', m e lh = .ok ds lh' → ds.length = es.length
theorem pe_imp {X : Cx} {e : Expr} {t t' : TE} (h : PE X e t) (i : ∀ s H Q, t' s H Q → t s H Q) : PE X e t' := ⟨fun pins s σ H Q I w => h.run pins s σ H Q I (i σ H Q w)⟩
theorem pt_imp {X : Cx} {e : Expr} {t t' : TT} (h : PT X e t) (i : ∀ s H Q, t' s H Q → t s H Q) : PT X e t' := ⟨fun pins s σ H Q I w => h.run pins s σ H Q I (i σ H Q w)⟩
theorem pw_imp {X : Cx} {e : Expr} {t t' : TT} (h : PW X e t) (i : ∀ s H Q, t' s H Q → t s H Q) : PW X e t' := ⟨fun wh pins s σ H Q I w => h.run wh pins s σ H Q I (i σ H Q w)⟩
theorem pa_imp {X : Cx} {e : List Expr} {t t' : TA} (h : PA X e t) (i : ∀ s H Q, t' s H Q → t s H Q) : PA X e t' := ⟨fun p pins s σ H Q I w => h.run p pins s σ H Q I (i σ H Q w)⟩
section
variable {X : Cx} {W : WX}
/-- the state behind a part -/
theorem tG_bind {a b c d : Type} {R : List Addr → Hp → a → b → Prop} {R' : List Addr → Hp → c → d → Prop} {m : LE → LH → Re a} {f : LE → a → LH → Re c} {s : L2.St} {H : Hp} {Q : d → Hp → Prop}
    (h : tG X W R' (fun e lh => (m e lh).bind (f e)) s H Q) :
    tG X W R m s H (fun v H1 => ∃ r1 e lh1 x, SimS X.K r1 H1 e s ∧ SimH X.K r1 H1 lh1 ∧ R r1 H1 x v ∧ FinG X.K X.mg (fun c dd H' => W c dd s H') R' r1 H1 Q (f e x lh1)) := by
  obtain ⟨r, e, lh, S, Hh, F⟩ := h
  exact ⟨r, e, lh, S, Hh, F.bind.imp fun v H1 ⟨r1, lh1, x, y, z, w, F1⟩ => ⟨r1, e, lh1, x, S.mono y, z, w, F1⟩⟩
theorem tG_of {a b : Type} {R : List Addr → Hp → a → b → Prop} {m : LE → LH → Re a} {s : L2.St} {H : Hp} {Q : b → Hp → Prop} {r : List Addr} {e : LE} {lh : LH}
    (S : SimS X.K r H e s) (Hh : SimH X.K r H lh) (F : FinG X.K X.mg (fun c dd H' => W c dd s H') R r H Q (m e lh)) : tG X W R m s H Q := ⟨r, e, lh, S, Hh, F⟩

/-! ### names, constants -/
def varM (i : Nat) : M := fun e lh => match e[i]? with | some (some d) => .ok d lh | _ => .bad
def conM (d : D) : M := fun _ lh => .ok d lh
theorem de_var (i : Nat) {x : Str} {pos : Pos} (hN : X.N[i]? = some x := by rfl) (hv : Vis X.env.scope x := by first | exact Or.inl rfl | exact Or.inr (Or.inl rfl) | exact Or.inr (Or.inr rfl)) (hd : (x == ("__debug__" : Str)) = false := by decide)
    (hcd : (x == ("__classdict__" : Str)) = false := by decide) : DE X W (.Name x pos) (varM i) := by
  refine pe_imp (pe_var hN hv hd hcd) fun s H Q ⟨r, e, lh, S, Hh, F⟩ => ?_
  unfold varM at F
  split at F
  · rename_i d hd
    obtain ⟨v, a, b⟩ := S.sl i d hd
    exact ⟨v, a, F.ok Hh b⟩
  · exact F.elim
theorem de_con {e : Expr} {v : V} {d : D} (h : PE X e (tC v)) (q : ∀ r H, Rel X.K r H d v) : DE X W e (conM d) :=
  pe_imp h fun s H Q ⟨r, e, lh, S, Hh, F⟩ => F.ok Hh (q _ _)
theorem de_int {i j pos} : DE X W (.Constant (.int i) j pos) (conM (.int i)) := de_con pe_int fun _ _ => .int i
theorem de_bl {i j pos} : DE X W (.Constant (.bool i) j pos) (conM (.bl i)) := de_con pe_bl fun _ _ => .bl i
theorem de_str {i j pos} : DE X W (.Constant (.str i) j pos) (conM (.str i)) := de_con pe_str fun _ _ => .str i
theorem de_non {j pos} : DE X W (.Constant .none j pos) (conM .non) := de_con pe_non fun _ _ => .non
theorem de_glob {x : Str} {v : V} {d : D} {u : Value} {pos : Pos} (hm : X.mg x = some u) (rv : RelV v u) (q : ∀ r H, Rel X.K r H d v) (hg : Gl X x := by rfl) (hd : (x == ("__debug__" : Str)) = false := by decide) : DE X W (.Name x pos) (conM d) :=
  de_con (pe_glob hg hm rv hd) q

/-! ### operators -/
def opM (f : D → D → LH → Re D) (ma mb : M) : M := fun e lh => (ma e lh).bind fun a l1 => (mb e l1).bind fun b l2 => f a b l2
def OpD (X : Cx) (g : Value → Value → Sem Value) (f : D → D → LH → Re D) : Prop :=
  ∃ rr : R2, OpR X g rr ∧ ∀ (E : XK) r H lh a b v u Q, SimH X.K r H lh → Rel X.K r H a v → Rel X.K r H b u → FinG X.K X.mg E (Rel X.K) r H Q (f a b lh) → rr v u H Q
section
variable {a b : Expr} {ma mb : M} {pos : Pos}
theorem de_op_ (ha : DE X W a ma) (hb : DE X W b mb) {rr : R2} {f : D → D → LH → Re D} (ho : ∀ (E : XK) r H lh a b v u Q, SimH X.K r H lh → Rel X.K r H a v → Rel X.K r H b u → FinG X.K X.mg E (Rel X.K) r H Q (f a b lh) → rr v u H Q)
    {s : L2.St} {H : Hp} {Q : VK} (h : tG X W (Rel X.K) (opM f ma mb) s H Q) : tOp rr (tG X W (Rel X.K) ma) (tG X W (Rel X.K) mb) s H Q := by
  obtain ⟨r, e, lh, S, Hh, F⟩ := h
  refine tG_of S Hh (F.bind.imp fun v H1 ⟨r1, l1, x, y1, z1, w1, F1⟩ => ?_)
  refine tG_of (S.mono y1) z1 (F1.bind.imp fun u H2 ⟨r2, l2, x2, y2, z2, w2, F2⟩ => ?_)
  exact ho _ r2 H2 l2 _ _ _ _ Q z2 (w1.mono y2) w2 F2
theorem de_op {op : Operator} {f : D → D → LH → Re D} (ho : OpD X (binaryOp op) f) (ha : DE X W a ma) (hb : DE X W b mb) : DE X W (.BinOp a op b pos) (opM f ma mb) := by
  obtain ⟨rr, h1, h2⟩ := ho
  exact pe_imp (pe_op h1 ha hb) fun s H Q h => de_op_ ha hb h2 h
theorem de_cmp {op : CmpOp} {f : D → D → LH → Re D} (ho : OpD X (compareOp op) f) (ha : DE X W a ma) (hb : DE X W b mb) (hm : behindInMarks op b = false := by first | exact nobehind _ (by decide) (by decide) | rfl) : DE X W (.Compare a [op] [b] pos) (opM f ma mb) := by
  obtain ⟨rr, h1, h2⟩ := ho
  exact pe_imp (pe_cmpR h1 ha hb hm) fun s H Q h => de_op_ ha hb h2 h
/-- a value that must be a bool -/
def blR : Re D → Re Bool := fun t => t.bind fun d l => match d with | .bl k => .ok k l | _ => .bad
def blT (m : M) : MT := fun e lh => blR (m e lh)
theorem dt_cmp {op : CmpOp} {f : D → D → LH → Re D} (ho : OpD X (compareOp op) f) (ha : DE X W a ma) (hb : DE X W b mb) (hm : behindInMarks op b = false := by first | exact nobehind _ (by decide) (by decide) | rfl) : DT X W (.Compare a [op] [b] pos) (blT (opM f ma mb)) := by
  obtain ⟨rr, h1, h2⟩ := ho
  refine pt_imp (pt_cmpR h1 ha hb hm) fun s H Q h => ?_
  obtain ⟨r, e, lh, S, Hh, F⟩ := h
  have F' := FinG.bind (R := Rel X.K) F
  refine de_op_ ha hb h2 (tG_of S Hh (F'.imp fun v H1 ⟨r1, l1, x, y1, z1, w1, F1⟩ => ?_))
  cases w1 with
  | bl k => exact ⟨k, rfl, F1.ok z1 rfl⟩
  | _ => exact F1.elim
end

/-! ### ints -/
def ii (f : Int → Int → LH → Re D) : D → D → LH → Re D | .int i, .int j, lh => f i j lh | _, _, _ => .bad
def iiC (C : Int → Int → Prop) [∀ i j, Decidable (C i j)] (g : Int → Int → D) : D → D → LH → Re D := ii fun i j lh => if C i j then .ok (g i j) lh else .bad
theorem opd_iiC {g : Value → Value → Sem Value} {C : Int → Int → Prop} [∀ i j, Decidable (C i j)] {k : Int → Int → V} {kd : Int → Int → D} (h : OpR X g (rI C k)) (q : ∀ i j r H, Rel X.K r H (kd i j) (k i j)) : OpD X g (iiC C kd) := by
  refine ⟨_, h, fun E r H lh a b v u Q Hh ra rb F => ?_⟩
  cases ra with
  | int i =>
    cases rb with
    | int j =>
      have F' : FinG X.K X.mg E (Rel X.K) r H Q (if C i j then .ok (kd i j) lh else .bad) := F
      by_cases c : C i j
      · rw [if_pos c] at F'
        exact ⟨i, j, rfl, rfl, c, F'.ok Hh (q i j r H)⟩
      · rw [if_neg c] at F'
        exact F'.elim
    | _ => exact F.elim
  | _ => exact F.elim
def ii0 (g : Int → Int → D) : D → D → LH → Re D := ii fun i j lh => .ok (g i j) lh
theorem opd_ii0 {g : Value → Value → Sem Value} {k : Int → Int → V} {kd : Int → Int → D} (h : OpR X g (rI0 k)) (q : ∀ i j r H, Rel X.K r H (kd i j) (k i j)) : OpD X g (ii0 kd) := by
  refine ⟨_, h, fun E r H lh a b v u Q Hh ra rb F => ?_⟩
  cases ra with
  | int i =>
    cases rb with
    | int j => exact ⟨i, j, rfl, rfl, F.ok Hh (q i j r H)⟩
    | _ => exact F.elim
  | _ => exact F.elim
instance dCMul (i j : Int) : Decidable (CMul i j) := by unfold CMul; infer_instance
instance dCPow (i j : Int) : Decidable (CPow i j) := by unfold CPow; infer_instance
instance dCDiv (i j : Int) : Decidable (CDiv i j) := by unfold CDiv; infer_instance
def subD : D → D → LH → Re D := ii0 fun i j => .int (i - j)
def fdivD : D → D → LH → Re D := iiC CDiv fun i j => .int (i / j)
def modD : D → D → LH → Re D := iiC (fun _ j => 0 < j) fun i j => .int (i % j)
def powD : D → D → LH → Re D := iiC CPow fun i j => .int (i ^ j.toNat)
def ltD : D → D → LH → Re D := ii0 fun i j => .bl (decide (i < j))
def leD : D → D → LH → Re D := ii0 fun i j => .bl (decide (i ≤ j))
def gtD : D → D → LH → Re D := ii0 fun i j => .bl (decide (j < i))
def geD : D → D → LH → Re D := ii0 fun i j => .bl (decide (j ≤ i))
theorem o_sub : OpD X (binaryOp .Sub) subD := opd_ii0 op_sub fun _ _ _ _ => .int _
theorem o_fdiv : OpD X (binaryOp .FloorDiv) fdivD := opd_iiC op_fdiv fun _ _ _ _ => .int _
theorem o_mod : OpD X (binaryOp .Mod) modD := opd_iiC op_mod fun _ _ _ _ => .int _
theorem o_pow : OpD X (binaryOp .Pow) powD := opd_iiC op_pow fun _ _ _ _ => .int _
theorem o_lt : OpD X (compareOp .Lt) ltD := opd_ii0 op_lt fun _ _ _ _ => .bl _
theorem o_le : OpD X (compareOp .LtE) leD := opd_ii0 op_le fun _ _ _ _ => .bl _
theorem o_gt : OpD X (compareOp .Gt) gtD := opd_ii0 op_gt fun _ _ _ _ => .bl _
theorem o_ge : OpD X (compareOp .GtE) geD := opd_ii0 op_ge fun _ _ _ _ => .bl _

/-! ### + : ints, strs, lists, tuples -/
def addD : D → D → LH → Re D
  | .int i, .int j, lh => .ok (.int (i + j)) lh
  | .str x, .str y, lh => if x.length + y.length ≤ sizeLine then .ok (.str (x ++ y)) lh else .bad
  | .tup xs, .tup ys, lh => if xs.length + ys.length ≤ sizeLine then .ok (.tup (xs ++ ys)) lh else .bad
  | .loc n, .loc m, lh => match lh[n]?, lh[m]? with
    | some (.lst xs), some (.lst ys) => if xs.length + ys.length ≤ sizeLine then .ok (.loc lh.length) (lh ++ [.lst (xs ++ ys)]) else .bad
    | _, _ => .bad
  | _, _, _ => .bad
theorem SimH.get {K r H} {lh : LH} (h : SimH K r H lh) {n : Nat} {a : Addr} {o : Ob} (e : r[n]? = some a) (e2 : lh[n]? = some o) : ObRel K r H a o := h.ob n a o e e2
theorem RelL.nil_iff {K r H} {ds : List D} {vs : List V} (h : RelL K r H ds vs) : ds = [] ↔ vs = [] := by cases h <;> simp
theorem o_add : OpD X (binaryOp .Add) addD := by
  refine ⟨_, op_add.or (op_add_str.or (op_catA.or op_cat)), fun E r H lh a b v u Q Hh ra rb F => ?_⟩
  cases ra with
  | int i =>
    cases rb with
    | int j => exact .inl ⟨i, j, rfl, rfl, F.ok Hh (.int _)⟩
    | _ => exact F.elim
  | str i =>
    cases rb with
    | str j =>
      have F' : FinG X.K X.mg E (Rel X.K) r H Q (if i.length + j.length ≤ sizeLine then .ok (.str (i ++ j)) lh else .bad) := F
      by_cases c : i.length + j.length ≤ sizeLine
      · rw [if_pos c] at F'
        exact .inr (.inl ⟨i, j, rfl, rfl, c, F'.ok Hh (.str _)⟩)
      · rw [if_neg c] at F'
        exact F'.elim
    | _ => exact F.elim
  | @tup a1 xs ds e1 q1 =>
    cases rb with
    | @tup b1 ys es e2 q2 =>
      have F' : FinG X.K X.mg E (Rel X.K) r H Q (if ds.length + es.length ≤ sizeLine then .ok (.tup (ds ++ es)) lh else .bad) := F
      by_cases c : ds.length + es.length ≤ sizeLine
      · rw [if_pos c] at F'
        refine .inr (.inr (.inl ⟨a1, b1, xs, ys, rfl, rfl, e1, e2, by rw [← q1.length, ← q2.length]; exact c, fun z => ?_, fun _ z => ?_, fun _ _ p hp => ?_⟩))
        · have z' := q1.nil_iff.mpr z
          subst z'
          exact F'.ok Hh (.tup e2 q2)
        · have z' := q2.nil_iff.mpr z
          subst z'
          exact F'.ok Hh (by rw [List.append_nil]; exact .tup e1 q1)
        · have x : Ext X.K r H r (upd H p (.tup (xs ++ ys))) := Ext.laid hp
          exact F'.to x (Hh.laidT hp) (.tup (.of upd_same) ((q1.app q2).mono x))
      · rw [if_neg c] at F'
        exact F'.elim
    | _ => exact F.elim
  | @loc n a1 e1 =>
    cases rb with
    | @loc m b1 e2 =>
      have F' : FinG X.K X.mg E (Rel X.K) r H Q (match lh[n]?, lh[m]? with
        | some (.lst xs), some (.lst ys) => if xs.length + ys.length ≤ sizeLine then .ok (.loc lh.length) (lh ++ [.lst (xs ++ ys)]) else .bad
        | _, _ => .bad) := F
      split at F'
      · rename_i ds es h1 h2
        obtain ⟨xs, z1, q1⟩ := Hh.get e1 h1
        obtain ⟨ys, z2, q2⟩ := Hh.get e2 h2
        by_cases c : ds.length + es.length ≤ sizeLine
        · rw [if_pos c] at F'
          refine .inr (.inr (.inr ⟨a1, b1, xs, ys, rfl, rfl, z1, z2, by rw [← q1.length, ← q2.length]; exact c, fun p hp => ?_⟩))
          exact F'.to (Ext.more hp) (Hh.laid hp (q1.app q2)) (.loc (laid_new Hh))
        · rw [if_neg c] at F'
          exact F'.elim
      · exact F'.elim
    | _ => exact F.elim
  | _ => exact F.elim
/-! ### * : ints; a list of some length -/
def mulD : D → D → LH → Re D
  | .int i, .int j, lh => if CMul i j then .ok (.int (i * j)) lh else .bad
  | .loc n, .int k, lh => match lh[n]? with
    | some (.lst xs) => if -(2 ^ 63) ≤ k ∧ k < 2 ^ 63 ∧ xs.length * k.toNat ≤ sizeLine then .ok (.loc lh.length) (lh ++ [.lst (List.replicate k.toNat xs).flatten]) else .bad
    | _ => .bad
  | _, _, _ => .bad
theorem RelL.reps {K r H} {ds : List D} {vs : List V} (h : RelL K r H ds vs) : ∀ k : Nat, RelL K r H (List.replicate k ds).flatten (List.replicate k vs).flatten
  | 0 => .nil
  | k + 1 => by rw [List.replicate_succ, List.replicate_succ, List.flatten_cons, List.flatten_cons]; exact h.app (h.reps k)
theorem o_mul : OpD X (binaryOp .Mult) mulD := by
  refine ⟨_, op_mul.or op_rep, fun E r H lh a b v u Q Hh ra rb F => ?_⟩
  unfold mulD at F
  split at F
  · cases ra
    cases rb
    split at F
    · rename_i hc
      exact .inl ⟨_, _, rfl, rfl, hc, F.ok Hh (.int _)⟩
    · exact F.elim
  · cases ra with
    | loc e =>
      cases rb
      split at F
      · rename_i xs exs
        obtain ⟨vs, h0, q⟩ := Hh.get e exs
        split at F
        · rename_i hc
          exact .inr ⟨_, _, vs, rfl, rfl, h0, hc.1, hc.2.1, by rw [← q.length]; exact hc.2.2, fun p hp => F.to (Ext.more hp) (Hh.laid hp (q.reps _)) (.loc (laid_new Hh))⟩
        · exact F.elim
      · exact F.elim
  · exact F.elim
def negM (m : M) : M := fun e lh => (m e lh).bind fun d l => match d with | .int i => .ok (.int (-i)) l | _ => .bad
theorem de_neg {a : Expr} {m : M} {pos : Pos} (h : DE X W a m) : DE X W (.UnaryOp .USub a pos) (negM m) := by
  refine pe_imp (pe_un un_neg h) fun s H Q ⟨r, e, lh, S, Hh, F⟩ => ?_
  refine tG_of S Hh ((FinG.bind (R := Rel X.K) F).imp fun v H1 ⟨r1, l1, x, y1, z1, w1, F1⟩ => ?_)
  cases w1 with
  | int i => exact ⟨i, rfl, F1.ok z1 (.int _)⟩
  | _ => exact F1.elim
/-- a module's constant -/
def GlobD (K : PySem.W.Frag) (mg : Str → Option Value) (x : Str) (d : D) : Prop := ∃ (u : Value) (v : V), mg x = some u ∧ RelV v u ∧ ∀ r H, Rel K r H d v
theorem de_g {x : Str} {d : D} {pos : Pos} (h : GlobD X.K X.mg x d) (hg : Gl X x := by rfl) (hd : (x == ("__debug__" : Str)) = false := by decide) : DE X W (.Name x pos) (conM d) := by
  obtain ⟨u, v, h1, h2, h3⟩ := h
  exact de_glob h1 h2 h3 hg hd
/-- a built-in type as a value -/
theorem de_bty {x : Str} {n : String} {pos : Pos} (hm : X.mg x = none) (hv : bootBuiltins x = some (.type n)) (hg : Gl X x := by rfl) (hn : x ≠ "__name__" := by decide) (hd : (x == ("__debug__" : Str)) = false := by decide) : DE X W (.Name x pos) (conM (.raw (.ty n))) :=
  de_con (v := V.ty n) (pe_bltn hg hm hv (show Value.type n = Value.type n from rfl) hn hd) fun _ _ => .raw _
/-! ### is None -/
def isNon : D → Bool | .non => true | _ => false
end
end NL
set_option maxRecDepth 100000
set_option maxHeartbeats 1000000
namespace NL
open PySem PySem.Spec L2

/-- what a body brings: k calls deep there is room -/
structure Bk (k : Nat) (X : Cx) (W : WX) : Prop where
  calm : X.calm = true
  tk : Takes X W
  nd : X.N.Nodup
  pass : PassesOwn (model X.prog X.w) X.A X.env X.xe
  hr : Room k X.A
theorem Bk.hu {k X W} (b : Bk k X W) : X.A.units + 65 < cLine := by have := b.hr.un; omega
theorem Bk.hu0 {k X W} (b : Bk k X W) : X.A.units + 64 < cLine := by have := b.hr.un; omega

/-! ### data read off -/
def rd (lh : LH) : Nat → D → Option PyData
  | 0, d => match d with
    | .non => some .none | .bl b => some (.bool b) | .int i => some (.int i) | .str x => some (.str x) | _ => none
  | n + 1, d => match d with
    | .non => some .none | .bl b => some (.bool b) | .int i => some (.int i) | .str x => some (.str x)
    | .tup ds => (ds.mapM (rd lh n)).map .tuple
    | .loc k => match lh[k]? with
      | some (.lst xs) => (xs.mapM (rd lh n)).map .list
      | _ => none
    | .fl xs => (xs.mapM (rd lh n)).map .list
    | .raw _ => none
section
variable {K : PySem.W.Frag} {r : List Addr} {H : Hp} {lh : LH}
theorem rd_all {n : Nat} (ih : ∀ d v p, rd lh n d = some p → Rel K r H d v → Dp K H v p) : ∀ (ds : List D) (vs : List V) (ps : List PyData), ds.mapM (rd lh n) = some ps → RelL K r H ds vs → DpAll K H vs ps
  | [], vs, ps, h, q => by
    cases q
    simp at h
    subst h
    exact .nil
  | d :: ds, vs, ps, h, q => by
    cases q with
    | cons q1 q2 =>
      rw [List.mapM_cons] at h
      cases e : rd lh n d with
      | none => rw [e] at h; simp at h
      | some p =>
        rw [e] at h
        cases e2 : ds.mapM (rd lh n) with
        | none => rw [e2] at h; simp at h
        | some ps' =>
          rw [e2] at h
          simp at h
          subst h
          exact .cons (ih _ _ _ e q1) (rd_all ih ds _ _ e2 q2)
theorem rd_dp (hs : SimH K r H lh) : ∀ (n : Nat) (d : D) (v : V) (p : PyData), rd lh n d = some p → Rel K r H d v → Dp K H v p
  | 0, d, v, p, h, q => by
    cases q with
    | non => simp [rd] at h; subst h; exact .non
    | bl b => simp [rd] at h; subst h; exact .bl b
    | int b => simp [rd] at h; subst h; exact .int b
    | str b => simp [rd] at h; subst h; exact .str b
    | _ => simp [rd] at h
  | n + 1, d, v, p, h, q => by
    have ih := rd_dp hs n
    cases q with
    | non => simp [rd] at h; subst h; exact .non
    | bl b => simp [rd] at h; subst h; exact .bl b
    | int b => simp [rd] at h; subst h; exact .int b
    | str b => simp [rd] at h; subst h; exact .str b
    | raw _ => simp [rd] at h
    | @fl a xs ds e q =>
      have h' : (ds.mapM (rd lh n)).map PyData.list = some p := h
      cases e2 : ds.mapM (rd lh n) with
      | none => rw [e2] at h'; simp at h'
      | some ps =>
        rw [e2] at h'
        simp at h'
        subst h'
        exact .lst e.sq (rd_all ih ds xs ps e2 q)
    | @tup a xs ds e q =>
      have h' : (ds.mapM (rd lh n)).map PyData.tuple = some p := h
      cases e2 : ds.mapM (rd lh n) with
      | none => rw [e2] at h'; simp at h'
      | some ps =>
        rw [e2] at h'
        simp at h'
        subst h'
        exact .tup e (rd_all ih ds xs ps e2 q)
    | @loc k a e =>
      have h' : (match lh[k]? with | some (.lst xs) => (xs.mapM (rd lh n)).map PyData.list | _ => none) = some p := h
      split at h'
      · rename_i ds eo
        obtain ⟨vs, z, q⟩ := hs.get e eo
        cases e2 : ds.mapM (rd lh n) with
        | none => rw [e2] at h'; simp at h'
        | some ps =>
          rw [e2] at h'
          simp at h'
          subst h'
          exact .lst (.of z) (rd_all ih ds vs ps e2 q)
      · cases h'
end
/-! ### == -/
def eqR (lh : LH) (a b : D) : Option Bool := match a, b with
  | .str x, .str y => some (decide (x = y))
  | _, _ => match rd lh 16 a, rd lh 16 b with
    | some p, some q => if SeqAt.shaped p = true ∧ SeqAt.shaped q = true then some (PyData.eqv p q) else none
    | _, _ => none
def eqD : D → D → LH → Re D := fun a b lh => match eqR lh a b with | some k => .ok (.bl k) lh | none => .bad
def neD : D → D → LH → Re D := fun a b lh => match eqR lh a b with | some k => .ok (.bl (!k)) lh | none => .bad
section
variable {X : Cx} {W : WX}
theorem eqR_to {r H} {lh : LH} {a b : D} {v u : V} {k : Bool} (hs : SimH X.K r H lh) (ra : Rel X.K r H a v) (rb : Rel X.K r H b u) (e : eqR lh a b = some k) :
    (scal v u = true ∧ k = decide (v = u)) ∨ ∃ d e, Dp X.K H v d ∧ Dp X.K H u e ∧ SeqAt.shaped d = true ∧ SeqAt.shaped e = true ∧ k = PyData.eqv d e := by
  unfold eqR at e
  split at e
  · cases ra
    cases rb
    refine .inl ⟨rfl, ?_⟩
    rw [← Option.some.inj e]
    rename_i x y
    by_cases h : x = y
    · subst h; simp
    · rw [decide_eq_false h, decide_eq_false fun z => h (V.str.inj z)]
  · split at e
    · rename_i p q e1 e2
      split at e
      · rename_i h
        exact .inr ⟨p, q, rd_dp hs _ _ _ _ e1 ra, rd_dp hs _ _ _ _ e2 rb, h.1, h.2, (Option.some.inj e).symm⟩
      · cases e
    · cases e
theorem o_eq {n : Nat} (o : Bk n X W) : OpD X (compareOp .Eq) eqD := by
  refine ⟨_, op_eq.or (op_eqD o.hu0), fun E r H lh a b v u Q Hh ra rb F => ?_⟩
  unfold eqD at F
  split at F
  · rename_i k e
    rcases eqR_to Hh ra rb e with ⟨h1, h2⟩ | ⟨d, e', h1, h2, h3, h4, h5⟩
    · exact .inl ⟨h1, by rw [← h2]; exact F.ok Hh (.bl _)⟩
    · exact .inr ⟨d, e', h1, h2, h3, h4, by rw [← h5]; exact F.ok Hh (.bl _)⟩
  · exact F.elim
theorem o_ne {n : Nat} (o : Bk n X W) : OpD X (compareOp .NotEq) neD := by
  refine ⟨_, op_ne.or (op_neD o.hu0), fun E r H lh a b v u Q Hh ra rb F => ?_⟩
  unfold neD at F
  split at F
  · rename_i k e
    rcases eqR_to Hh ra rb e with ⟨h1, h2⟩ | ⟨d, e', h1, h2, h3, h4, h5⟩
    · exact .inl ⟨h1, by rw [← h2]; exact F.ok Hh (.bl _)⟩
    · exact .inr ⟨d, e', h1, h2, h3, h4, by rw [← h5]; exact F.ok Hh (.bl _)⟩
  · exact F.elim
/-! ### in, not in -/
def rInT (K : PySem.W.Frag) : R2 := fun x y H Q => ∃ d ds, Dp K H x d ∧ Dp K H y (.tuple ds) ∧ SeqAt.shaped d = true ∧ SeqAt.shaped (.tuple ds) = true ∧ Q (.bl (ds.any fun z => PyData.eqv z d)) H
def rNotInT (K : PySem.W.Frag) : R2 := fun x y H Q => ∃ d ds, Dp K H x d ∧ Dp K H y (.tuple ds) ∧ SeqAt.shaped d = true ∧ SeqAt.shaped (.tuple ds) = true ∧ Q (.bl (!ds.any fun z => PyData.eqv z d)) H
theorem room_in_tup {A : Around} {d : PyData} {ds : List PyData} (h : SeqAt.shaped d = true) (hu : A.units + 65 < cLine) : A.units + 1 + min (PyData.depthAll ds) d.depth < cLine := by
  have h1 := SeqAt.depth_of_shaped h
  have h2 : min (PyData.depthAll ds) d.depth ≤ d.depth := Nat.min_le_right _ _
  omega
theorem canAll_tup {ds : List PyData} (h : SeqAt.shaped (.tuple ds) = true) : PyData.canLayAll0 ds = true := by
  have := SeqAt.canLay_of_shaped h
  simpa only [PyData.canLay0] using this
theorem op_inT (hu : X.A.units + 65 < cLine) : OpR X (compareOp .In) (rInT X.K) := by
  intro pins s σ H x y v u Q I rx ry h
  obtain ⟨d, ds, hd, he, sd, se, q⟩ := h
  obtain ⟨as, r1⟩ := Dp.reads I d x v hd rx
  obtain ⟨bs, r2⟩ := Dp.reads I (.tuple ds) y u he ry
  exact SeqAt.in_tuple_reads r2 r1 (canAll_tup se) (SeqAt.canLay_of_shaped sd) (room_in_tup sd hu) ⟨.bl _, H, I, rfl, q⟩
theorem op_notInT (hu : X.A.units + 65 < cLine) : OpR X (compareOp .NotIn) (rNotInT X.K) := by
  intro pins s σ H x y v u Q I rx ry h
  obtain ⟨d, ds, hd, he, sd, se, q⟩ := h
  obtain ⟨as, r1⟩ := Dp.reads I d x v hd rx
  obtain ⟨bs, r2⟩ := Dp.reads I (.tuple ds) y u he ry
  exact SeqAt.notIn_tuple_reads r2 r1 (canAll_tup se) (SeqAt.canLay_of_shaped sd) (room_in_tup sd hu) ⟨.bl _, H, I, rfl, q⟩
def hasSub (y x : Str) : Bool := !(Builtin.Str.occurrences y x 0 y.length 1).isEmpty
def inR (lh : LH) (a b : D) : Option Bool := match a, b with
  | .str x, .str y => some (hasSub y x)
  | a, b => match rd lh 16 a, rd lh 16 b with
    | some p, some (.list qs) => if SeqAt.shaped p = true ∧ SeqAt.shaped (.list qs) = true then some (qs.any fun z => PyData.eqv z p) else none
    | some p, some (.tuple qs) => if SeqAt.shaped p = true ∧ SeqAt.shaped (.tuple qs) = true then some (qs.any fun z => PyData.eqv z p) else none
    | _, _ => none
def inD : D → D → LH → Re D := fun a b lh => match inR lh a b with | some k => .ok (.bl k) lh | none => .bad
def ninD : D → D → LH → Re D := fun a b lh => match inR lh a b with | some k => .ok (.bl (!k)) lh | none => .bad
theorem inR_to {r H} {lh : LH} {a b : D} {v u : V} {k : Bool} (hs : SimH X.K r H lh) (ra : Rel X.K r H a v) (rb : Rel X.K r H b u) (e : inR lh a b = some k) :
    (∃ i j, v = .str i ∧ u = .str j ∧ k = hasSub j i) ∨ (∃ d ds, Dp X.K H v d ∧ Dp X.K H u (.list ds) ∧ SeqAt.shaped d = true ∧ SeqAt.shaped (.list ds) = true ∧ k = (ds.any fun z => PyData.eqv z d)) ∨
      ∃ d ds, Dp X.K H v d ∧ Dp X.K H u (.tuple ds) ∧ SeqAt.shaped d = true ∧ SeqAt.shaped (.tuple ds) = true ∧ k = (ds.any fun z => PyData.eqv z d) := by
  unfold inR at e
  split at e
  · cases ra
    cases rb
    exact .inl ⟨_, _, rfl, rfl, (Option.some.inj e).symm⟩
  · split at e
    · rename_i p q e1 e2
      split at e
      · rename_i h
        exact .inr (.inl ⟨p, q, rd_dp hs _ _ _ _ e1 ra, rd_dp hs _ _ _ _ e2 rb, h.1, h.2, (Option.some.inj e).symm⟩)
      · cases e
    · rename_i p q e1 e2
      split at e
      · rename_i h
        exact .inr (.inr ⟨p, q, rd_dp hs _ _ _ _ e1 ra, rd_dp hs _ _ _ _ e2 rb, h.1, h.2, (Option.some.inj e).symm⟩)
      · cases e
    · cases e
theorem o_in {n : Nat} (o : Bk n X W) : OpD X (compareOp .In) inD := by
  refine ⟨_, op_in_str.or ((op_inD o.hu).or (op_inT o.hu)), fun E r H lh a b v u Q Hh ra rb F => ?_⟩
  unfold inD at F
  split at F
  · rename_i k e
    rcases inR_to Hh ra rb e with ⟨i, j, e1, e2, h2⟩ | ⟨d, e', h1, h2, h3, h4, h5⟩ | ⟨d, e', h1, h2, h3, h4, h5⟩
    · exact .inl ⟨i, j, e1, e2, by show Q (.bl (hasSub j i)) H; rw [← h2]; exact F.ok Hh (.bl _)⟩
    · exact .inr (.inl ⟨d, e', h1, h2, h3, h4, by rw [← h5]; exact F.ok Hh (.bl _)⟩)
    · exact .inr (.inr ⟨d, e', h1, h2, h3, h4, by rw [← h5]; exact F.ok Hh (.bl _)⟩)
  · exact F.elim
theorem o_nin {n : Nat} (o : Bk n X W) : OpD X (compareOp .NotIn) ninD := by
  refine ⟨_, op_notin_str.or ((op_notInD o.hu).or (op_notInT o.hu)), fun E r H lh a b v u Q Hh ra rb F => ?_⟩
  unfold ninD at F
  split at F
  · rename_i k e
    rcases inR_to Hh ra rb e with ⟨i, j, e1, e2, h2⟩ | ⟨d, e', h1, h2, h3, h4, h5⟩ | ⟨d, e', h1, h2, h3, h4, h5⟩
    · exact .inl ⟨i, j, e1, e2, by show Q (.bl (!(hasSub j i))) H; rw [← h2]; exact F.ok Hh (.bl _)⟩
    · exact .inr (.inl ⟨d, e', h1, h2, h3, h4, by rw [← h5]; exact F.ok Hh (.bl _)⟩)
    · exact .inr (.inr ⟨d, e', h1, h2, h3, h4, by rw [← h5]; exact F.ok Hh (.bl _)⟩)
  · exact F.elim
/-! ### is None -/
def isD : D → D → LH → Re D := fun a b lh => match a, b with | .raw _, _ => .bad | a, .non => .ok (.bl (isNon a)) lh | _, _ => .bad
def isntD : D → D → LH → Re D := fun a b lh => match a, b with | .raw _, _ => .bad | a, .non => .ok (.bl (!isNon a)) lh | _, _ => .bad
theorem isNon_to {r H} {a : D} {v : V} (hne : ∀ x, a ≠ .raw x) (ra : Rel X.K r H a v) : isNon a = decide (v = .non) := by
  cases ra with
  | non => rfl
  | raw => exact absurd rfl (hne v)
  | _ => rfl
theorem o_is : OpD X (compareOp .Is) isD := by
  refine ⟨_, op_isN, fun E r H lh a b v u Q Hh ra rb F => ?_⟩
  unfold isD at F
  split at F
  · exact F.elim
  · rename_i hne
    cases rb
    refine ⟨rfl, ?_⟩
    rw [← isNon_to (fun x => by intro z; exact hne x z) ra]
    exact F.ok Hh (.bl _)
  · exact F.elim
theorem o_isnt : OpD X (compareOp .IsNot) isntD := by
  refine ⟨_, op_notN, fun E r H lh a b v u Q Hh ra rb F => ?_⟩
  unfold isntD at F
  split at F
  · exact F.elim
  · rename_i hne
    cases rb
    refine ⟨rfl, ?_⟩
    rw [← isNon_to (fun x => by intro z; exact hne x z) ra]
    exact F.ok Hh (.bl _)
  · exact F.elim

/-! ### truth -/
def truD (lh : LH) : D → Option Bool
  | .non => some false
  | .bl b => some b
  | .int i => some (i != 0)
  | .str y => if y.length ≤ sizeLine then some ((y.length : Int) != 0) else none
  | .tup ds => some (!ds.isEmpty)
  | .loc n => match lh[n]? with | some (.lst xs) => some (!xs.isEmpty) | _ => none
  | .fl ds => some (!ds.isEmpty)
  | .raw _ => none
theorem RelL.emp {K r H} {ds : List D} {vs : List V} (h : RelL K r H ds vs) : ds.isEmpty = vs.isEmpty := by cases h <;> rfl
theorem truD_to {r H} {lh : LH} {a : D} {v : V} {k : Bool} (hs : SimH X.K r H lh) (ra : Rel X.K r H a v) (e : truD lh a = some k) : TruV X.K v H k := by
  cases ra with
  | non => exact (Option.some.inj e).symm
  | bl b => exact (Option.some.inj e).symm
  | int i => exact (Option.some.inj e).symm
  | str y =>
    have e' : (if y.length ≤ sizeLine then some ((y.length : Int) != 0) else none) = some k := e
    by_cases h : y.length ≤ sizeLine
    · rw [if_pos h] at e'
      exact ⟨h, (Option.some.inj e').symm⟩
    · rw [if_neg h] at e'
      cases e'
  | raw _ => cases e
  | @tup a xs ds e1 q => exact .inr (.inl ⟨xs, e1, by rw [← q.emp]; exact (Option.some.inj e).symm⟩)
  | @fl a xs ds e1 q => exact .inl ⟨xs, e1.sq, by rw [← q.emp]; exact (Option.some.inj e).symm⟩
  | @loc n a e1 =>
    have e' : (match lh[n]? with | some (.lst xs) => some (!xs.isEmpty) | _ => none) = some k := e
    split at e'
    · rename_i ds eo
      obtain ⟨vs, z, q⟩ := hs.get e1 eo
      exact .inl ⟨vs, .of z, by rw [← q.emp]; exact (Option.some.inj e').symm⟩
    · cases e'
def truM (m : M) : MT := fun e lh => (m e lh).bind fun d l => match truD l d with | some k => .ok k l | none => .bad
section
variable {a b c : Expr} {rest : List Expr} {ma mb mc : M} {ta tb : MT} {pos : Pos}
theorem dt_tru (ha : DE X W a ma) (he : ∀ whole, isTrue a X.env whole = (do let v ← whole; standAt a.pos; holding [v] (truthy v)) := by intro _; rfl) : DT X W a (truM ma) := by
  refine pt_imp (pt_truth ha he) fun s H Q ⟨r, e, lh, S, Hh, F⟩ => ?_
  refine tG_of S Hh ((FinG.bind (R := Rel X.K) F).imp fun v H1 ⟨r1, l1, x, y1, z1, w1, F1⟩ => ?_)
  split at F1
  · rename_i k ek
    exact ⟨k, truD_to z1 w1 ek, F1.ok z1 rfl⟩
  · exact F1.elim
/-! ### and, or, not; if; tests -/
def andT (t u : MT) : MT := fun e lh => (t e lh).bind fun k l => if k = true then u e l else .ok false l
def orT (t u : MT) : MT := fun e lh => (t e lh).bind fun k l => if k = true then .ok true l else u e l
def notT (t : MT) : MT := fun e lh => (t e lh).bind fun k l => .ok (!k) l
theorem dw_and1 (ha : DT X W a ta) : DWW X W (.BoolOp .And [a] pos) ta := pw_and1 ha
theorem dw_or1 (ha : DT X W a ta) : DWW X W (.BoolOp .Or [a] pos) ta := pw_or1 ha
theorem dw_and (ha : DT X W a ta) (hb : DWW X W (.BoolOp .And (b :: rest) pos) tb) : DWW X W (.BoolOp .And (a :: b :: rest) pos) (andT ta tb) := by
  refine pw_imp (pw_and ha hb) fun s H Q ⟨r, e, lh, S, Hh, F⟩ => ?_
  refine tG_of S Hh ((FinG.bind (R := RB) F).imp fun k H1 ⟨r1, l1, x, y1, z1, w1, F1⟩ => ?_)
  have w1 : x = k := w1
  subst w1
  cases x with
  | true => exact iteT (tG_of (S.mono y1) z1 F1)
  | false => exact iteF (F1.ok z1 rfl)
theorem dw_or (ha : DT X W a ta) (hb : DWW X W (.BoolOp .Or (b :: rest) pos) tb) : DWW X W (.BoolOp .Or (a :: b :: rest) pos) (orT ta tb) := by
  refine pw_imp (pw_or ha hb) fun s H Q ⟨r, e, lh, S, Hh, F⟩ => ?_
  refine tG_of S Hh ((FinG.bind (R := RB) F).imp fun k H1 ⟨r1, l1, x, y1, z1, w1, F1⟩ => ?_)
  have w1 : x = k := w1
  subst w1
  cases x with
  | true => exact iteT (F1.ok z1 rfl)
  | false => exact iteF (tG_of (S.mono y1) z1 F1)
theorem dt_w (h : DWW X W a ta) : DT X W a ta := PW.pt h
theorem dt_not (ha : DT X W a ta) : DT X W (.UnaryOp .Not a pos) (notT ta) := by
  refine pt_imp (pt_not ha) fun s H Q ⟨r, e, lh, S, Hh, F⟩ => ?_
  refine tG_of S Hh ((FinG.bind (R := RB) F).imp fun k H1 ⟨r1, l1, x, y1, z1, w1, F1⟩ => ?_)
  have w1 : x = k := w1
  subst w1
  exact F1.ok z1 rfl
def andM (ma mb : M) : M := fun e lh => (ma e lh).bind fun d l => match truD l d with | some k => if k = true then mb e l else .ok d l | none => .bad
def orM (ma mb : M) : M := fun e lh => (ma e lh).bind fun d l => match truD l d with | some k => if k = true then .ok d l else mb e l | none => .bad
def notM (ma : M) : M := fun e lh => (ma e lh).bind fun d l => match truD l d with | some k => .ok (.bl (!k)) l | none => .bad
theorem de_one {op} (h : DE X W a ma) : DE X W (.BoolOp op [a] pos) ma := pe_one h
theorem de_and (ha : DE X W a ma) (hb : DE X W (.BoolOp .And (b :: rest) pos) mb) : DE X W (.BoolOp .And (a :: b :: rest) pos) (andM ma mb) := by
  refine pe_imp (pe_andT ha hb) fun s H Q ⟨r, e, lh, S, Hh, F⟩ => ?_
  refine tG_of S Hh ((FinG.bind (R := Rel X.K) F).imp fun v H1 ⟨r1, l1, x, y1, z1, w1, F1⟩ => ?_)
  split at F1
  · rename_i k ek
    refine ⟨k, truD_to z1 w1 ek, ?_⟩
    cases k with
    | true => exact iteT (tG_of (S.mono y1) z1 F1)
    | false => exact iteF (F1.ok z1 w1)
  · exact F1.elim
theorem de_or (ha : DE X W a ma) (hb : DE X W (.BoolOp .Or (b :: rest) pos) mb) : DE X W (.BoolOp .Or (a :: b :: rest) pos) (orM ma mb) := by
  refine pe_imp (pe_orT ha hb) fun s H Q ⟨r, e, lh, S, Hh, F⟩ => ?_
  refine tG_of S Hh ((FinG.bind (R := Rel X.K) F).imp fun v H1 ⟨r1, l1, x, y1, z1, w1, F1⟩ => ?_)
  split at F1
  · rename_i k ek
    refine ⟨k, truD_to z1 w1 ek, ?_⟩
    cases k with
    | true => exact iteT (F1.ok z1 w1)
    | false => exact iteF (tG_of (S.mono y1) z1 F1)
  · exact F1.elim
theorem de_not (ha : DE X W a ma) : DE X W (.UnaryOp .Not a pos) (notM ma) := by
  refine pe_imp (pe_notT ha) fun s H Q ⟨r, e, lh, S, Hh, F⟩ => ?_
  refine tG_of S Hh ((FinG.bind (R := Rel X.K) F).imp fun v H1 ⟨r1, l1, x, y1, z1, w1, F1⟩ => ?_)
  split at F1
  · rename_i k ek
    exact ⟨k, truD_to z1 w1 ek, F1.ok z1 (.bl _)⟩
  · exact F1.elim
def ifM (t : MT) (ma mb : M) : M := fun e lh => (t e lh).bind fun k l => if k = true then ma e l else mb e l
theorem de_if (hc : DT X W c ta) (ha : DE X W a ma) (hb : DE X W b mb) : DE X W (.IfExp c a b pos) (ifM ta ma mb) := by
  refine pe_imp (pe_ifExp hc ha hb) fun s H Q ⟨r, e, lh, S, Hh, F⟩ => ?_
  refine tG_of S Hh ((FinG.bind (R := RB) F).imp fun k H1 ⟨r1, l1, x, y1, z1, w1, F1⟩ => ?_)
  have w1 : x = k := w1
  subst w1
  cases x with
  | true => exact iteT (tG_of (S.mono y1) z1 F1)
  | false => exact iteF (tG_of (S.mono y1) z1 F1)
/-! ### a op b op c -/
def chM (f g : D → D → LH → Re D) (ma mb mc : M) : M := fun e lh => (ma e lh).bind fun a l1 => (mb e l1).bind fun b l2 => (f a b l2).bind fun z l3 => match z with
  | .bl k => if k = true then (mc e l3).bind fun c l4 => g b c l4 else .ok (.bl false) l3
  | _ => .bad
theorem OpD.use {g : Value → Value → Sem Value} {f : D → D → LH → Re D} (h : OpD X g f) : ∃ rr : R2, OpR X g rr ∧ ∀ (E : XK) r H lh a b v u Q, SimH X.K r H lh → Rel X.K r H a v → Rel X.K r H b u → FinG X.K X.mg E (Rel X.K) r H Q (f a b lh) → rr v u H Q := h
theorem de_ch_ {f g : D → D → LH → Re D} {rr rr' : R2} (h2 : ∀ (E : XK) r H lh a b v u Q, SimH X.K r H lh → Rel X.K r H a v → Rel X.K r H b u → FinG X.K X.mg E (Rel X.K) r H Q (f a b lh) → rr v u H Q)
    (h4 : ∀ (E : XK) r H lh a b v u Q, SimH X.K r H lh → Rel X.K r H a v → Rel X.K r H b u → FinG X.K X.mg E (Rel X.K) r H Q (g a b lh) → rr' v u H Q) {s : L2.St} {H : Hp} {Q : VK} (h : tG X W (Rel X.K) (chM f g ma mb mc) s H Q) :
    tChain rr rr' (tG X W (Rel X.K) ma) (tG X W (Rel X.K) mb) (tG X W (Rel X.K) mc) s H Q := by
  obtain ⟨r, e, lh, S, Hh, F⟩ := h
  refine tG_of S Hh ((FinG.bind (R := Rel X.K) F).imp fun v H1 ⟨r1, l1, x, y1, z1, w1, F1⟩ => ?_)
  refine tG_of (S.mono y1) z1 ((FinG.bind (R := Rel X.K) F1).imp fun u H2 ⟨r2, l2, x2, y2, z2, w2, F2⟩ => ?_)
  refine h2 (fun c dd H' => W c dd s H') r2 H2 l2 x x2 v u _ z2 (w1.mono y2) w2 ((FinG.bind (R := Rel X.K) F2).imp fun z H3 ⟨r3, l3, x3, y3, z3, w3, F3⟩ => ?_)
  cases w3 with
  | bl k =>
    refine ⟨k, rfl, ?_⟩
    cases k with
    | true =>
      refine iteT (tG_of (((S.mono y1).mono y2).mono y3) z3 ((FinG.bind (R := Rel X.K) F3).imp fun w H4 ⟨r4, l4, x4, y4, z4, w4, F4⟩ => ?_))
      exact h4 (fun c dd H' => W c dd s H') r4 H4 l4 x2 x4 u w _ z4 ((w2.mono y3).mono y4) w4 F4
    | false => exact iteF (F3.ok z3 (.bl _))
  | _ => exact F3.elim
theorem de_chain {op op' : CmpOp} {f g : D → D → LH → Re D} (ho : OpD X (compareOp op) f) (ho' : OpD X (compareOp op') g) (ha : DE X W a ma) (hb : DE X W b mb) (hc : DE X W c mc) (hm : lastMarks [op, op'] [b, c] = false := by with_unfolding_all rfl) :
    DE X W (.Compare a [op, op'] [b, c] pos) (chM f g ma mb mc) := by
  obtain ⟨rr, h1, h2⟩ := ho
  obtain ⟨rr', h3, h4⟩ := ho'
  exact pe_imp (pe_chain h1 h3 ha hb hc hm) fun s H Q h => de_ch_ h2 h4 h
theorem dt_chain {op op' : CmpOp} {f g : D → D → LH → Re D} (ho : OpD X (compareOp op) f) (ho' : OpD X (compareOp op') g) (ha : DE X W a ma) (hb : DE X W b mb) (hc : DE X W c mc) (hm : lastMarks [op, op'] [b, c] = false := by with_unfolding_all rfl) :
    DT X W (.Compare a [op, op'] [b, c] pos) (blT (chM f g ma mb mc)) := by
  obtain ⟨rr, h1, h2⟩ := ho
  obtain ⟨rr', h3, h4⟩ := ho'
  refine pt_imp (pt_chain h1 h3 ha hb hc hm) fun s H Q ⟨r, e, lh, S, Hh, F⟩ => ?_
  refine de_ch_ h2 h4 (tG_of S Hh ((FinG.bind (R := Rel X.K) F).imp fun v H1 ⟨r1, l1, x, y1, z1, w1, F1⟩ => ?_))
  cases w1 with
  | bl k => exact ⟨k, rfl, F1.ok z1 rfl⟩
  | _ => exact F1.elim
end
end
end NL
set_option maxRecDepth 100000
set_option maxHeartbeats 1000000
namespace NL
open PySem PySem.Spec L2
section
variable {X : Cx} {W : WX}
/-! ### arguments, displays -/
def nilA : MA := fun _ lh => .ok [] lh
def consA (ma : M) (mr : MA) : MA := fun e lh => (ma e lh).bind fun d l => (mr e l).bind fun ds l2 => .ok (d :: ds) l2
theorem da_nil : DA X W [] nilA where
  pa := pa_imp pa_nil fun s H Q ⟨r, e, lh, S, Hh, F⟩ => F.ok Hh .nil
  len := fun e lh ds lh' h => by
    have h' : Re.ok ([] : List D) lh = Re.ok ds lh' := h
    cases h'
    rfl
theorem da_cons {e : Expr} {es : List Expr} {ma : M} {mr : MA} (ha : DE X W e ma) (hr : DA X W es mr) (hs : starEach (e :: es) X.env = (false, eval e X.env) :: starEach es X.env := by rfl) : DA X W (e :: es) (consA ma mr) where
  pa := by
    refine pa_imp (pa_cons ha hr.pa hs) fun s H Q ⟨r, e, lh, S, Hh, F⟩ => ?_
    refine tG_of S Hh ((FinG.bind (R := Rel X.K) F).imp fun v H1 ⟨r1, l1, x, y1, z1, w1, F1⟩ => ?_)
    refine tG_of (S.mono y1) z1 ((FinG.bind (R := RelL X.K) F1).imp fun vs H2 ⟨r2, l2, x2, y2, z2, w2, F2⟩ => ?_)
    exact F2.ok z2 (.cons (w1.mono y2) w2)
  len := fun e lh ds lh' h => by
    have h' : (ma e lh).bind (fun d l => (mr e l).bind fun ds l2 => Re.ok (d :: ds) l2) = Re.ok ds lh' := h
    cases e1 : ma e lh with
    | ok d l =>
      rw [e1] at h'
      have h' : (mr e l).bind (fun ds l2 => Re.ok (d :: ds) l2) = Re.ok ds lh' := h'
      cases e2 : mr e l with
      | ok es' l2 =>
        rw [e2] at h'
        have h' : Re.ok (d :: es') l2 = Re.ok ds lh' := h'
        cases h'
        rw [List.length_cons, List.length_cons, hr.len _ _ _ _ e2]
      | er x l2 => rw [e2] at h'; cases h'
      | bad => rw [e2] at h'; cases h'
    | er x l => rw [e1] at h'; cases h'
    | bad => rw [e1] at h'; cases h'
/-- the list of an argument list, its length told -/
theorem FinG.len {es : List Expr} {m : MA} (hd : DA X W es m) {E : XK} {r : List Addr} {H : Hp} {Q : List V → Hp → Prop} {e : LE} {lh : LH} (h : FinG X.K X.mg E (RelL X.K) r H (fun vs H1 => vs.length = es.length → Q vs H1) (m e lh)) : FinG X.K X.mg E (RelL X.K) r H Q (m e lh) := by
  have hl := hd.len e lh
  cases q : m e lh with
  | ok ds l =>
    rw [q] at h
    exact fun r' H' vs a b c => h r' H' vs a b c (by rw [← c.length]; exact hl ds l q)
  | er x l => rw [q] at h; exact h
  | bad => rw [q] at h; exact h
def tupM (ma : MA) : M := fun e lh => (ma e lh).bind fun ds l => .ok (.tup ds) l
def lstM (ma : MA) : M := fun e lh => (ma e lh).bind fun ds l => .ok (.loc l.length) (l ++ [.lst ds])
theorem de_tup {es : List Expr} {ma : MA} {k : Nat} {pos : Pos} (h : DA X W es ma) (hz : es.length ≤ 1000 := by decide) : DE X W (.Tuple es k pos) (tupM ma) := by
  refine pe_imp (pe_tup h.pa) fun s H Q ⟨r, e, lh, S, Hh, F⟩ => ?_
  refine tG_of S Hh (FinG.len h ((FinG.bind (R := RelL X.K) F).imp fun vs H1 ⟨r1, l1, x, y1, z1, w1, F1⟩ hl => ?_))
  refine ⟨Nat.le_of_lt (small1000 (by omega)), fun p hp => ?_⟩
  exact F1.to (Ext.laid hp) (z1.laidT hp) (.tup (.of upd_same) (w1.mono (Ext.laid hp)))
theorem de_lst {es : List Expr} {ma : MA} {pos : Pos} (h : DA X W es ma) (hz : es.length ≤ 1000 := by decide) : DE X W (.List es pos) (lstM ma) := by
  refine pe_imp (pe_lst h.pa) fun s H Q ⟨r, e, lh, S, Hh, F⟩ => ?_
  refine tG_of S Hh (FinG.len h ((FinG.bind (R := RelL X.K) F).imp fun vs H1 ⟨r1, l1, x, y1, z1, w1, F1⟩ hl => ?_))
  refine ⟨Nat.le_of_lt (small1000 (by omega)), fun p hp => ?_⟩
  exact F1.to (Ext.more hp) (z1.laid hp w1) (.loc (laid_new z1))

/-! ### subscripts, slices -/
/-- what is a list, its items -/
def sq (lh : LH) : D → Option (List D)
  | .loc n => match lh[n]? with | some (.lst xs) => some xs | _ => none
  | .fl xs => some xs
  | _ => none
@[simp] theorem sq_loc (lh : LH) (n : Nat) : sq lh (.loc n) = match lh[n]? with | some (.lst xs) => some xs | _ => none := rfl
@[simp] theorem sq_fl (lh : LH) (xs : List D) : sq lh (.fl xs) = some xs := rfl
@[simp] theorem sq_tup (lh : LH) (xs : List D) : sq lh (.tup xs) = none := rfl
@[simp] theorem sq_non (lh : LH) : sq lh .non = none := rfl
@[simp] theorem sq_bl (lh : LH) (b : Bool) : sq lh (.bl b) = none := rfl
@[simp] theorem sq_int (lh : LH) (b : Int) : sq lh (.int b) = none := rfl
@[simp] theorem sq_str (lh : LH) (b : Str) : sq lh (.str b) = none := rfl
@[simp] theorem sq_raw (lh : LH) (b : V) : sq lh (.raw b) = none := rfl
theorem sq_to {K r H} {lh : LH} {d : D} {v : V} {ds : List D} (hs : SimH K r H lh) (q : Rel K r H d v) (h : sq lh d = some ds) : ∃ a vs, v = .ref a ∧ SqL K H a vs ∧ RelL K r H ds vs := by
  cases q with
  | @loc n a e =>
    have h' : (match lh[n]? with | some (.lst xs) => some xs | _ => none) = some ds := h
    split at h'
    · rename_i xs eo
      cases h'
      obtain ⟨vs, z, q⟩ := hs.get e eo
      exact ⟨a, vs, rfl, .of z, q⟩
    · cases h'
  | @fl a vs xs e q =>
    cases h
    exact ⟨a, vs, rfl, e.sq, q⟩
  | _ => cases h
def ixD : D → D → LH → Re D := fun a b lh => match a, b with
  | .tup ds, .int i => match atI ds i with | some d => .ok d lh | none => .bad
  | .str z, .int i => if z.length ≤ sizeLine then (match atI z.cps.toList i with | some c => .ok (.str ⟨#[c]⟩) lh | none => .bad) else .bad
  | a, .int i => match sq lh a with | some ds => (match atI ds i with | some d => .ok d lh | none => .bad) | none => .bad
  | _, _ => .bad
theorem RelL.atI {K r H} {ds : List D} {vs : List V} {i : Int} {d : D} (h : RelL K r H ds vs) (e : atI ds i = some d) : ∃ v, L2.atI vs i = some v ∧ Rel K r H d v := by
  unfold L2.atI at e ⊢
  rw [← h.length]
  cases q : ixN ds.length i with
  | none => rw [q] at e; cases e
  | some j =>
    rw [q] at e
    exact h.get (show ds[j]? = some d from e)
def IxD (X : Cx) (f : D → D → LH → Re D) : Prop := ∃ rr : R2, IxR X rr ∧ ∀ (E : XK) r H lh a b v u Q, SimH X.K r H lh → Rel X.K r H a v → Rel X.K r H b u → FinG X.K X.mg E (Rel X.K) r H Q (f a b lh) → rr v u H Q
theorem ix_D : IxD X ixD := by
  refine ⟨_, ix_seq, fun E r H lh a b v u Q Hh ra rb F => ?_⟩
  unfold ixD at F
  split at F
  · cases ra with
    | tup e q =>
      cases rb
      split at F
      · rename_i d ed
        obtain ⟨v, h1, h2⟩ := q.atI ed
        exact .inr (.inl ⟨_, _, _, v, rfl, rfl, e, h1, F.ok Hh h2⟩)
      · exact F.elim
  · cases ra
    cases rb
    split at F
    · rename_i hz
      split at F
      · rename_i c ec
        exact .inr (.inr ⟨_, _, c, rfl, rfl, hz, ec, F.ok Hh (.str _)⟩)
      · exact F.elim
    · exact F.elim
  · cases rb
    split at F
    · rename_i ds eds
      obtain ⟨p, vs, rfl, h0, q⟩ := sq_to Hh ra eds
      split at F
      · rename_i d ed
        obtain ⟨v, h1, h2⟩ := q.atI ed
        exact .inl ⟨_, _, _, v, rfl, rfl, h0, h1, F.ok Hh h2⟩
      · exact F.elim
    · exact F.elim
  · exact F.elim
theorem de_ix {a b : Expr} {ma mb : M} {pos : Pos} (ha : DE X W a ma) (hb : DE X W b mb) (hs : PlainIx b := by exact fun _ _ => rfl) : DE X W (.Subscript a b pos) (opM ixD ma mb) := by
  obtain ⟨rr, h1, h2⟩ := ix_D (X := X)
  exact pe_imp (pe_ix h1 ha hb hs) fun s H Q h => de_op_ ha hb h2 h
abbrev MO := LE → LH → Re (Option Int)
def DO (X : Cx) (W : WX) (e : Option Expr) (m : MO) : Prop := PO X e (tG X W (fun _ _ a b => a = b) m)
theorem po_imp {e : Option Expr} {t t' : TO} (h : PO X e t) (i : ∀ s H Q, t' s H Q → t s H Q) : PO X e t' := ⟨fun pins s σ H Q I w => h.run pins s σ H Q I (i σ H Q w)⟩
def noM : MO := fun _ lh => .ok none lh
def soM (m : M) : MO := fun e lh => (m e lh).bind fun d l => match d with | .int i => .ok (some i) l | _ => .bad
theorem do_none : DO X W none noM := po_imp po_none fun s H Q ⟨r, e, lh, S, Hh, F⟩ => F.ok Hh rfl
theorem do_some {e : Expr} {m : M} (h : DE X W e m) : DO X W (some e) (soM m) := by
  refine po_imp (po_some h) fun s H Q ⟨r, e, lh, S, Hh, F⟩ => ?_
  refine tG_of S Hh ((FinG.bind (R := Rel X.K) F).imp fun v H1 ⟨r1, l1, x, y1, z1, w1, F1⟩ => ?_)
  cases w1 with
  | int i => exact ⟨i, rfl, F1.ok z1 rfl⟩
  | _ => exact F1.elim
def cutL {a : Type} (xs : List a) (lo hi : Option Int) : List a := (xs.drop (HT.sIx xs.length 0 lo)).take (HT.sIx xs.length xs.length hi - HT.sIx xs.length 0 lo)
theorem RelL.cut {K r H} {ds : List D} {vs : List V} (h : RelL K r H ds vs) (lo hi : Option Int) : RelL K r H (cutL ds lo hi) (cutV vs lo hi) := by
  unfold cutL cutV
  rw [← h.length]
  exact (h.drop _).take _
def slD : D → Option Int → Option Int → LH → Re D := fun a lo hi lh => match a with
  | .tup ds => .ok (.tup (cutL ds lo hi)) lh
  | a => match sq lh a with | some ds => .ok (.loc lh.length) (lh ++ [.lst (cutL ds lo hi)]) | none => .bad
theorem cutL_all {a : Type} {xs : List a} {lo hi : Option Int} (h : HT.sIx xs.length 0 lo = 0 ∧ HT.sIx xs.length xs.length hi = xs.length) : cutL xs lo hi = xs := by
  unfold cutL
  rw [h.1, h.2]
  simp
def slM (ma : M) (ml mh : MO) : M := fun e lh => (ma e lh).bind fun d l => (ml e l).bind fun lo l2 => (mh e l2).bind fun hi l3 => slD d lo hi l3
theorem de_sl {a : Expr} {lo hi : Option Expr} {ma : M} {ml mh : MO} {p2 pos : Pos} (ha : DE X W a ma) (hl : DO X W lo ml) (hh : DO X W hi mh) : DE X W (.Subscript a (.Slice lo hi none p2) pos) (slM ma ml mh) := by
  refine pe_imp (pe_slice (sl_list.or sl_tupA) ha hl hh) fun s H Q ⟨r, e, lh, S, Hh, F⟩ => ?_
  refine tG_of S Hh ((FinG.bind (R := Rel X.K) F).imp fun v H1 ⟨r1, l1, x, y1, z1, w1, F1⟩ => ?_)
  refine tG_of (S.mono y1) z1 ((FinG.bind (R := fun _ _ a b => a = b) F1).imp fun lo H2 ⟨r2, l2, x2, y2, z2, w2, F2⟩ => ?_)
  refine tG_of ((S.mono y1).mono y2) z2 ((FinG.bind (R := fun _ _ a b => a = b) F2).imp fun hi H3 ⟨r3, l3, x3, y3, z3, w3, F3⟩ => ?_)
  have w2 : x2 = lo := w2
  have w3 : x3 = hi := w3
  subst w2 w3
  have w4 := (w1.mono y2).mono y3
  unfold slD at F3
  split at F3
  · cases w4 with
    | tup e q =>
      refine .inr ⟨_, _, rfl, e, fun hw => ?_, fun hw p hp => ?_⟩
      · rw [← q.length] at hw
        rw [cutL_all hw] at F3
        exact F3.ok z3 (.tup e q)
      · exact F3.to (Ext.laid hp) (z3.laidT hp) (.tup (.of upd_same) ((q.cut _ _).mono (Ext.laid hp)))
  · split at F3
    · rename_i ds eds
      obtain ⟨p0, vs, rfl, h0, q⟩ := sq_to z3 w4 eds
      exact .inl ⟨_, _, rfl, h0, fun p hp => F3.to (Ext.more hp) (z3.laid hp (q.cut _ _)) (.loc (laid_new z3))⟩
    · exact F3.elim

/-! ### built-in functions -/
def CallD (X : Cx) (f : Value) (g : List D → LH → Re D) : Prop :=
  ∃ rr : List V → Hp → VK → Prop, CallR X f rr ∧ ∀ (E : XK) r H lh ds vs Q, SimH X.K r H lh → RelL X.K r H ds vs → FinG X.K X.mg E (Rel X.K) r H Q (g ds lh) → rr vs H Q
def callM (g : List D → LH → Re D) (ma : MA) : M := fun e lh => (ma e lh).bind fun ds l => g ds l
theorem de_cb_ {es : List Expr} {ma : MA} (ha : DA X W es ma) {rr : List V → Hp → VK → Prop} {g : List D → LH → Re D} (h2 : ∀ (E : XK) r H lh ds vs Q, SimH X.K r H lh → RelL X.K r H ds vs → FinG X.K X.mg E (Rel X.K) r H Q (g ds lh) → rr vs H Q)
    {s : L2.St} {H : Hp} {Q : VK} (h : tG X W (Rel X.K) (callM g ma) s H Q) : tCB rr (tG X W (RelL X.K) ma) s H Q := by
  obtain ⟨r, e, lh, S, Hh, F⟩ := h
  refine tG_of S Hh ((FinG.bind (R := RelL X.K) F).imp fun vs H1 ⟨r1, l1, x, y1, z1, w1, F1⟩ => ?_)
  exact h2 _ r1 H1 l1 x vs Q z1 w1 F1
theorem de_callB {id : String} {x : Str} {p pos : Pos} {e : Expr} {es : List Expr} {g : List D → LH → Re D} {ma : MA} (hc : CallD X (.builtin id) g) (hm : X.mg x = none) (hv : bootBuiltins x = some (.builtin id)) (ha : DA X W (e :: es) ma) (hg : Gl X x := by rfl) (hn : x ≠ "__name__" := by decide) (hdb : (x == ("__debug__" : Str)) = false := by decide)
    (he : starEach (e :: es) X.env = (false, eval e X.env) :: starEach es X.env := by rfl) (hpl : (backTo pos (starEach es X.env)).any (·.1) = false := by rfl) : DE X W (.Call (.Name x p) (e :: es) [] pos) (callM g ma) := by
  obtain ⟨rr, h1, h2⟩ := hc
  exact pe_imp (pe_callB h1 hg hm hv ha.pa hn hdb he hpl) fun s H Q h => de_cb_ ha h2 h
theorem de_callTy {T : String} {x : Str} {p pos : Pos} {e : Expr} {es : List Expr} {g : List D → LH → Re D} {ma : MA} (hc : CallD X (.type T) g) (hm : X.mg x = none) (hv : bootBuiltins x = some (.type T)) (ha : DA X W (e :: es) ma) (hg : Gl X x := by rfl) (hn : x ≠ "__name__" := by decide) (hdb : (x == ("__debug__" : Str)) = false := by decide)
    (he : starEach (e :: es) X.env = (false, eval e X.env) :: starEach es X.env := by rfl) (hpl : (backTo pos (starEach es X.env)).any (·.1) = false := by rfl) : DE X W (.Call (.Name x p) (e :: es) [] pos) (callM g ma) := by
  obtain ⟨rr, h1, h2⟩ := hc
  exact pe_imp (pe_callTy h1 hg hm hv ha.pa hn hdb he hpl) fun s H Q h => de_cb_ ha h2 h
/-- len -/
def lenD : List D → LH → Re D := fun ds lh => match ds with
  | [.tup xs] => .ok (.int xs.length) lh
  | [.str z] => if z.length ≤ sizeLine then .ok (.int z.length) lh else .bad
  | [d] => match sq lh d with | some xs => .ok (.int xs.length) lh | none => .bad
  | _ => .bad
theorem c_len : CallD X (.builtin "len") lenD := by
  refine ⟨_, call_len_seq.or call_len_str, fun E r H lh ds vs Q Hh ra F => ?_⟩
  unfold lenD at F
  split at F
  · cases ra with
    | cons ra rb =>
      cases rb
      cases ra with
      | tup e q => exact .inl ⟨_, _, rfl, .inr e, by rw [← q.length]; exact F.ok Hh (.int _)⟩
  · cases ra with
    | cons ra rb =>
      cases rb
      cases ra
      split at F
      · rename_i hz
        exact .inr ⟨_, rfl, hz, F.ok Hh (.int _)⟩
      · exact F.elim
  · cases ra with
    | cons ra rb =>
      cases rb
      split at F
      · rename_i ds eds
        obtain ⟨p, vs, rfl, h0, q⟩ := sq_to Hh ra eds
        exact .inl ⟨_, _, rfl, .inl h0, by rw [← q.length]; exact F.ok Hh (.int _)⟩
      · exact F.elim
  · exact F.elim
/-- int of an int or a bool -/
def intD : List D → LH → Re D := fun ds lh => match ds with
  | [.int i] => .ok (.int i) lh
  | [.bl k] => .ok (.int (if k then 1 else 0)) lh
  | _ => .bad
theorem c_int : CallD X (.type "int") intD := by
  refine ⟨_, call_int1, fun E r H lh ds vs Q Hh ra F => ?_⟩
  unfold intD at F
  split at F
  · cases ra with
    | cons ra rb =>
      cases rb
      cases ra
      exact .inl ⟨_, rfl, F.ok Hh (.int _)⟩
  · cases ra with
    | cons ra rb =>
      cases rb
      cases ra
      exact .inr ⟨_, rfl, F.ok Hh (.int _)⟩
  · exact F.elim
/-- list(..) of a list or a tuple -/
def listD : List D → LH → Re D := fun ds lh => match ds with
  | [.tup xs] => .ok (.loc lh.length) (lh ++ [.lst xs])
  | [d] => match sq lh d with | some xs => .ok (.loc lh.length) (lh ++ [.lst xs]) | none => .bad
  | _ => .bad
theorem c_list : CallD X (.type "list") listD := by
  refine ⟨_, call_list_of, fun E r H lh ds vs Q Hh ra F => ?_⟩
  unfold listD at F
  split at F
  · cases ra with
    | cons ra rb =>
      cases rb
      cases ra with
      | tup e q => exact ⟨_, _, rfl, .inr e, fun p hp => F.to (Ext.more hp) (Hh.laid hp q) (.loc (laid_new Hh))⟩
  · cases ra with
    | cons ra rb =>
      cases rb
      split at F
      · rename_i ds eds
        obtain ⟨p0, vs, rfl, h0, q⟩ := sq_to Hh ra eds
        exact ⟨_, _, rfl, .inl h0, fun p hp => F.to (Ext.more hp) (Hh.laid hp q) (.loc (laid_new Hh))⟩
      · exact F.elim
  · exact F.elim
/-- tuple(..) of a list or a tuple -/
def tupleD : List D → LH → Re D := fun ds lh => match ds with
  | [.tup xs] => .ok (.tup xs) lh
  | [d] => match sq lh d with | some xs => .ok (.tup xs) lh | none => .bad
  | _ => .bad
theorem c_tuple : CallD X (.type "tuple") tupleD := by
  refine ⟨_, call_tuple_of, fun E r H lh ds vs Q Hh ra F => ?_⟩
  unfold tupleD at F
  split at F
  · cases ra with
    | cons ra rb =>
      cases rb
      cases ra with
      | tup e q => exact ⟨_, _, rfl, .inr ⟨e, F.ok Hh (.tup e q)⟩⟩
  · cases ra with
    | cons ra rb =>
      cases rb
      split at F
      · rename_i ds eds
        obtain ⟨p0, vs, rfl, h0, q⟩ := sq_to Hh ra eds
        exact ⟨_, _, rfl, .inl ⟨h0, fun p hp => F.to (Ext.laid hp) (Hh.laidT hp) (.tup (.of upd_same) (q.mono (Ext.laid hp)))⟩⟩
      · exact F.elim
  · exact F.elim
/-- all, any of a list of bools -/
def bls : List D → Option (List Bool)
  | [] => some []
  | .bl b :: r => (bls r).map (b :: ·)
  | _ :: _ => none
theorem bls_to {K r H} : ∀ {ds : List D} {vs : List V} {bs : List Bool}, RelL K r H ds vs → bls ds = some bs → vs = bs.map V.bl
  | _, _, bs, .nil, h => by cases h; rfl
  | _, _, bs, .cons p q, h => by
    cases p with
    | bl b =>
      rename_i ds' vs'
      have h' : (bls ds').map (b :: ·) = some bs := h
      cases e : bls ds' with
      | none => rw [e] at h'; cases h'
      | some bs' =>
        rw [e] at h'
        cases h'
        rw [bls_to q e]
        rfl
    | _ => cases h
def qntD (f : List Bool → Bool) : List D → LH → Re D := fun ds lh => match ds with
  | [d] => match sq lh d with | some xs => (match bls xs with | some bs => .ok (.bl (f bs)) lh | none => .bad) | none => .bad
  | _ => .bad
def allD : List D → LH → Re D := qntD fun bs => bs.all id
def anyD : List D → LH → Re D := qntD fun bs => bs.any id
theorem c_all {k} (o : Bk k X W) : CallD X (.builtin "all") allD := by
  refine ⟨_, cr_all o.calm, fun E r H lh ds vs Q Hh ra F => ?_⟩
  unfold allD qntD at F
  split at F
  · cases ra with
    | cons ra rb =>
      cases rb
      split at F
      · rename_i ds eds
        obtain ⟨p0, vs, rfl, h0, q⟩ := sq_to Hh ra eds
        split at F
        · rename_i bs ebs
          have e2 := bls_to q ebs
          subst e2
          exact ⟨_, bs, rfl, h0, F.ok Hh (.bl _)⟩
        · exact F.elim
      · exact F.elim
  · exact F.elim
theorem c_any {k} (o : Bk k X W) : CallD X (.builtin "any") anyD := by
  refine ⟨_, cr_any o.calm, fun E r H lh ds vs Q Hh ra F => ?_⟩
  unfold anyD qntD at F
  split at F
  · cases ra with
    | cons ra rb =>
      cases rb
      split at F
      · rename_i ds eds
        obtain ⟨p0, vs, rfl, h0, q⟩ := sq_to Hh ra eds
        split at F
        · rename_i bs ebs
          have e2 := bls_to q ebs
          subst e2
          exact ⟨_, bs, rfl, h0, F.ok Hh (.bl _)⟩
        · exact F.elim
      · exact F.elim
  · exact F.elim
/-- isinstance -/
def tyNames : List String := ["NoneType", "bool", "int", "str", "tuple", "list"]
def isT (a b : String) : Bool := a == b || (a == "bool" && b == "int")
theorem isT_ok : ∀ a ∈ tyNames, ∀ b ∈ tyNames, kitB a b = some (isT a b) := by decide +kernel
def tyOf (lh : LH) : D → Option String
  | .non => some "NoneType" | .bl _ => some "bool" | .int _ => some "int" | .str _ => some "str" | .tup _ => some "tuple"
  | .loc n => match lh[n]? with | some (.lst _) => some "list" | _ => none
  | .fl _ => some "list"
  | .raw _ => none
theorem tyOf_mem {lh : LH} {d : D} {t : String} (h : tyOf lh d = some t) : t ∈ tyNames := by
  cases d with
  | loc n =>
    have h' : (match lh[n]? with | some (.lst _) => some "list" | _ => none) = some t := h
    split at h'
    · cases h'; decide
    · cases h'
  | raw _ => cases h
  | _ => cases h; decide
theorem tyOf_to {K r H} {lh : LH} {d : D} {v : V} {t : String} (hs : SimH K r H lh) (q : Rel K r H d v) (h : tyOf lh d = some t) : TyX K H v (.type t) := by
  cases q with
  | non => cases h; exact .base .non
  | bl b => cases h; exact .base (.bl b)
  | int b => cases h; exact .base (.int b)
  | str b => cases h; exact .base (.str b)
  | raw _ => cases h
  | @tup a xs ds e q =>
    cases h
    rcases e with (e | ⟨o, e⟩) | ⟨o, its, n, hk, hc, _⟩
    · exact .base (.tup e)
    · exact .fTuple e
    · exact .kTuple hk hc
  | @loc n a e =>
    have h' : (match lh[n]? with | some (.lst _) => some "list" | _ => none) = some t := h
    split at h'
    · rename_i ds eo
      cases h'
      obtain ⟨vs, z, q⟩ := hs.get e eo
      exact .base (.lst z)
    · cases h'
  | @fl a vs xs e q =>
    cases h
    rcases e with ⟨o, e⟩ | ⟨o, its, n, hk, hc, _⟩
    · exact .base (.frz e)
    · exact .kList hk hc
def clsN : List D → Option (List String)
  | [] => some []
  | .raw (.ty n) :: r => if n ∈ tyNames then (clsN r).map (n :: ·) else none
  | _ :: _ => none
def isiD : List D → LH → Re D := fun ds lh => match ds with
  | [d, .raw (.ty n)] => match tyOf lh d with | some t => if n ∈ tyNames then .ok (.bl (isT t n)) lh else .bad | none => .bad
  | [d, .tup cs] => match tyOf lh d, clsN cs with | some t, some ns => .ok (.bl (ns.any fun n => isT t n)) lh | _, _ => .bad
  | _ => .bad
theorem clsN_to {K r H} {t : String} (ht : t ∈ tyNames) : ∀ {ds : List D} {vs : List V} {ns : List String}, RelL K r H ds vs → clsN ds = some ns →
    ∃ us, Paired ClsV vs us ∧ PySem.W.kitAny K (.type t) us = some (ns.any fun n => isT t n)
  | _, _, ns, .nil, h => by cases h; exact ⟨[], .nil, rfl⟩
  | _, _, ns, .cons p q, h => by
    rename_i d v ds' vs'
    unfold clsN at h
    split at h
    · rename_i e
      cases e
    · rename_i n r' e
      cases e
      cases p
      split at h
      · rename_i hn
        cases e2 : clsN ds' with
        | none => rw [e2] at h; cases h
        | some ns' =>
          rw [e2] at h
          cases h
          obtain ⟨us, h1, h2⟩ := clsN_to ht q e2
          refine ⟨.type n :: us, .cons (.ty n) h1, kitAny_cons (kit_ty (isT_ok t ht n hn)) (fun z => ?_) (fun z => ?_)⟩
          · rw [h2, List.any_cons, z, Bool.false_or]
          · rw [List.any_cons, z, Bool.true_or]
      · cases h
    · cases h
def rIsiS (K : PySem.W.Frag) : List V → Hp → VK → Prop := fun xs H Q => ∃ (x : V) (tp : Addr) (cs : List V) (t : Value) (us : List Value) (b : Bool), xs = [x, .ref tp] ∧ SqT K H tp cs ∧ Paired ClsV cs us ∧ TyX K H x t ∧ PySem.W.kitAny K t us = some b ∧ Q (.bl b) H
theorem call_isiS : CallR X (.builtin "isinstance") (rIsiS X.K) := by
  intro pins s σ H xs us Q I r h
  obtain ⟨x, tp, cs, t, ws, b, rfl, hT, k, ty, e, q⟩ := h
  obtain ⟨u1, u2, rfl, r1, r2⟩ := vals2 r
  cases (show u2 = Value.ref tp from r2)
  obtain ⟨P, Z, p, hx⟩ := kit_of I r1 ty
  obtain ⟨its, rv, ⟨o, h1, h2, n, h3⟩, _⟩ := I.tuple hT
  have e3 := ClsV.all k rv
  subst e3
  obtain ⟨oc, od, dt, sl⟩ := o
  simp only at h2 h3
  subst h2 h3
  exact PySem.W.kia_tup Z I.kIn p h1 e hx fun tk => ⟨.bl b, H, I.tok tk, rfl, q⟩
theorem c_isi : CallD X (.builtin "isinstance") isiD := by
  refine ⟨_, (call_isi (X := X)).or (call_isiS (X := X)), fun E r H lh ds vs Q Hh ra F => ?_⟩
  unfold isiD at F
  split at F
  · cases ra with
    | cons ra rb =>
      cases rb with
      | cons rb rc =>
        cases rc
        cases rb
        split at F
        · rename_i t et
          split at F
          · rename_i hn
            exact .inl ⟨_, _, _, _, _, rfl, .ty _, tyOf_to Hh ra et, kit_ty (isT_ok _ (tyOf_mem et) _ hn), F.ok Hh (.bl _)⟩
          · exact F.elim
        · exact F.elim
  · cases ra with
    | cons ra rb =>
      cases rb with
      | cons rb rc =>
        cases rc
        cases rb with
        | @tup a xs cs e q =>
          split at F
          · rename_i t ns et ens
            obtain ⟨us, h1, h2⟩ := clsN_to (K := X.K) (tyOf_mem et) q ens
            exact .inr ⟨_, a, xs, _, us, _, rfl, e, h1, tyOf_to Hh ra et, h2, F.ok Hh (.bl _)⟩
          · exact F.elim
  · exact F.elim
end
end NL
set_option maxRecDepth 100000
set_option maxHeartbeats 1000000
namespace NL
open PySem PySem.Spec L2
/-! ### statements -/
inductive RS where
  | nx (e : LE) (h : LH) | rt (d : D) (h : LH) | bk (e : LE) (h : LH) | ct (e : LE) (h : LH) | er (x : Ex) (e : LE) (h : LH) | bad
abbrev SM := LE → LH → RS
/-- a value's result, then the statement's -/
def toS (e : LE) (f : D → LH → RS) : Re D → RS | .ok d l => f d l | .er x l => .er x e l | .bad => .bad
def toSB (e : LE) (f : Bool → LH → RS) : Re Bool → RS | .ok d l => f d l | .er x l => .er x e l | .bad => .bad
@[simp] theorem toS_ok (e : LE) (f : D → LH → RS) (d : D) (l : LH) : toS e f (.ok d l) = f d l := rfl
@[simp] theorem toS_er (e : LE) (f : D → LH → RS) (x : Ex) (l : LH) : toS e f (.er x l) = .er x e l := rfl
@[simp] theorem toS_bad (e : LE) (f : D → LH → RS) : toS e f .bad = .bad := rfl
@[simp] theorem toSB_ok (e : LE) (f : Bool → LH → RS) (d : Bool) (l : LH) : toSB e f (.ok d l) = f d l := rfl
@[simp] theorem toSB_er (e : LE) (f : Bool → LH → RS) (x : Ex) (l : LH) : toSB e f (.er x l) = .er x e l := rfl
@[simp] theorem toSB_bad (e : LE) (f : Bool → LH → RS) : toSB e f .bad = .bad := rfl
section
variable (X : Cx) (W : WX)
def FinS (r : List Addr) (H : Hp) (T : Ends) : RS → Prop
  | .nx e l => ∀ r' H' s', Ext X.K r H r' H' → SimS X.K r' H' e s' → SimH X.K r' H' l → T.nx s' H'
  | .bk e l => ∀ r' H' s', Ext X.K r H r' H' → SimS X.K r' H' e s' → SimH X.K r' H' l → T.bk s' H'
  | .ct e l => ∀ r' H' s', Ext X.K r H r' H' → SimS X.K r' H' e s' → SimH X.K r' H' l → T.ct s' H'
  | .rt d l => ∀ r' H' v, Ext X.K r H r' H' → SimH X.K r' H' l → Rel X.K r' H' d v → T.rt v H'
  | .er x e l => ∀ r' H' s' c dd, Ext X.K r H r' H' → SimS X.K r' H' e s' → SimH X.K r' H' l → RelX X.K X.mg r' H' x c dd → W c dd s' H'
  | .bad => False
def tSt (m : SM) : TS := fun T s H => ∃ r e lh, SimS X.K r H e s ∧ SimH X.K r H lh ∧ FinS X W r H T (m e lh)
def DS (st : Stmt) (m : SM) : Prop := PS X st (tSt X W m)
def DSs (st : List Stmt) (m : SM) : Prop := PSs X st (tSt X W m)
end
section
variable {X : Cx} {W : WX}
theorem ps_imp {st : Stmt} {t t' : TS} (h : PS X st t) (i : ∀ T s H, t' T s H → t T s H) : PS X st t' := ⟨fun pins s σ H D I w => h.run pins s σ H D I (i D σ H w)⟩
theorem pss_imp {st : List Stmt} {t t' : TS} (h : PSs X st t) (i : ∀ T s H, t' T s H → t T s H) : PSs X st t' := ⟨fun pins s σ H D I w => h.run pins s σ H D I (i D σ H w)⟩
theorem pg_imp {tg : Expr} {t t' : TG} (h : PG X tg t) (i : ∀ v s H Q, t' v s H Q → t v s H Q) : PG X tg t' := ⟨fun pins s σ H v u Q I r w => h.run pins s σ H v u Q I r (i v σ H Q w)⟩
theorem pgs_imp {tg : List Expr} {t t' : TGs} (h : PGs X tg t) (i : ∀ v s H Q, t' v s H Q → t v s H Q) : PGs X tg t' := ⟨fun pins s σ H v u Q I r w => h.run pins s σ H v u Q I r (i v σ H Q w)⟩
theorem pi_imp {tg e : Expr} {t t' : TI} (h : PI X tg e t) (i : ∀ s H Q, t' s H Q → t s H Q) : PI X tg e t' := ⟨fun pins s σ H R I w => h.run pins s σ H R I (i σ H R w)⟩
theorem FinS.mono {r r1 : List Addr} {H H1 : Hp} {T : Ends} (x : Ext X.K r H r1 H1) : ∀ {t : RS}, FinS X W r H T t → FinS X W r1 H1 T t
  | .nx e l, h => fun r' H' s' a b c => h r' H' s' (x.trans a) b c
  | .bk e l, h => fun r' H' s' a b c => h r' H' s' (x.trans a) b c
  | .ct e l, h => fun r' H' s' a b c => h r' H' s' (x.trans a) b c
  | .rt d l, h => fun r' H' s' a b c => h r' H' s' (x.trans a) b c
  | .er q e l, h => fun r' H' s' c dd a => h r' H' s' c dd (x.trans a)
  | .bad, h => h
/-- a value's result ahead -/
theorem FinS.val {r : List Addr} {H : Hp} {T : Ends} {s : L2.St} {e : LE} {f : D → LH → RS} (S : SimS X.K r H e s) : ∀ {t : Re D}, FinS X W r H T (toS e f t) →
    FinG X.K X.mg (fun c dd H' => W c dd s H') (Rel X.K) r H (fun v H1 => ∃ r1 l1 d, Ext X.K r H r1 H1 ∧ SimH X.K r1 H1 l1 ∧ Rel X.K r1 H1 d v ∧ FinS X W r1 H1 T (f d l1)) t
  | .ok d l, h => fun r1 H1 v a b c => ⟨r1, l, d, a, b, c, FinS.mono a h⟩
  | .er x l, h => fun r' H' c dd a b q => h r' H' s c dd a (S.mono a) b q
  | .bad, h => h
theorem FinS.valB {r : List Addr} {H : Hp} {T : Ends} {s : L2.St} {e : LE} {f : Bool → LH → RS} (S : SimS X.K r H e s) : ∀ {t : Re Bool}, FinS X W r H T (toSB e f t) →
    FinG X.K X.mg (fun c dd H' => W c dd s H') RB r H (fun v H1 => ∃ r1 l1 d, Ext X.K r H r1 H1 ∧ SimH X.K r1 H1 l1 ∧ RB r1 H1 d v ∧ FinS X W r1 H1 T (f d l1)) t
  | .ok d l, h => fun r1 H1 v a b c => ⟨r1, l, d, a, b, c, FinS.mono a h⟩
  | .er x l, h => fun r' H' c dd a b q => h r' H' s c dd a (S.mono a) b q
  | .bad, h => h
/-! ### blocks -/
def RS.bd : RS → SM → RS
  | .nx e l, f => f e l | .rt d l, _ => .rt d l | .bk e l, _ => .bk e l | .ct e l, _ => .ct e l | .er x e l, _ => .er x e l | .bad, _ => .bad
@[simp] theorem bd_nx (e : LE) (l : LH) (f : SM) : (RS.nx e l).bd f = f e l := rfl
@[simp] theorem bd_rt (d : D) (l : LH) (f : SM) : (RS.rt d l).bd f = .rt d l := rfl
@[simp] theorem bd_bk (e : LE) (l : LH) (f : SM) : (RS.bk e l).bd f = .bk e l := rfl
@[simp] theorem bd_ct (e : LE) (l : LH) (f : SM) : (RS.ct e l).bd f = .ct e l := rfl
@[simp] theorem bd_er (x : Ex) (e : LE) (l : LH) (f : SM) : (RS.er x e l).bd f = .er x e l := rfl
@[simp] theorem bd_bad (f : SM) : (RS.bad).bd f = .bad := rfl
theorem FinS.bd {r : List Addr} {H : Hp} {T : Ends} {f : SM} : ∀ {t : RS}, FinS X W r H T (t.bd f) →
    FinS X W r H { T with nx := fun s' H' => ∃ r' e' l', Ext X.K r H r' H' ∧ SimS X.K r' H' e' s' ∧ SimH X.K r' H' l' ∧ FinS X W r' H' T (f e' l') } t
  | .nx e l, h => fun r' H' s' a b c => ⟨r', e, l, a, b, c, FinS.mono a h⟩
  | .bk e l, h => h
  | .ct e l, h => h
  | .rt d l, h => h
  | .er q e l, h => h
  | .bad, h => h
theorem FinS.imp {r : List Addr} {H : Hp} {T T' : Ends} (h1 : ∀ s H, T.nx s H → T'.nx s H) (h2 : ∀ v H, T.rt v H → T'.rt v H) (h3 : ∀ s H, T.bk s H → T'.bk s H) (h4 : ∀ s H, T.ct s H → T'.ct s H) : ∀ {t : RS}, FinS X W r H T t → FinS X W r H T' t
  | .nx e l, h => fun r' H' s' a b c => h1 _ _ (h r' H' s' a b c)
  | .bk e l, h => fun r' H' s' a b c => h3 _ _ (h r' H' s' a b c)
  | .ct e l, h => fun r' H' s' a b c => h4 _ _ (h r' H' s' a b c)
  | .rt d l, h => fun r' H' s' a b c => h2 _ _ (h r' H' s' a b c)
  | .er q e l, h => h
  | .bad, h => h
def seqS (m1 m2 : SM) : SM := fun e lh => (m1 e lh).bd m2
def nxS : SM := fun e lh => .nx e lh
def bkS : SM := fun e lh => .bk e lh
def ctS : SM := fun e lh => .ct e lh
theorem tSt_seq {m1 m2 : SM} {T : Ends} {s : L2.St} {H : Hp} (h : tSt X W (seqS m1 m2) T s H) : tSeq (tSt X W m1) (tSt X W m2) T s H := by
  obtain ⟨r, e, lh, S, Hh, F⟩ := h
  refine ⟨r, e, lh, S, Hh, ?_⟩
  have F' := FinS.bd F
  refine FinS.imp ?_ ?_ ?_ ?_ F'
  case refine_2 => exact fun _ _ z => z
  case refine_3 => exact fun _ _ z => z
  case refine_4 => exact fun _ _ z => z
  intro s' H' h
  obtain ⟨r', e', l', _, b, c, q⟩ := h
  exact ⟨r', e', l', b, c, q⟩
theorem dss_nil : DSs X W [] nxS := pss_imp pss_nil fun T s H ⟨r, e, lh, S, Hh, F⟩ => F r H s Ext.refl S Hh
theorem dss_cons {st : Stmt} {rest : List Stmt} {m1 m2 : SM} (h1 : DS X W st m1) (h2 : DSs X W rest m2) : DSs X W (st :: rest) (seqS m1 m2) :=
  pss_imp (pss_cons h1 h2) fun T s H h => tSt_seq h
theorem dss_one {st : Stmt} {m1 : SM} (h1 : DS X W st m1) : DSs X W [st] m1 := pss_one h1
theorem ds_pass {pos : Pos} : DS X W (.Pass pos) nxS := ps_imp ps_pass fun T s H ⟨r, e, lh, S, Hh, F⟩ => F r H s Ext.refl S Hh
theorem ds_break {pos : Pos} : DS X W (.Break pos) bkS := ps_imp ps_break fun T s H ⟨r, e, lh, S, Hh, F⟩ => F r H s Ext.refl S Hh
theorem ds_continue {pos : Pos} : DS X W (.Continue pos) ctS := ps_imp ps_continue fun T s H ⟨r, e, lh, S, Hh, F⟩ => F r H s Ext.refl S Hh
/-! ### small statements -/
def exS (m : M) : SM := fun e lh => toS e (fun _ l => .nx e l) (m e lh)
def rtS (m : M) : SM := fun e lh => toS e (fun d l => .rt d l) (m e lh)
def ifS (t : MT) (m1 m2 : SM) : SM := fun e lh => toSB e (fun k l => if k = true then m1 e l else m2 e l) (t e lh)
theorem ds_doc {x j pos pos'} : DS X W (.Expr (.Constant (.str x) j pos) pos') nxS := ps_imp ps_doc fun T s H ⟨r, e, lh, S, Hh, F⟩ => F r H s Ext.refl S Hh
theorem ds_expr {x : Expr} {m : M} {pos : Pos} (h : DE X W x m) (hs : swapsWith x none pos.line X.env = pure false := by rfl) : DS X W (.Expr x pos) (exS m) := by
  refine ps_imp (ps_expr h hs) fun T s H ⟨r, e, lh, S, Hh, F⟩ => ?_
  refine tG_of S Hh ((FinS.val S F).imp fun v H1 ⟨r1, l1, d, a, b, c, F1⟩ => ?_)
  exact F1 r1 H1 s Ext.refl (S.mono a) b
theorem ds_ret {x : Expr} {m : M} {pos : Pos} (h : DE X W x m) : DS X W (.Return (some x) pos) (rtS m) := by
  refine ps_imp (ps_ret h) fun T s H ⟨r, e, lh, S, Hh, F⟩ => ?_
  refine tG_of S Hh ((FinS.val S F).imp fun v H1 ⟨r1, l1, d, a, b, c, F1⟩ => ?_)
  exact F1 r1 H1 v Ext.refl b c
def rtN : SM := fun e lh => .rt .non lh
theorem ds_retN {pos : Pos} : DS X W (.Return none pos) rtN := ps_imp ps_retN fun T s H ⟨r, e, lh, S, Hh, F⟩ => F r H _ Ext.refl Hh .non
theorem ds_if {c : Expr} {a b : List Stmt} {t : MT} {m1 m2 : SM} {pos : Pos} (hc : DT X W c t) (ha : DSs X W a m1) (hb : DSs X W b m2) : DS X W (.If c a b pos) (ifS t m1 m2) := by
  refine ps_imp (ps_if hc ha hb) fun T s H ⟨r, e, lh, S, Hh, F⟩ => ?_
  refine tG_of S Hh ((FinS.valB S F).imp fun k H1 ⟨r1, l1, d, a, b, c, F1⟩ => ?_)
  have c : d = k := c
  subst c
  cases d with
  | true => exact iteT ⟨r1, e, l1, S.mono a, b, F1⟩
  | false => exact iteF ⟨r1, e, l1, S.mono a, b, F1⟩
/-! ### targets -/
abbrev TM := D → LE → LH → RS
def tTg (X : Cx) (W : WX) (vs : List Nat) (g : TM) : TG := fun v s H Q => ∃ r e lh d, SimS X.K r H e s ∧ SimH X.K r H lh ∧ Rel X.K r H d v ∧
  FinS X W r H { nx := fun s' H' => wipe s' vs = wipe s vs → Q s' H', rt := fun _ _ => False } (g d e lh)
def DG (X : Cx) (W : WX) (tg : Expr) (vs : List Nat) (g : TM) : Prop := PG X tg (tTg X W vs g)
abbrev TMs := List D → LE → LH → RS
def tTgs (X : Cx) (W : WX) (vs : List Nat) (g : TMs) : TGs := fun us s H Q => ∃ r e lh ds, SimS X.K r H e s ∧ SimH X.K r H lh ∧ RelL X.K r H ds us ∧
  FinS X W r H { nx := fun s' H' => wipe s' vs = wipe s vs → Q s' H', rt := fun _ _ => False } (g ds e lh)
def DGs (X : Cx) (W : WX) (tg : List Expr) (vs : List Nat) (g : TMs) : Prop := PGs X tg (tTgs X W vs g)
theorem wipe_at (s : L2.St) : ∀ (vs : List Nat) (i : Nat), (wipe s vs)[i]? = if i ∈ vs ∧ i < s.length then some none else s[i]?
  | [], i => by simp [wipe]
  | v :: vs, i => by
    unfold wipe
    by_cases h : v = i
    · subst h
      by_cases hl : v < s.length
      · rw [List.getElem?_set_self (by rw [wipe_length]; exact hl), if_pos ⟨List.mem_cons_self, hl⟩]
      · rw [List.getElem?_eq_none (by rw [List.length_set, wipe_length]; omega), if_neg fun z => hl z.2, List.getElem?_eq_none (by omega)]
    · rw [List.getElem?_set_ne h, wipe_at s vs i]
      by_cases hm : i ∈ vs ∧ i < s.length
      · rw [if_pos hm, if_pos ⟨List.mem_cons_of_mem _ hm.1, hm.2⟩]
      · rw [if_neg hm, if_neg fun z => hm ⟨(List.mem_cons.mp z.1).elim (fun q => absurd q.symm h) id, z.2⟩]
theorem wipe_sub {s s' : L2.St} {vs ws : List Nat} (h : wipe s vs = wipe s' vs) (hs : ∀ i ∈ vs, i ∈ ws) : wipe s ws = wipe s' ws := by
  have hl : s.length = s'.length := by rw [← wipe_length s vs, h, wipe_length]
  refine List.ext_getElem? fun i => ?_
  rw [wipe_at, wipe_at, hl]
  by_cases hi : i ∈ ws ∧ i < s'.length
  · rw [if_pos hi, if_pos hi]
  · rw [if_neg hi, if_neg hi]
    have q : (wipe s vs)[i]? = (wipe s' vs)[i]? := by rw [h]
    rw [wipe_at, wipe_at, hl] at q
    by_cases hv : i ∈ vs ∧ i < s'.length
    · exact absurd ⟨hs i hv.1, hv.2⟩ hi
    · rw [if_neg hv, if_neg hv] at q
      exact q
theorem wipe_set (s : L2.St) (i : Nat) (x : Option V) : wipe (s.set i x) [i] = wipe s [i] := by
  show (s.set i x).set i none = s.set i none
  rw [List.set_set]
def nmG (i : Nat) : TM := fun d e lh => .nx (e.set i (some d)) lh
theorem dg_name {i : Nat} {x : Str} {pos : Pos} (hN : X.N.Nodup) (hi : X.N[i]? = some x := by rfl) (hx : Loc X.env.scope x := by first | exact Or.inl rfl | exact Or.inr rfl) (hf : X.fn x = true ∨ X.env.scope.names.lookup x = some .local := by first | exact .inl rfl | exact .inr rfl | assumption) :
    DG X W (.Name x pos) [i] (nmG i) :=
  pg_imp (pg_name hN hi hx hf) fun v s H Q ⟨r, e, lh, d, S, Hh, q, F⟩ => F r H (s.set i (some v)) Ext.refl (S.set i q) Hh (wipe_set s i _)
def nilG : TMs := fun ds e lh => match ds with | [] => .nx e lh | _ => .bad
def consG (g : TM) (gs : TMs) : TMs := fun ds e lh => match ds with | d :: r => seqS (g d) (gs r) e lh | [] => .bad
theorem dgs_nil : DGs X W [] [] nilG := by
  refine pgs_imp pgs_nil fun us s H Q ⟨r, e, lh, ds, S, Hh, q, F⟩ => ?_
  unfold nilG at F
  split at F
  · cases q
    exact ⟨rfl, F r H s Ext.refl S Hh rfl⟩
  · exact F.elim
theorem dgs_cons {t : Expr} {ts : List Expr} {vs ws : List Nat} {g : TM} {gs : TMs} (h1 : DG X W t vs g) (h2 : DGs X W ts ws gs)
    (hs : (assignEach (t :: ts) X.env).map (·.2) = assign t X.env :: (assignEach ts X.env).map (·.2) := by rfl) : DGs X W (t :: ts) (vs ++ ws) (consG g gs) := by
  refine pgs_imp (pgs_cons h1 h2 hs) fun us s H Q ⟨r, e, lh, ds, S, Hh, q, F⟩ => ?_
  unfold consG at F
  split at F
  · rename_i d ds'
    cases q with
    | @cons _ v _ us' p q =>
      refine ⟨v, us', rfl, r, e, lh, d, S, Hh, p, ?_⟩
      have F' := FinS.bd F
      refine FinS.imp ?_ ?_ ?_ ?_ F'
      case refine_2 => exact fun _ _ z => z
      case refine_3 => exact fun _ _ z => z
      case refine_4 => exact fun _ _ z => z
      intro s' H' h hw
      obtain ⟨r', e', l', a, b, c, F2⟩ := h
      refine ⟨r', e', l', ds', b, c, q.mono a, ?_⟩
      refine FinS.imp ?_ ?_ ?_ ?_ F2
      case refine_2 => exact fun _ _ z => z
      case refine_3 => exact fun _ _ z => z
      case refine_4 => exact fun _ _ z => z
      intro s2 H2 h2 hw2
      refine h2 ?_
      exact (wipe_sub hw2 fun i hi => List.mem_append_right _ hi).trans (wipe_sub hw fun i hi => List.mem_append_left _ hi)
  · exact F.elim
theorem pg_or {tg : Expr} {g g' : TG} (h : PG X tg g) (h' : PG X tg g') : PG X tg (fun v s H Q => g v s H Q ∨ g' v s H Q) :=
  ⟨fun pins s σ H v u Q I r w => w.elim (h.run pins s σ H v u Q I r) (h'.run pins s σ H v u Q I r)⟩
/-- a, b, .. = a tuple or a list of that length -/
def tupG (n : Nat) (gs : TMs) : TM := fun d e lh => match d with
  | .tup ds => if ds.length = n then gs ds e lh else .bad
  | d => match sq lh d with | some ds => if ds.length = n then gs ds e lh else .bad | none => .bad
theorem dg_tup {es : List Expr} {k n : Nat} {vs : List Nat} {gs : TMs} {pos : Pos} (hc : X.calm = true) (h : DGs X W es vs gs) (hn : (assignEach es X.env).length = n := by rfl) (hst : (assignEach es X.env).findIdx? (·.1) = none := by rfl) :
    DG X W (.Tuple es k pos) vs (tupG n gs) := by
  refine pg_imp (pg_or (pg_tup hc h hn hst) (pg_lst hc h hn hst)) fun v s H Q ⟨r, e, lh, d, S, Hh, q, F⟩ => ?_
  unfold tupG at F
  split at F
  · cases q with
    | tup e1 q =>
      split at F
      · rename_i hl
        exact .inl ⟨_, _, rfl, e1, by rw [← q.length]; exact hl, r, e, lh, _, S, Hh, q, F⟩
      · exact F.elim
  · split at F
    · rename_i ds eds
      obtain ⟨p0, us, rfl, h0, q⟩ := sq_to Hh q eds
      split at F
      · rename_i hl
        exact .inr ⟨_, _, rfl, h0, by rw [← q.length]; exact hl, r, e, lh, _, S, Hh, q, F⟩
      · exact F.elim
    · exact F.elim
/-! ### stores to items -/
def setR (o i d : D) (e : LE) (lh : LH) : RS := match o, i with
  | .loc n, .int k => match lh[n]? with
    | some (.lst xs) => (match ixN xs.length k with | some j => .nx e (lh.set n (.lst (xs.set j d))) | none => .bad)
    | _ => .bad
  | _, _ => .bad
def subG (mo mi : M) : TM := fun d e lh => toS e (fun o l1 => toS e (fun i l2 => setR o i d e l2) (mi e l1)) (mo e lh)
theorem dg_sub {o i : Expr} {mo mi : M} {pos : Pos} (ho : DE X W o mo) (hi : DE X W i mi)
    (ha : ∀ v, assign (.Subscript o i pos) X.env v = (do
      let ov ← holding [v] (eval o X.env)
      let iv ← holding [v, ov] (eval i X.env)
      standAt pos
      holding [v, ov, iv] (setItem ov iv v)
      release [v, ov, iv] []) := by intro _; rfl) : DG X W (.Subscript o i pos) [] (subG mo mi) := by
  refine pg_imp (pg_sub ho hi set_list ha) fun v s H Q ⟨r, e, lh, d, S, Hh, q, F⟩ => ?_
  refine tG_of S Hh ((FinS.val S F).imp fun ov H1 ⟨r1, l1, o1, a, b, c, F1⟩ => ?_)
  refine tG_of (S.mono a) b ((FinS.val (S.mono a) F1).imp fun iv H2 ⟨r2, l2, i1, a2, b2, c2, F2⟩ => ?_)
  unfold setR at F2
  have c := c.mono a2
  have q := (q.mono a).mono a2
  split at F2
  · cases c with
    | loc e1 =>
      cases c2
      split at F2
      · rename_i xs exs
        obtain ⟨us, h0, qs⟩ := b2.get e1 exs
        split at F2
        · rename_i j ej
          refine ⟨_, us, _, j, rfl, rfl, h0, by rw [← qs.length]; exact ej, ?_⟩
          exact F2 r2 _ s (Ext.wr h0) ((S.mono a).mono (a2.trans (Ext.wr h0))) (b2.wr e1 h0 (qs.set j q)) rfl
        · exact F2.elim
      · exact F2.elim
  · exact F2.elim
/-! ### assignments -/
def asS (m : M) (g : TM) : SM := fun e lh => toS e (fun d l => g d e l) (m e lh)
theorem tSt_asg {m : M} {g : TM} {vs : List Nat} {T : Ends} {s : L2.St} {H : Hp} (hg : ∀ d e lh, match g d e lh with | .nx _ _ => True | .er _ _ _ => True | .bad => True | _ => False) (h : tSt X W (asS m g) T s H) : tAsg (tG X W (Rel X.K) m) (tTg X W vs g) T s H := by
  obtain ⟨r, e, lh, S, Hh, F⟩ := h
  refine tG_of S Hh ((FinS.val S F).imp fun v H1 ⟨r1, l1, d, a, b, c, F1⟩ => ?_)
  refine ⟨r1, e, l1, d, S.mono a, b, c, ?_⟩
  have hg := hg d e l1
  cases z : g d e l1 with
  | nx e2 l2 => rw [z] at F1; exact fun r' H' s' a b c _ => F1 r' H' s' a b c
  | er x e2 l2 => rw [z] at F1; exact F1
  | bad => rw [z] at F1; exact F1
  | _ => rw [z] at hg; exact hg.elim
/-- targets go on, raise, or are bad -/
def Gd (g : TM) : Prop := ∀ d e lh, match g d e lh with | .nx _ _ => True | .er _ _ _ => True | .bad => True | _ => False
def Gds (g : TMs) : Prop := ∀ d e lh, match g d e lh with | .nx _ _ => True | .er _ _ _ => True | .bad => True | _ => False
theorem gd_nm {i : Nat} : Gd (nmG i) := fun _ _ _ => trivial
theorem gds_nil : Gds nilG := fun ds e lh => by cases ds <;> trivial
theorem gds_cons {g : TM} {gs : TMs} (h : Gd g) (h2 : Gds gs) : Gds (consG g gs) := fun ds e lh => by
  cases ds with
  | nil => trivial
  | cons d r =>
    have q := h d e lh
    show match (g d e lh).bd (gs r) with | .nx _ _ => True | .er _ _ _ => True | .bad => True | _ => False
    cases z : g d e lh with
    | nx e1 l1 => exact h2 r e1 l1
    | er x e1 l1 => trivial
    | bad => trivial
    | _ => rw [z] at q; exact q.elim
theorem gd_if {n : Nat} {gs : TMs} (h : Gds gs) (ds : List D) (e : LE) (lh : LH) : match (if ds.length = n then gs ds e lh else RS.bad) with | .nx _ _ => True | .er _ _ _ => True | .bad => True | _ => False := by
  by_cases hl : ds.length = n
  · rw [if_pos hl]; exact h ds e lh
  · rw [if_neg hl]; trivial
theorem gd_tup {n : Nat} {gs : TMs} (h : Gds gs) : Gd (tupG n gs) := fun d e lh => by
  unfold tupG
  cases d with
  | tup ds => exact gd_if h ds e lh
  | loc k =>
    dsimp only
    cases sq lh (.loc k) with
    | none => trivial
    | some ds => exact gd_if h ds e lh
  | fl ds => exact gd_if h ds e lh
  | _ => trivial
theorem setR_or (o i d : D) (e : LE) (l : LH) : (∃ e' l', setR o i d e l = .nx e' l') ∨ setR o i d e l = .bad := by
  unfold setR
  split
  · split
    · split
      · exact .inl ⟨_, _, rfl⟩
      · exact .inr rfl
    · exact .inr rfl
  · exact .inr rfl
theorem gd_sub {mo mi : M} : Gd (subG mo mi) := fun d e lh => by
  show match toS e (fun o l1 => toS e (fun i l2 => setR o i d e l2) (mi e l1)) (mo e lh) with | .nx _ _ => True | .er _ _ _ => True | .bad => True | _ => False
  cases mo e lh with
  | ok o l1 =>
    show match toS e (fun i l2 => setR o i d e l2) (mi e l1) with | .nx _ _ => True | .er _ _ _ => True | .bad => True | _ => False
    cases mi e l1 with
    | ok i l2 =>
      show match setR o i d e l2 with | .nx _ _ => True | .er _ _ _ => True | .bad => True | _ => False
      rcases setR_or o i d e l2 with ⟨e', l', q⟩ | q
      · rw [q]; trivial
      · rw [q]; trivial
    | er x l2 => trivial
    | bad => trivial
  | er x l1 => trivial
  | bad => trivial
theorem ds_asg {tg x : Expr} {m : M} {g : TM} {vs : List Nat} {pos : Pos} (hm : DE X W x m) (hg : DG X W tg vs g) (gd : Gd g) (hs : swapsWithSole [tg] x pos.line X.env = pure false := by rfl) (hw : swappedStores [tg] x X.env = pure none := by rfl)
    (h1 : (assignEach [tg] X.env).map (·.2) = [assign tg X.env] := by rfl) : DS X W (.Assign [tg] x pos) (asS m g) :=
  ps_imp (ps_asg hm hg hs hw h1) fun T s H h => tSt_asg gd h
theorem ds_set {i : Nat} {y : Str} {x : Expr} {m : M} {pos pos' : Pos} (hN : X.N.Nodup) (hm : DE X W x m) (hi : X.N[i]? = some y := by rfl) (hx : Loc X.env.scope y := by first | exact Or.inl rfl | exact Or.inr rfl) (hs : swapsWith x (some (.Name y pos')) pos.line X.env = pure false := by rfl)
    (hf : X.fn y = true ∨ X.env.scope.names.lookup y = some .local := by first | exact .inl rfl | exact .inr rfl | assumption) : DS X W (.Assign [.Name y pos'] x pos) (asS m (nmG i)) := by
  refine ps_imp (ps_set hN hi hx hm hs hf) fun T s H ⟨r, e, lh, S, Hh, F⟩ => ?_
  refine tG_of S Hh ((FinS.val S F).imp fun v H1 ⟨r1, l1, d, a, b, c, F1⟩ => ?_)
  exact F1 r1 H1 (s.set i (some v)) Ext.refl ((S.mono a).set i c) b
/-- a, b = x, y (two or three plain local names) -/
def toSA (e : LE) (f : List D → LH → RS) : Re (List D) → RS | .ok d l => f d l | .er x l => .er x e l | .bad => .bad
theorem FinS.valA {r : List Addr} {H : Hp} {T : Ends} {s : L2.St} {e : LE} {f : List D → LH → RS} (S : SimS X.K r H e s) : ∀ {t : Re (List D)}, FinS X W r H T (toSA e f t) →
    FinG X.K X.mg (fun c dd H' => W c dd s H') (RelL X.K) r H (fun v H1 => ∃ r1 l1 d, Ext X.K r H r1 H1 ∧ SimH X.K r1 H1 l1 ∧ RelL X.K r1 H1 d v ∧ FinS X W r1 H1 T (f d l1)) t
  | .ok d l, h => fun r1 H1 v a b c => ⟨r1, l, d, a, b, c, FinS.mono a h⟩
  | .er x l, h => fun r' H' c dd a b q => h r' H' s c dd a (S.mono a) b q
  | .bad, h => h
def parS (i j : Nat) (ma : MA) : SM := fun e lh => toSA e (fun ds l => match ds with | [a, b] => .nx ((e.set i (some a)).set j (some b)) l | _ => .bad) (ma e lh)
theorem ds_par {i j : Nat} {x y : Str} {a b : Expr} {ma : MA} {px py pt pos : Pos} {kt k2 : Nat} {pt2 : Pos} (hc : X.calm = true) (hN : X.N.Nodup) (ha : DA X W [a, b] ma) (hi : X.N[i]? = some x := by rfl) (hj : X.N[j]? = some y := by rfl) (hij : i ≠ j := by decide)
    (hx : X.env.scope.names.lookup x = some .local := by rfl) (hy : X.env.scope.names.lookup y = some .local := by rfl)
    (hw : swappedStores [.Tuple [.Name x px, .Name y py] kt pt] (.Tuple [a, b] k2 pt2) X.env = pure (some [x, y]) := by rfl)
    (hs : swapsWithSole [.Tuple [.Name x px, .Name y py] kt pt] (.Tuple [a, b] k2 pt2) pos.line X.env = pure false := by rfl) :
    DS X W (.Assign [.Tuple [.Name x px, .Name y py] kt pt] (.Tuple [a, b] k2 pt2) pos) (parS i j ma) := by
  refine ps_imp (ps_par hc hN hi hj hij hx hy ha.pa hw hs) fun T s H ⟨r, e, lh, S, Hh, F⟩ => ?_
  refine tG_of S Hh ((FinS.valA S F).imp fun vs H1 ⟨r1, l1, ds, a, b, c, F1⟩ => ?_)
  split at F1
  · cases c with
    | cons p q =>
      cases q with
      | cons p' q =>
        cases q
        exact ⟨_, _, rfl, F1 r1 H1 _ Ext.refl (((S.mono a).set i p).set j p') b⟩
  · exact F1.elim
def parS3 (i j l : Nat) (ma : MA) : SM := fun e lh => toSA e (fun ds h => match ds with | [a, b, c] => .nx (((e.set i (some a)).set j (some b)).set l (some c)) h | _ => .bad) (ma e lh)
theorem ds_par3 {i j l : Nat} {x y z : Str} {a b c : Expr} {ma : MA} {px py pz pt pos : Pos} {kt k2 : Nat} {pt2 : Pos} (hc : X.calm = true) (hN : X.N.Nodup) (ha : DA X W [a, b, c] ma) (hi : X.N[i]? = some x := by rfl) (hj : X.N[j]? = some y := by rfl) (hl : X.N[l]? = some z := by rfl) (hij : i ≠ j := by decide) (hil : i ≠ l := by decide) (hjl : j ≠ l := by decide)
    (hx : X.env.scope.names.lookup x = some .local := by rfl) (hy : X.env.scope.names.lookup y = some .local := by rfl) (hz : X.env.scope.names.lookup z = some .local := by rfl)
    (hw : swappedStores [.Tuple [.Name x px, .Name y py, .Name z pz] kt pt] (.Tuple [a, b, c] k2 pt2) X.env = pure (some [x, y, z]) := by rfl)
    (hs : swapsWithSole [.Tuple [.Name x px, .Name y py, .Name z pz] kt pt] (.Tuple [a, b, c] k2 pt2) pos.line X.env = pure false := by rfl) :
    DS X W (.Assign [.Tuple [.Name x px, .Name y py, .Name z pz] kt pt] (.Tuple [a, b, c] k2 pt2) pos) (parS3 i j l ma) := by
  refine ps_imp (ps_par3 hc hN hi hj hl hij hil hjl hx hy hz ha.pa hw hs) fun T s H ⟨r, e, lh, S, Hh, F⟩ => ?_
  refine tG_of S Hh ((FinS.valA S F).imp fun vs H1 ⟨r1, l1, ds, a, b, c, F1⟩ => ?_)
  split at F1
  · cases c with
    | cons p q =>
      cases q with
      | cons p' q =>
        cases q with
        | cons p2 q =>
          cases q
          exact ⟨_, _, _, rfl, F1 r1 H1 _ Ext.refl ((((S.mono a).set i p).set j p').set l p2) b⟩
  · exact F1.elim
end
end NL
set_option maxRecDepth 100000
set_option maxHeartbeats 1000000
namespace NL
open PySem PySem.Spec L2
/-! ### what is walked -/
structure ItD where
  fuel : Nat
  nx : Nat → LH → Option (Option D)
def IterOk (K : PySem.W.Frag) (r : List Addr) (H : Hp) (it : ItD) (J : It) : Prop := ∀ r' H' lh', Ext K r H r' H' → SimH K r' H' lh' → ∀ i,
  match it.nx i lh' with
  | none => True
  | some none => J.stop i H'
  | some (some d) => J.go i H' ∧ ∀ x H2, J.yld i H' x H2 → Ext K r' H' r' H2 ∧ SimH K r' H2 lh' ∧ Rel K r' H2 d x
abbrev MI := LE → LH → Re ItD
def DI (X : Cx) (W : WX) (tg iter : Expr) (mi : MI) : Prop := PI X tg iter (tG X W (IterOk X.K) mi)
section
variable {X : Cx} {W : WX}
theorem pi_or {tg e : Expr} {t t' : TI} (h : PI X tg e t) (h' : PI X tg e t') : PI X tg e (fun s H R => t s H R ∨ t' s H R) :=
  ⟨fun pins s σ H R I w => w.elim (h.run pins s σ H R I) (h'.run pins s σ H R I)⟩
def itL (n : D) (xs : List D) : ItD := ⟨xs.length + 1, fun i l => (sq l n).map fun ys => ys[i]?⟩
def itT (xs : List D) : ItD := ⟨xs.length + 1, fun i _ => some xs[i]?⟩
def itS (x : Str) : ItD := ⟨x.cps.toList.length + 1, fun i _ => some ((x.cps.toList[i]?).map fun c => .str ⟨#[c]⟩)⟩
def itR (lo : Int) (n : Nat) : ItD := ⟨n + 1, fun i _ => some (if i < n then some (.int (lo + i)) else none)⟩
def pr2 (a b : Option D) : Option D := match a, b with | some x, some y => some (.tup [x, y]) | _, _ => none
def itZ (n m : D) (xs : List D) : ItD := ⟨xs.length + 1, fun i l => match sq l n, sq l m with | some ys, some zs => some (pr2 ys[i]? zs[i]?) | _, _ => none⟩
def itZT (xs ys : List D) : ItD := ⟨xs.length + 1, fun i _ => some (pr2 xs[i]? ys[i]?)⟩
def itE (n : D) (xs : List D) : ItD := ⟨xs.length + 1, fun i l => (sq l n).map fun ys => ys[i]?.map fun y => .tup [.int (i : Nat), y]⟩
section
variable {K : PySem.W.Frag} {r : List Addr} {H : Hp}
theorem ok_itS {x : Str} : IterOk K r H (itS x) (Its x) := fun r' H' lh' y hs i => by
  show match some ((x.cps.toList[i]?).map fun c => D.str ⟨#[c]⟩) with | none => True | some none => _ | some (some d) => _
  cases q : x.cps.toList[i]? with
  | none =>
    have h := List.getElem?_eq_none_iff.mp q
    exact (show x.cps.size ≤ i by rwa [Array.length_toList] at h)
  | some c =>
    have q' : x.cps[i]? = some c := by rw [← Array.getElem?_toList]; exact q
    refine ⟨(Array.getElem?_eq_some_iff.mp q').1, fun v H2 hy => ?_⟩
    obtain ⟨rfl, c2, h2, rfl⟩ := hy
    rw [q'] at h2
    cases h2
    exact ⟨Ext.refl, hs, .str _⟩
theorem ok_itL {n : D} {a : Addr} {xs : List D} (e : Rel K r H n (.ref a)) : IterOk K r H (itL n xs) (Itl K a) := fun r' H' lh' x hs i => by
  show match (sq lh' n).map fun ys => ys[i]? with | none => True | some none => _ | some (some d) => _
  cases q : sq lh' n with
  | none => trivial
  | some ys =>
    obtain ⟨a0, vs, ea, h0, rl⟩ := sq_to hs (e.mono x) q
    cases ea
    show match some ys[i]? with | none => True | some none => _ | some (some d) => _
    cases q2 : ys[i]? with
    | none => exact ⟨vs, h0, by rw [← rl.length]; exact List.getElem?_eq_none_iff.mp q2⟩
    | some d =>
      obtain ⟨v, h1, h2⟩ := rl.get q2
      refine ⟨⟨vs, v, h0, h1⟩, fun y H2 hy => ?_⟩
      obtain ⟨e1, e2⟩ := hy
      subst e1
      have z := e2 vs h0
      rw [h1] at z
      cases z
      exact ⟨Ext.refl, hs, h2⟩
theorem ok_itT {a : Addr} {xs : List D} {vs : List V} (e : SqT K H a vs) (rl : RelL K r H xs vs) : IterOk K r H (itT xs) (Itt K a) := fun r' H' lh' x hs i => by
  have h0 := x.tup _ _ e
  have rl := rl.mono x
  show match some xs[i]? with | none => True | some none => _ | some (some d) => _
  cases q2 : xs[i]? with
  | none => exact ⟨vs, h0, by rw [← rl.length]; exact List.getElem?_eq_none_iff.mp q2⟩
  | some d =>
    obtain ⟨v, h1, h2⟩ := rl.get q2
    refine ⟨⟨vs, v, h0, h1⟩, fun y H2 hy => ?_⟩
    obtain ⟨e1, e2⟩ := hy
    subst e1
    have z := e2 vs h0
    rw [h1] at z
    cases z
    exact ⟨Ext.refl, hs, h2⟩
theorem ok_itR {lo : Int} {n : Nat} : IterOk K r H (itR lo n) (Itr lo n) := fun r' H' lh' x hs i => by
  show match some (if i < n then some (D.int (lo + i)) else none) with | none => True | some none => _ | some (some d) => _
  by_cases h : i < n
  · rw [if_pos h]
    refine ⟨h, fun y H2 hy => ?_⟩
    obtain ⟨e1, e2⟩ := hy
    subst e1 e2
    exact ⟨Ext.refl, hs, .int _⟩
  · rw [if_neg h]
    exact Nat.le_of_not_lt h
theorem ok_itZ {n m : D} {a b : Addr} {xs : List D} (e : Rel K r H n (.ref a)) (e' : Rel K r H m (.ref b)) : IterOk K r H (itZ n m xs) (Itz K a b) := fun r' H' lh' x hs i => by
  show match (match sq lh' n, sq lh' m with | some ys, some zs => some (pr2 ys[i]? zs[i]?) | _, _ => none) with | none => True | some none => _ | some (some d) => _
  cases q : sq lh' n with
  | none => trivial
  | some ys =>
    cases q' : sq lh' m with
    | none => trivial
    | some zs =>
      obtain ⟨a0, vs, ea, h0, rl⟩ := sq_to hs (e.mono x) q
      cases ea
      obtain ⟨b0, us, eb, h0', rl'⟩ := sq_to hs (e'.mono x) q'
      cases eb
      show match some (pr2 ys[i]? zs[i]?) with | none => True | some none => _ | some (some d) => _
      cases q2 : ys[i]? with
      | none => exact ⟨vs, us, h0, h0', .inl (by rw [← rl.length]; exact List.getElem?_eq_none_iff.mp q2)⟩
      | some d =>
        cases q3 : zs[i]? with
        | none => exact ⟨vs, us, h0, h0', .inr (by rw [← rl'.length]; exact List.getElem?_eq_none_iff.mp q3)⟩
        | some d' =>
          obtain ⟨v, h1, h2⟩ := rl.get q2
          obtain ⟨v', h1', h2'⟩ := rl'.get q3
          refine ⟨⟨vs, us, v, v', h0, h0', h1, h1'⟩, fun y H2 hy => ?_⟩
          obtain ⟨T, z, z', e1, e2, e3, e4, e5⟩ := hy
          subst e1 e3
          have f1 := e4 vs h0
          have f2 := e5 us h0'
          rw [h1] at f1
          rw [h1'] at f2
          cases f1
          cases f2
          have xx : Ext K r' H' r' (upd H' T (.tup [v, v'])) := Ext.laid e2
          exact ⟨xx, hs.laidT e2, .tup (.of upd_same) (.cons (h2.mono xx) (.cons (h2'.mono xx) .nil))⟩
theorem ok_itZT {a b : Addr} {xs zs : List D} {vs us : List V} (e : SqT K H a vs) (e' : SqT K H b us) (rl : RelL K r H xs vs) (rl' : RelL K r H zs us) : IterOk K r H (itZT xs zs) (RZ.ItzT K a b) := fun r' H' lh' x hs i => by
  have h0 := x.tup _ _ e
  have h0' := x.tup _ _ e'
  have rl := rl.mono x
  have rl' := rl'.mono x
  show match some (pr2 xs[i]? zs[i]?) with | none => True | some none => _ | some (some d) => _
  cases q2 : xs[i]? with
  | none => exact ⟨vs, us, h0, h0', .inl (by rw [← rl.length]; exact List.getElem?_eq_none_iff.mp q2)⟩
  | some d =>
    cases q3 : zs[i]? with
    | none => exact ⟨vs, us, h0, h0', .inr (by rw [← rl'.length]; exact List.getElem?_eq_none_iff.mp q3)⟩
    | some d' =>
      obtain ⟨v, h1, h2⟩ := rl.get q2
      obtain ⟨v', h1', h2'⟩ := rl'.get q3
      refine ⟨⟨vs, us, v, v', h0, h0', h1, h1'⟩, fun y H2 hy => ?_⟩
      obtain ⟨T, z, z', e1, e2, e3, e4, e5⟩ := hy
      subst e1 e3
      have f1 := e4 vs h0
      have f2 := e5 us h0'
      rw [h1] at f1
      rw [h1'] at f2
      cases f1
      cases f2
      have xx : Ext K r' H' r' (upd H' T (.tup [v, v'])) := Ext.laid e2
      exact ⟨xx, hs.laidT e2, .tup (.of upd_same) (.cons (h2.mono xx) (.cons (h2'.mono xx) .nil))⟩
theorem ok_itE {n : D} {a : Addr} {xs : List D} (e : Rel K r H n (.ref a)) : IterOk K r H (itE n xs) (Ite K a) := fun r' H' lh' x hs i => by
  show match (sq lh' n).map (fun ys => ys[i]?.map fun y => D.tup [.int (i : Nat), y]) with | none => True | some none => _ | some (some d) => _
  cases q : sq lh' n with
  | none => trivial
  | some ys =>
    obtain ⟨a0, vs, ea, h0, rl⟩ := sq_to hs (e.mono x) q
    cases ea
    show match some (ys[i]?.map fun y => D.tup [.int (i : Nat), y]) with | none => True | some none => _ | some (some d) => _
    cases q2 : ys[i]? with
    | none => exact ⟨vs, h0, by rw [← rl.length]; exact List.getElem?_eq_none_iff.mp q2⟩
    | some d =>
      obtain ⟨v, h1, h2⟩ := rl.get q2
      refine ⟨⟨vs, v, h0, h1⟩, fun y H2 hy => ?_⟩
      obtain ⟨T, z, e1, e2, e3, e4⟩ := hy
      subst e1 e3
      have f1 := e4 vs h0
      rw [h1] at f1
      cases f1
      have xx : Ext K r' H' r' (upd H' T (.tup [.int (i : Nat), v])) := Ext.laid e2
      exact ⟨xx, hs.laidT e2, .tup (.of upd_same) (.cons (.int _) (.cons (h2.mono xx) .nil))⟩
end
/-- a list or a tuple is walked -/
def seqI (m : M) : MI := fun e lh => (m e lh).bind fun d l => match d with
  | .tup xs => .ok (itT xs) l
  | .str z => .ok (itS z) l
  | d => match sq l d with | some xs => .ok (itL d xs) l | none => .bad
theorem di_seq {tg x : Expr} {m : M} (h : DE X W x m) : DI X W tg x (seqI m) := by
  have h1 : PI X tg x (iList X.K (tG X W (Rel X.K) m)) := pi_list h
  have h2 : PI X tg x (iTup X.K (tG X W (Rel X.K) m)) := pi_tup h
  -- one reading for both
  refine ⟨fun pins s σ H R I w => ?_⟩
  obtain ⟨r, e, lh, S, Hh, F⟩ := w
  have F := FinG.bind (R := Rel X.K) F
  have hE : wpAny (model X.prog X.w) X.A (eval x X.env) (EP X pins σ (fun v H1 => (∃ a, v = .ref a ∧ (∃ xs, SqL X.K H1 a xs) ∧ R (Itl X.K a) H1) ∨ (∃ a, v = .ref a ∧ (∃ xs, SqT X.K H1 a xs) ∧ R (Itt X.K a) H1) ∨ ∃ z, v = .str z ∧ R (Its z) H1)) X.xe s := by
    refine PE.run h pins s σ H _ I (tG_of S Hh (F.imp fun v H1 ⟨r1, l1, x, y1, z1, w1, F1⟩ => ?_))
    split at F1
    · cases w1 with
      | tup e1 q => exact .inr (.inl ⟨_, rfl, ⟨_, e1⟩, F1.ok z1 (ok_itT e1 q)⟩)
    · cases w1 with
      | str => exact .inr (.inr ⟨_, rfl, F1.ok z1 ok_itS⟩)
    · split at F1
      · rename_i xs exs
        obtain ⟨a, vs, rfl, h0, q⟩ := sq_to z1 w1 exs
        exact .inl ⟨a, rfl, ⟨vs, h0⟩, F1.ok z1 (ok_itL w1)⟩
      · exact F1.elim
  refine thn hE fun v s1 ⟨x, H1, I1, r1, q1⟩ => ?_
  rcases q1 with ⟨a, rfl, ⟨xs, hq⟩, q⟩ | ⟨a, rfl, ⟨xs, hq⟩, q⟩ | ⟨z, rfl, q⟩
  · cases r1
    obtain ⟨its, rv, p, hz⟩ := I1.list hq
    refine wpAny_pyIter_list p.isList ?_
    refine ⟨s1.heap.objs.size, [s1.heap.objs.size], _, _, H1, rfl, I1.kept (t' := s1.toks) fun b o e => Heap.get?_push_of_some _ e, turn_list a _, ⟨_, Heap.get?_push_size _ rfl, rfl, rfl⟩, fun b hb => ?_, q⟩
    have e : b = s1.heap.objs.size := by simpa using hb
    subst e
    exact I1.fpOk (Nat.le_refl _) (I1.hok.fresh (Nat.le_refl _))
  · cases r1
    obtain ⟨its, rv, p, hz⟩ := I1.tuple hq
    refine wpAny_pyIter_tuple (show s1.heap.IsTuple a its.toArray from p) ?_
    refine ⟨s1.heap.objs.size, [s1.heap.objs.size], _, _, H1, rfl, I1.kept (t' := s1.toks) fun b o e => Heap.get?_push_of_some _ e, turn_tuple a _, ⟨_, Heap.get?_push_size _ rfl, rfl, rfl⟩, fun b hb => ?_, q⟩
    have e : b = s1.heap.objs.size := by simpa using hb
    subst e
    exact I1.fpOk (Nat.le_refl _) (I1.hok.fresh (Nat.le_refl _))
  · obtain ⟨t, rfl⟩ := r1
    cases ha : z.cps.all (· < 128)
    · exact wpAny_pyIter_wide ha (pi_one (tk := s1.toks) I1 _ (turn_str _ z t "str_iterator" (.inr rfl)) ⟨_, Heap.get?_push_size _ rfl, rfl, rfl⟩ q)
    · exact wpAny_pyIter_ascii ha (pi_one (tk := s1.toks) I1 _ (turn_str _ z t "str_ascii_iterator" (.inl rfl)) ⟨_, Heap.get?_push_size _ rfl, rfl, rfl⟩ q)
/-- range(j), range(i, j) -/
def rngI (ma : MA) : MI := fun e lh => (ma e lh).bind fun ds l => match ds with
  | [.int j] => if -(2 ^ 62) ≤ j ∧ j < 2 ^ 62 then .ok (itR 0 j.toNat) l else .bad
  | [.int i, .int j] => if -(2 ^ 62) ≤ i ∧ i < 2 ^ 62 ∧ -(2 ^ 62) ≤ j ∧ j < 2 ^ 62 then .ok (itR i (j - i).toNat) l else .bad
  | _ => .bad
theorem di_range1 {tg a : Expr} {ma : MA} {p pos : Pos} (ha : DA X W [a] ma) (hm : X.mg "range" = none) (hg : Gl X "range" := by rfl) (hs : starEach [a] X.env = [(false, eval a X.env)] := by rfl) : DI X W tg (.Call (.Name "range" p) [a] [] pos) (rngI ma) := by
  refine pi_imp (pi_range1 hg hm ha.pa hs) fun s H R ⟨r, e, lh, S, Hh, F⟩ => ?_
  refine tG_of S Hh (FinG.len ha ((FinG.bind (R := RelL X.K) F).imp fun vs H1 ⟨r1, l1, x, y1, z1, w1, F1⟩ hl => ?_))
  split at F1
  · cases w1 with
    | cons p q =>
      cases q
      cases p
      split at F1
      · rename_i hb
        exact ⟨_, rfl, hb.1, hb.2, F1.ok z1 ok_itR⟩
      · exact F1.elim
  · have := w1.length
    rw [hl] at this
    simp at this
  · exact F1.elim
theorem di_range2 {tg a b : Expr} {ma : MA} {p pos : Pos} (ha : DA X W [a, b] ma) (hm : X.mg "range" = none) (hg : Gl X "range" := by rfl) (hs : starEach [a, b] X.env = [(false, eval a X.env), (false, eval b X.env)] := by rfl) (hs2 : starEach [b] X.env = [(false, eval b X.env)] := by rfl) :
    DI X W tg (.Call (.Name "range" p) [a, b] [] pos) (rngI ma) := by
  refine pi_imp (pi_range2 hg hm ha.pa hs hs2) fun s H R ⟨r, e, lh, S, Hh, F⟩ => ?_
  refine tG_of S Hh (FinG.len ha ((FinG.bind (R := RelL X.K) F).imp fun vs H1 ⟨r1, l1, x, y1, z1, w1, F1⟩ hl => ?_))
  split at F1
  · have := w1.length
    rw [hl] at this
    simp at this
  · cases w1 with
    | cons p q =>
      cases q with
      | cons p' q =>
        cases q
        cases p
        cases p'
        split at F1
        · rename_i hb
          exact ⟨_, _, rfl, hb, F1.ok z1 ok_itR⟩
        · exact F1.elim
  · exact F1.elim
/-- zip of two lists or two tuples -/
def zipI (ma : MA) : MI := fun e lh => (ma e lh).bind fun ds l => match ds with
  | [.tup xs, .tup ys] => .ok (itZT xs ys) l
  | [d, d'] => match sq l d, sq l d' with | some xs, some _ => .ok (itZ d d' xs) l | _, _ => .bad
  | _ => .bad
theorem di_zip {a b : Expr} {elts : List Expr} {kk : Nat} {ma : MA} {p pos tpos : Pos} (ha : DA X W [a, b] ma) (hm : X.mg "zip" = none) (hg : Gl X "zip" := by rfl) (hs : starEach [a, b] X.env = (false, eval a X.env) :: starEach [b] X.env := by rfl) (hpl : (backTo pos (starEach [b] X.env)).any (·.1) = false := by rfl) :
    DI X W (.Tuple elts kk tpos) (.Call (.Name "zip" p) [a, b] [] pos) (zipI ma) := by
  refine pi_imp (RZ.pi_zipA hg hm ha.pa hs hpl) fun s H R ⟨r, e, lh, S, Hh, F⟩ => ?_
  refine tG_of S Hh ((FinG.bind (R := RelL X.K) F).imp fun vs H1 ⟨r1, l1, x, y1, z1, w1, F1⟩ => ?_)
  split at F1
  · cases w1 with
    | cons p q =>
      cases q with
      | cons p' q =>
        cases q
        cases p with
        | tup e1 q1 =>
          cases p' with
          | tup e2 q2 => exact ⟨_, _, _, _, rfl, .inr ⟨e1, e2, F1.ok z1 (ok_itZT e1 e2 q1 q2)⟩⟩
  · cases w1 with
    | cons p q =>
      cases q with
      | cons p' q =>
        cases q
        split at F1
        · rename_i xs ys exs eys
          obtain ⟨a0, vs, rfl, h0, _⟩ := sq_to z1 p exs
          obtain ⟨b0, us, rfl, h1, _⟩ := sq_to z1 p' eys
          exact ⟨_, _, vs, us, rfl, .inl ⟨h0, h1, F1.ok z1 (ok_itZ p p')⟩⟩
        · exact F1.elim
  · exact F1.elim
/-- enumerate of a list -/
def enI (ma : MA) : MI := fun e lh => (ma e lh).bind fun ds l => match ds with
  | [d] => match sq l d with | some xs => .ok (itE d xs) l | _ => .bad
  | _ => .bad
theorem di_enum {a : Expr} {elts : List Expr} {kk : Nat} {ma : MA} {p pos tpos : Pos} (ha : DA X W [a] ma) (hm : X.mg "enumerate" = none) (hg : Gl X "enumerate" := by rfl) (hs : starEach [a] X.env = [(false, eval a X.env)] := by rfl) :
    DI X W (.Tuple elts kk tpos) (.Call (.Name "enumerate" p) [a] [] pos) (enI ma) := by
  refine pi_imp (pi_enum hg hm ha.pa hs) fun s H R ⟨r, e, lh, S, Hh, F⟩ => ?_
  refine tG_of S Hh ((FinG.bind (R := RelL X.K) F).imp fun vs H1 ⟨r1, l1, x, y1, z1, w1, F1⟩ => ?_)
  split at F1
  · cases w1 with
    | cons p q =>
      cases q
      split at F1
      · rename_i xs exs
        obtain ⟨a0, vs, rfl, h0, _⟩ := sq_to z1 p exs
        exact ⟨_, vs, rfl, h0, F1.ok z1 (ok_itE p)⟩
      · exact F1.elim
  · exact F1.elim
/-! ### for, while -/
/-- a turn's end -/
def RS.lp : RS → SM → RS
  | .nx e l, f => f e l | .ct e l, f => f e l | .rt d l, _ => .rt d l | .bk e l, _ => .nx e l | .er x e l, _ => .er x e l | .bad, _ => .bad
@[simp] theorem lp_nx (e : LE) (l : LH) (f : SM) : (RS.nx e l).lp f = f e l := rfl
@[simp] theorem lp_rt (d : D) (l : LH) (f : SM) : (RS.rt d l).lp f = .rt d l := rfl
@[simp] theorem lp_bk (e : LE) (l : LH) (f : SM) : (RS.bk e l).lp f = .nx e l := rfl
@[simp] theorem lp_ct (e : LE) (l : LH) (f : SM) : (RS.ct e l).lp f = f e l := rfl
@[simp] theorem lp_er (x : Ex) (e : LE) (l : LH) (f : SM) : (RS.er x e l).lp f = .er x e l := rfl
@[simp] theorem lp_bad (f : SM) : (RS.bad).lp f = .bad := rfl
theorem FinS.lp {r : List Addr} {H : Hp} {T : Ends} {f : SM} : ∀ {t : RS}, FinS X W r H T (t.lp f) →
    FinS X W r H { nx := fun s' H' => ∃ r' e' l', Ext X.K r H r' H' ∧ SimS X.K r' H' e' s' ∧ SimH X.K r' H' l' ∧ FinS X W r' H' T (f e' l'), ct := fun s' H' => ∃ r' e' l', Ext X.K r H r' H' ∧ SimS X.K r' H' e' s' ∧ SimH X.K r' H' l' ∧ FinS X W r' H' T (f e' l'), bk := T.nx, rt := T.rt } t
  | .nx e l, h => fun r' H' s' a b c => ⟨r', e, l, a, b, c, FinS.mono a h⟩
  | .ct e l, h => fun r' H' s' a b c => ⟨r', e, l, a, b, c, FinS.mono a h⟩
  | .bk e l, h => h
  | .rt d l, h => h
  | .er q e l, h => h
  | .bad, h => h
def forN (nx : Nat → LH → Option (Option D)) (g : TM) (body : SM) : Nat → Nat → SM
  | 0, _ => fun _ _ => .bad
  | f + 1, i => fun e lh => match nx i lh with
    | none => .bad
    | some none => .nx e lh
    | some (some d) => ((g d e lh).bd body).lp (forN nx g body f (i + 1))
def toSI (e : LE) (f : ItD → LH → RS) : Re ItD → RS | .ok d l => f d l | .er x l => .er x e l | .bad => .bad
@[simp] theorem toSI_ok (e : LE) (f : ItD → LH → RS) (d : ItD) (l : LH) : toSI e f (.ok d l) = f d l := rfl
def forS (mi : MI) (g : TM) (body : SM) : SM := fun e lh => toSI e (fun it l => forN it.nx g body it.fuel 0 e l) (mi e lh)
theorem FinS.valI {r : List Addr} {H : Hp} {T : Ends} {s : L2.St} {e : LE} {f : ItD → LH → RS} (S : SimS X.K r H e s) : ∀ {t : Re ItD}, FinS X W r H T (toSI e f t) →
    FinG X.K X.mg (fun c dd H' => W c dd s H') (IterOk X.K) r H (fun v H1 => ∃ r1 l1 d, Ext X.K r H r1 H1 ∧ SimH X.K r1 H1 l1 ∧ IterOk X.K r1 H1 d v ∧ FinS X W r1 H1 T (f d l1)) t
  | .ok d l, h => fun r1 H1 v a b c => ⟨r1, l, d, a, b, c, FinS.mono a h⟩
  | .er x l, h => fun r' H' c dd a b q => h r' H' s c dd a (S.mono a) b q
  | .bad, h => h
theorem IterOk.mono {K : PySem.W.Frag} {r r' : List Addr} {H H' : Hp} {it : ItD} {J : It} (x : Ext K r H r' H') (h : IterOk K r H it J) : IterOk K r' H' it J := fun r2 H2 l2 y => h r2 H2 l2 (x.trans y)
theorem ds_for {k : Nat} {tg iter : Expr} {body : List Stmt} {mi : MI} {vs : List Nat} {g : TM} {m : SM} {pos : Pos} (o : Bk k X W) (hi : DI X W tg iter mi) (hg : DG X W tg vs g) (gd : Gd g) (hb : DSs X W body m)
    (hs : ∀ x, foldedSetIterable iter X.env x = pure x := by intro _; rfl) : DS X W (.For tg iter body [] pos) (forS mi g m) := by
  refine ps_imp (ps_for o.pass o.calm hi hg hb hs) fun T s H ⟨r, e, lh, S, Hh, F⟩ => ?_
  refine tG_of S Hh ((FinS.valI S F).imp fun J H1 ⟨r1, l1, it, a, b, c, F1⟩ => ?_)
  refine ⟨fun i m σ H => ∃ r e lh, Ext X.K r1 H1 r H ∧ SimS X.K r H e σ ∧ SimH X.K r H lh ∧ FinS X W r H T (forN it.nx g ‹SM› m i e lh), ⟨it.fuel, r1, e, l1, Ext.refl, S.mono a, b, F1⟩, ?_⟩
  rintro i n σ2 H2 ⟨r2, e2, l2, x2, S2, Hh2, F2⟩
  cases n with
  | zero => exact F2.elim
  | succ f =>
    have F2 : FinS X W r2 H2 T (match it.nx i l2 with
      | none => .bad
      | some none => .nx e2 l2
      | some (some d) => ((g d e2 l2).bd m).lp (forN it.nx g m f (i + 1))) := F2
    have ok := c r2 H2 l2 x2 Hh2 i
    cases q : it.nx i l2 with
    | none => rw [q] at F2; exact F2.elim
    | some od =>
      cases od with
      | none =>
        rw [q] at F2 ok
        exact .inl ⟨ok, F2 r2 H2 σ2 Ext.refl S2 Hh2⟩
      | some d =>
        rw [q] at F2 ok
        refine .inr ⟨ok.1, fun σ H => ∃ r e lh, Ext X.K r1 H1 r H ∧ SimS X.K r H e σ ∧ SimH X.K r H lh ∧ FinS X W r H T (forN it.nx g m f (i + 1) e lh), fun σ' H' h => ⟨f, Nat.lt_succ_self f, h⟩, fun x H3 hy => ?_⟩
        obtain ⟨y1, y2, y3⟩ := ok.2 x H3 hy
        refine ⟨r2, e2, l2, d, S2.mono y1, y2, y3, ?_⟩
        have F3 := FinS.bd (FinS.lp (FinS.mono y1 F2))
        have gd := gd d e2 l2
        cases z : g d e2 l2 with
        | nx e3 l3 =>
          rw [z] at F3
          intro r4 H4 s4 a4 b4 c4 hw
          obtain ⟨r5, e5, l5, a5, b5, c5, F5⟩ := F3 r4 H4 s4 a4 b4 c4
          refine ⟨r5, e5, l5, b5, c5, ?_⟩
          refine FinS.imp ?_ ?_ ?_ ?_ F5
          case refine_2 => exact fun _ _ z => z
          case refine_3 => exact fun _ _ z => z
          · rintro s6 H6 ⟨r6, e6, l6, a6, b6, c6, F6⟩
            exact ⟨r6, e6, l6, (x2.trans y1).trans a6, b6, c6, F6⟩
          · rintro s6 H6 ⟨r6, e6, l6, a6, b6, c6, F6⟩
            exact ⟨r6, e6, l6, (x2.trans y1).trans a6, b6, c6, F6⟩
        | er x e2 l2 => rw [z] at F3; exact F3
        | bad => rw [z] at F3; exact F3
        | _ => rw [z] at gd; exact gd.elim
def whN (t : MT) (body : SM) : Nat → SM
  | 0 => fun _ _ => .bad
  | f + 1 => fun e lh => toSB e (fun k l => if k = true then (body e l).lp (whN t body f) else .nx e l) (t e lh)
def fuel0 : Nat := 100000000
def whS (fuel : Nat) (t : MT) (body : SM) : SM := whN t body fuel
theorem ds_while {k : Nat} {c : Expr} {body : List Stmt} {t : MT} {m : SM} {pos : Pos} (fuel : Nat) (o : Bk k X W) (hc : DT X W c t) (hb : DSs X W body m) : DS X W (.While c body [] pos) (whS fuel t m) := by
  refine ps_imp (ps_while o.pass hc hb) fun T s H ⟨r, e, lh, S, Hh, F⟩ => ?_
  refine ⟨fun n σ H => ∃ r e lh, SimS X.K r H e σ ∧ SimH X.K r H lh ∧ FinS X W r H T (whN t m n e lh), ⟨fuel, r, e, lh, S, Hh, F⟩, ?_⟩
  rintro n σ2 H2 ⟨r2, e2, l2, S2, Hh2, F2⟩
  cases n with
  | zero => exact F2.elim
  | succ f =>
    have F2 : FinS X W r2 H2 T (toSB e2 (fun k l => if k = true then (m e2 l).lp (whN t m f) else .nx e2 l) (t e2 l2)) := F2
    refine tG_of S2 Hh2 ((FinS.valB S2 F2).imp fun k H1 ⟨r1, l1, d, a, b, c, F3⟩ => ?_)
    have c : d = k := c
    subst c
    cases d with
    | false => exact iteF (F3 r1 H1 σ2 Ext.refl (S2.mono a) b)
    | true =>
      refine iteT ⟨fun σ H => ∃ r e lh, SimS X.K r H e σ ∧ SimH X.K r H lh ∧ FinS X W r H T (whN t m f e lh), fun σ' H' h => ⟨f, Nat.lt_succ_self f, h⟩, ?_⟩
      have F3 : FinS X W r1 H1 T ((m e2 l1).lp (whN t m f)) := F3
      refine ⟨r1, e2, l1, S2.mono a, b, ?_⟩
      refine FinS.imp ?_ ?_ ?_ ?_ (FinS.lp F3)
      case refine_2 => exact fun _ _ z => z
      case refine_3 => exact fun _ _ z => z
      · rintro s6 H6 ⟨r6, e6, l6, a6, b6, c6, F6⟩
        exact ⟨r6, e6, l6, b6, c6, F6⟩
      · rintro s6 H6 ⟨r6, e6, l6, a6, b6, c6, F6⟩
        exact ⟨r6, e6, l6, b6, c6, F6⟩
end
end NL
set_option maxRecDepth 100000
set_option maxHeartbeats 1000000
namespace NL
open PySem PySem.Spec L2
/-! ### list comprehensions of one clause -/
def Wf : WX := fun _ _ _ _ => False
theorem Bk.blk {k : Nat} {X : Cx} {W : WX} (o : Bk k X W) (s : Shared) (H : Hp) (scope : Scope) (C : Env) (fp : List Addr) : Bk k (Cx.blk X s H scope C fp) Wf :=
  ⟨o.calm, takes0, o.nd, PassesOwn.never, o.hr⟩
def wipeD (e : LE) : List Nat → LE
  | [] => e
  | v :: vs => (wipeD e vs).set v none
theorem wipeD_length (e : LE) : ∀ vs : List Nat, (wipeD e vs).length = e.length
  | [] => rfl
  | v :: vs => by unfold wipeD; rw [List.length_set, wipeD_length e vs]
theorem SimS.wipe {K r H} {e : LE} {s : L2.St} (h : SimS K r H e s) : ∀ vs : List Nat, SimS K r H (wipeD e vs) (L2.wipe s vs)
  | [] => h
  | v :: vs => by
    have ih := h.wipe vs
    refine ⟨by rw [wipeD_length, wipe_length, h.len], fun i d hi => ?_⟩
    have hi : ((wipeD e vs).set v none)[i]? = some (some d) := hi
    by_cases e1 : v = i
    · subst e1
      by_cases hl : v < (wipeD e vs).length
      · rw [List.getElem?_set_self hl] at hi; cases hi
      · rw [List.getElem?_eq_none (by rw [List.length_set]; omega)] at hi; cases hi
    · rw [List.getElem?_set_ne e1] at hi
      obtain ⟨u, a, b⟩ := ih.sl i d hi
      exact ⟨u, by show ((L2.wipe s vs).set v none)[i]? = _; rw [List.getElem?_set_ne e1]; exact a, b⟩
def lcN (nx : Nat → LH → Option (Option D)) (g : TM) (t : MT) (m : M) (n0 : Nat) (e : LE) : Nat → Nat → LH → Re D
  | 0, _ => fun _ => .bad
  | f + 1, i => fun lh => match nx i lh with
    | none => .bad
    | some none => .ok (.loc n0) lh
    | some (some d) => match g d e lh with
      | .nx e1 l1 => match t e1 l1 with
        | .ok false l2 => lcN nx g t m n0 e f (i + 1) l2
        | .ok true l2 => match m e1 l2 with
          | .ok y l3 => match l3[n0]? with
            | some (.lst acc) => if acc.length < sizeLine then lcN nx g t m n0 e f (i + 1) (l3.set n0 (.lst (acc ++ [y]))) else .bad
            | _ => .bad
          | _ => .bad
        | _ => .bad
      | _ => .bad
def lcM (mi : MI) (g : TM) (t : MT) (m : M) (own : List Nat) : M := fun e lh => (mi e lh).bind fun it l => lcN it.nx g t m l.length (wipeD e own) it.fuel 0 (l ++ [.lst []])
def DTs (X : Cx) (W : WX) (ifs : List Expr) (t : MT) : Prop := PTs X ifs (tG X W RB t)
def yesT : MT := fun _ lh => .ok true lh
section
variable {X : Cx} {W : WX}
theorem dts_nil : DTs X W [] yesT := ⟨fun pins s σ H Q I ⟨r, e, lh, S, Hh, F⟩ => pts_nil.run pins s σ H Q I (F.ok Hh rfl)⟩
theorem dts_one {c : Expr} {t : MT} (h : DT X W c t) : DTs X W [c] t := pts_one h
theorem lcM_to {mi : MI} {g : TM} {t : MT} {m : M} {own gv : List Nat} (hgv : ∀ i ∈ gv, i ∈ own) (gd : Gd g) {s : L2.St} {H : Hp} {Q : VK} {X' : Cx} (hK : X'.K = X.K) (hmg : X'.mg = X.mg)
    (h : tG X W (Rel X.K) (lcM mi g t m own) s H Q) : tLc (tG X W (IterOk X.K) mi) (tTg X' Wf gv g) (tG X' Wf RB t) (tG X' Wf (Rel X'.K) m) own s H Q := by
  obtain ⟨r, e, lh, S, Hh, F⟩ := h
  refine tG_of S Hh ((FinG.bind (R := IterOk X.K) F).imp fun J H1 ⟨r1, l1, it, y1, z1, w1, F1⟩ => ?_)
  intro p hp
  have x0 : Ext X.K r1 H1 (r1 ++ [p]) (upd H1 p (.lst [])) := Ext.more hp
  refine ⟨fun i n H => ∃ r2 l2, Ext X.K (r1 ++ [p]) (upd H1 p (.lst [])) r2 H ∧ SimH X.K r2 H l2 ∧ FinG X.K X.mg (fun c dd H' => W c dd s H') (Rel X.K) r2 H Q (lcN it.nx g t m l1.length (wipeD e own) n i l2),
    ⟨it.fuel, r1 ++ [p], l1 ++ [.lst []], Ext.refl, z1.laid hp .nil, F1.mono x0⟩, ?_⟩
  rintro i n H2 ⟨r2, l2, x2, h2, F2⟩
  have hloc : r2[l1.length]? = some p := x2.pre _ _ (laid_new z1)
  cases n with
  | zero => exact F2.elim
  | succ f =>
    have F2 : FinG X.K X.mg (fun c dd H' => W c dd s H') (Rel X.K) r2 H2 Q (match it.nx i l2 with
      | none => .bad
      | some none => .ok (.loc l1.length) l2
      | some (some d) => match g d (wipeD e own) l2 with
        | .nx e1 l1' => match t e1 l1' with
          | .ok false l2 => lcN it.nx g t m l1.length (wipeD e own) f (i + 1) l2
          | .ok true l2 => match m e1 l2 with
            | .ok y l3 => match l3[l1.length]? with
              | some (.lst acc) => if acc.length < sizeLine then lcN it.nx g t m l1.length (wipeD e own) f (i + 1) (l3.set l1.length (.lst (acc ++ [y]))) else .bad
              | _ => .bad
            | _ => .bad
          | _ => .bad
        | _ => .bad) := F2
    have ok := w1 r2 H2 l2 (x0.trans x2) h2 i
    cases q : it.nx i l2 with
    | none => rw [q] at F2; exact F2.elim
    | some od =>
      cases od with
      | none =>
        rw [q] at F2 ok
        exact .inl ⟨ok, F2.ok h2 (.loc hloc)⟩
      | some d =>
        rw [q] at F2 ok
        refine .inr ⟨ok.1, fun H => ∃ r3 l3, Ext X.K (r1 ++ [p]) (upd H1 p (.lst [])) r3 H ∧ SimH X.K r3 H l3 ∧ FinG X.K X.mg (fun c dd H' => W c dd s H') (Rel X.K) r3 H Q (lcN it.nx g t m l1.length (wipeD e own) f (i + 1) l3), fun H' h => ⟨f, Nat.lt_succ_self f, h⟩, fun x H3 hy => ?_⟩
        obtain ⟨a1, a2, a3⟩ := ok.2 x H3 hy
        have S3 : SimS X.K r2 H3 (wipeD e own) (L2.wipe s own) := (((S.wipe own).mono y1).mono x0).mono (x2.trans a1)
        refine ⟨r2, wipeD e own, l2, d, by rw [hK]; exact S3, by rw [hK]; exact a2, by rw [hK]; exact a3, ?_⟩
        have F3 := F2.mono a1
        dsimp only at F3
        have gd := gd d (wipeD e own) l2
        cases z : g d (wipeD e own) l2 with
        | nx e1 l3 =>
          rw [z] at F3
          intro r4 H4 s4 a4 b4 c4 hw
          rw [hK] at a4 b4 c4
          refine ⟨wipe_sub hw hgv |>.trans ?_, r4, e1, l3, by rw [hK]; exact b4, by rw [hK]; exact c4, ?_⟩
          · refine List.ext_getElem? fun j => ?_
            rw [wipe_at, wipe_length, wipe_at]
            by_cases hj : j ∈ own ∧ j < s.length
            · rw [if_pos hj, if_pos hj]
            · rw [if_neg hj, if_neg hj]
          have F4 := F3.mono a4
          cases z2 : t e1 l3 with
          | ok k l4 =>
            dsimp only at F4
            rw [z2] at F4
            intro r5 H5 k' a5 c5 e5
            rw [hK] at a5 c5
            have e5 : k = k' := e5
            subst e5
            have F5 := F4.mono a5
            cases k with
            | false => exact iteF ⟨r5, l4, x2.trans (a1.trans (a4.trans a5)), c5, F5⟩
            | true =>
              refine iteT ⟨r5, e1, l4, by rw [hK]; exact b4.mono a5, by rw [hK]; exact c5, ?_⟩
              cases z3 : m e1 l4 with
              | ok y l5 =>
                dsimp only at F5
                rw [z3] at F5
                intro r6 H6 v a6 c6 e6
                rw [hK] at a6 c6 e6
                have F6 := F5.mono a6
                dsimp only at F6
                have hl6 : r6[l1.length]? = some p := a6.pre _ _ (a5.pre _ _ (a4.pre _ _ hloc))
                split at F6
                · rename_i acc eacc
                  obtain ⟨us, hu, qs⟩ := c6.get hl6 eacc
                  split at F6
                  · rename_i hlt
                    refine ⟨us, hu, by rw [← qs.length]; exact hlt, r6, _, x2.trans (a1.trans (a4.trans (a5.trans (a6.trans (Ext.wr hu))))), c6.wr hl6 hu (qs.snoc e6), F6.mono (Ext.wr hu)⟩
                  · exact F6.elim
                · exact F6.elim
              | er x l5 => dsimp only at F5; rw [z3] at F5; exact F5.elim
              | bad => dsimp only at F5; rw [z3] at F5; exact F5.elim
          | er x l4 => dsimp only at F4; rw [z2] at F4; exact F4.elim
          | bad => dsimp only at F4; rw [z2] at F4; exact F4.elim
        | er x e1 l3 => rw [z] at F3; exact F3.elim
        | bad => rw [z] at F3; exact F3.elim
        | _ => rw [z] at gd; exact gd.elim
theorem de_lc {k : Nat} {elt tg iter : Expr} {ifs : List Expr} {scope : Scope} (own : List (Str × Nat)) {pos : Pos} {mi : MI} {g : TM} {gv : List Nat} {t : MT} {m : M} (o : Bk k X W) (hi : DI X W tg iter mi)
    (hg : ∀ (s : Shared) (H : Hp) (C : Addr) (cl : List (Str × Addr)) (fp : List Addr), Bk k (Cx.blk X s H scope (compEnvC scope cl C X.env) fp) Wf → DG (Cx.blk X s H scope (compEnvC scope cl C X.env) fp) Wf tg gv g) (gd : Gd g)
    (ht : ∀ (s : Shared) (H : Hp) (C : Addr) (cl : List (Str × Addr)) (fp : List Addr), Bk k (Cx.blk X s H scope (compEnvC scope cl C X.env) fp) Wf → DTs (Cx.blk X s H scope (compEnvC scope cl C X.env) fp) Wf ifs t)
    (he : ∀ (s : Shared) (H : Hp) (C : Addr) (cl : List (Str × Addr)) (fp : List Addr), Bk k (Cx.blk X s H scope (compEnvC scope cl C X.env) fp) Wf → DE (Cx.blk X s H scope (compEnvC scope cl C X.env) fp) Wf elt m)
    (ok : BlkOk X.N X.env.scope scope own := by exact blkOk_by rfl) (hgv : ∀ i ∈ gv, i ∈ own.map (·.2) := by decide) (hs : ∀ x, foldedSetIterable iter X.env x = pure x := by intro _; rfl) :
    DE X W (.ListComp elt [⟨tg, iter, ifs, 0⟩] scope pos) (lcM mi g t m (own.map (·.2))) :=
  pe_imp (pe_lc (g := tTg X Wf gv g) (tt := tG X Wf RB t) (te := tG X Wf (Rel X.K) m) o.calm o.nd hi ok (fun s H C cl fp => hg s H C cl fp (o.blk s H scope _ fp)) (fun s H C cl fp => ht s H C cl fp (o.blk s H scope _ fp)) (fun s H C cl fp => he s H C cl fp (o.blk s H scope _ fp)) hs)
    fun s H Q h => lcM_to (X' := X) hgv gd rfl rfl h
theorem ds_setLc {k i : Nat} {y : Str} {py : Pos} {elt tg iter : Expr} {ifs : List Expr} {scope : Scope} (own : List (Str × Nat)) {pos spos : Pos} {mi : MI} {g : TM} {gv : List Nat} {t : MT} {m : M} (o : Bk k X W) (hi : DI X W tg iter mi)
    (hg : ∀ (s : Shared) (H : Hp) (C : Addr) (cl : List (Str × Addr)) (fp : List Addr), Bk k (Cx.blk X s H scope (compEnvC scope cl C X.env) fp) Wf → DG (Cx.blk X s H scope (compEnvC scope cl C X.env) fp) Wf tg gv g) (gd : Gd g)
    (ht : ∀ (s : Shared) (H : Hp) (C : Addr) (cl : List (Str × Addr)) (fp : List Addr), Bk k (Cx.blk X s H scope (compEnvC scope cl C X.env) fp) Wf → DTs (Cx.blk X s H scope (compEnvC scope cl C X.env) fp) Wf ifs t)
    (he : ∀ (s : Shared) (H : Hp) (C : Addr) (cl : List (Str × Addr)) (fp : List Addr), Bk k (Cx.blk X s H scope (compEnvC scope cl C X.env) fp) Wf → DE (Cx.blk X s H scope (compEnvC scope cl C X.env) fp) Wf elt m)
    (ok : BlkOk X.N X.env.scope scope own := by exact blkOk_by rfl) (hgv : ∀ i ∈ gv, i ∈ own.map (·.2) := by decide) (hy : X.N[i]? = some y := by rfl) (hyl : X.env.scope.names.lookup y = some .local := by rfl)
    (hsw : swapsWith (.ListComp elt [⟨tg, iter, ifs, 0⟩] scope pos) (some (.Name y py)) spos.line X.env = pure true := by exact sw_true rfl rfl rfl (by decide +kernel)) (hs : ∀ x, foldedSetIterable iter X.env x = pure x := by intro _; rfl) :
    DS X W (.Assign [.Name y py] (.ListComp elt [⟨tg, iter, ifs, 0⟩] scope pos) spos) (asS (lcM mi g t m (own.map (·.2))) (nmG i)) := by
  refine ps_imp (L2.ps_setLc (g := tTg X Wf gv g) (tt := tG X Wf RB t) (te := tG X Wf (Rel X.K) m) o.calm o.nd hy hyl hsw hi ok (fun s H C cl fp => hg s H C cl fp (o.blk s H scope _ fp)) (fun s H C cl fp => ht s H C cl fp (o.blk s H scope _ fp)) (fun s H C cl fp => he s H C cl fp (o.blk s H scope _ fp)) hs) fun T s H ⟨r, e, lh, S, Hh, F⟩ => ?_
  refine lcM_to (X' := X) hgv gd rfl rfl (tG_of S Hh ((FinS.val S F).imp fun v H1 ⟨r1, l1, d, a, b, c, F1⟩ => ?_))
  exact F1 r1 H1 (s.set i (some v)) Ext.refl ((S.mono a).set i c) b
/-! ### methods of built-in types -/
def tyOk (T : String) (d : D) (lh : LH) : Bool := match d with
  | .str _ => T == "str"
  | .loc n => T == "list" && (sq lh (.loc n)).isSome
  | .fl _ => T == "list"
  | _ => false
theorem tyOk_to {r H} {T : String} {d : D} {v : V} {lh : LH} (hs : SimH X.K r H lh) (q : Rel X.K r H d v) (h : tyOk T d lh = true) : tyV X.K T v H := by
  cases q with
  | str x => exact beq_iff_eq.mp (show (T == "str") = true from h)
  | @loc n a e =>
    have h : (T == "list" && (sq lh (.loc n)).isSome) = true := h
    rw [Bool.and_eq_true] at h
    obtain ⟨ds, hd⟩ := Option.isSome_iff_exists.mp h.2
    obtain ⟨a0, vs, ea, h0, _⟩ := sq_to hs (Rel.loc e) hd
    cases ea
    exact .inl ⟨beq_iff_eq.mp h.1, vs, h0⟩
  | @fl a vs xs e q => exact .inl ⟨beq_iff_eq.mp (show (T == "list") = true from h), vs, e.sq⟩
  | _ => cases h
def MtD (X : Cx) (id : String) (f : D → List D → LH → Re D) : Prop :=
  ∃ rr : V → List V → Hp → VK → Prop, MtR X id rr ∧ ∀ (E : XK) r H lh d ds v vs Q, SimH X.K r H lh → Rel X.K r H d v → RelL X.K r H ds vs → FinG X.K X.mg E (Rel X.K) r H Q (f d ds lh) → rr v vs H Q
def mtM (T : String) (f : D → List D → LH → Re D) (mo : M) (ma : MA) : M := fun e lh => (mo e lh).bind fun o l1 => if tyOk T o l1 = true then (ma e l1).bind fun ds l2 => f o ds l2 else .bad
theorem de_mt {T id : String} {name : Str} {o e : Expr} {es : List Expr} {apos cpos : Pos} {f : D → List D → LH → Re D} {mo : M} {ma : MA} (pa : PlainAttrs T) (slot : Slot T name id) (hty : typeOf (.builtin id) = pure (.type "method_descriptor")) (hm : MtD X id f) (ho : DE X W o mo) (ha : DA X W (e :: es) ma)
    (hbase : attributeBase o name X.env (eval o X.env) = eval o X.env := by rfl)
    (hfew : ((backTo cpos (starEach (e :: es) X.env)).all (fun x => !x.1) && (backToKw cpos (keywordEach [] X.env)).all (fun x => x.1.isSome)
      && decide ((e :: es).length + ([] : List Keyword).length + (if ([] : List Keyword).isEmpty then 0 else 1) < 30)) = true := by rfl)
    (hline : (apos.endLine == cpos.line) = true := by rfl) (hs : starEach (e :: es) X.env = (false, eval e X.env) :: starEach es X.env := by rfl) (hplain : (backTo cpos (starEach es X.env)).any (·.1) = false := by rfl) :
    DE X W (.Call (.Attribute o name apos) (e :: es) [] cpos) (mtM T f mo ma) := by
  obtain ⟨rr, h1, h2⟩ := hm
  refine pe_imp (pe_bm pa slot hty h1 ho ha.pa hbase hfew hline hs hplain) fun s H Q ⟨r, e, lh, S, Hh, F⟩ => ?_
  refine tG_of S Hh ((FinG.bind (R := Rel X.K) F).imp fun v H1 ⟨r1, l1, x, y1, z1, w1, F1⟩ => ?_)
  split at F1
  · rename_i hok
    refine ⟨tyOk_to z1 w1 hok, tG_of (S.mono y1) z1 ((FinG.bind (R := RelL X.K) F1).imp fun vs H2 ⟨r2, l2, x2, y2, z2, w2, F2⟩ => ?_)⟩
    exact h2 _ r2 H2 l2 _ _ _ _ Q z2 (w1.mono y2) w2 F2
  · exact F1.elim
theorem de_mt0 {T id : String} {name : Str} {o : Expr} {apos cpos : Pos} {f : D → List D → LH → Re D} {mo : M} (pa : PlainAttrs T) (slot : Slot T name id) (hty : typeOf (.builtin id) = pure (.type "method_descriptor")) (hm : MtD X id f) (ho : DE X W o mo)
    (hbase : attributeBase o name X.env (eval o X.env) = eval o X.env := by rfl) (hline : (apos.endLine == cpos.line) = true := by rfl) : DE X W (.Call (.Attribute o name apos) [] [] cpos) (mtM T f mo nilA) := by
  obtain ⟨rr, h1, h2⟩ := hm
  refine pe_imp (pe_bm0 pa slot hty h1 ho hbase hline) fun s H Q ⟨r, e, lh, S, Hh, F⟩ => ?_
  refine tG_of S Hh ((FinG.bind (R := Rel X.K) F).imp fun v H1 ⟨r1, l1, x, y1, z1, w1, F1⟩ => ?_)
  split at F1
  · rename_i hok
    exact ⟨tyOk_to z1 w1 hok, h2 _ r1 H1 l1 _ _ _ _ Q z1 w1 .nil F1⟩
  · exact F1.elim
def appD : D → List D → LH → Re D := fun o ds lh => match o, ds with
  | .loc n, [d] => match lh[n]? with | some (.lst xs) => if xs.length < sizeLine then .ok .non (lh.set n (.lst (xs ++ [d]))) else .bad | _ => .bad
  | _, _ => .bad
theorem m_append : MtD X "list.append" appD := by
  refine ⟨_, mt_append, fun E r H lh d ds v vs Q Hh q ql F => ?_⟩
  unfold appD at F
  split at F
  · cases q with
    | loc e =>
      cases ql with
      | cons q1 q2 =>
        cases q2
        split at F
        · rename_i xs exs
          obtain ⟨us, h0, qs⟩ := Hh.get e exs
          split at F
          · rename_i hl
            exact ⟨_, us, _, rfl, rfl, h0, by rw [← qs.length]; exact hl, F.to (Ext.wr h0) (Hh.wr e h0 (qs.snoc q1)) .non⟩
          · exact F.elim
        · exact F.elim
  · exact F.elim
def popD : D → List D → LH → Re D := fun o ds lh => match o, ds with
  | .loc n, [] => match lh[n]? with | some (.lst xs) => (match xs[xs.length - 1]? with | some d => .ok d (lh.set n (.lst xs.dropLast)) | none => .bad) | _ => .bad
  | .loc n, [.int i] => match lh[n]? with
    | some (.lst xs) => if -(2 ^ 63) ≤ i ∧ i < 2 ^ 63 then (match seqIndex? i xs.length with | some k => (match xs[k]? with | some d => .ok d (lh.set n (.lst (xs.eraseIdx k))) | none => .bad) | none => .bad) else .bad
    | _ => .bad
  | _, _ => .bad
theorem RelL.dropLast {K r H} {ds : List D} {vs : List V} (h : RelL K r H ds vs) : RelL K r H ds.dropLast vs.dropLast := by
  rw [List.dropLast_eq_take, List.dropLast_eq_take, h.length]
  exact h.take _
theorem m_pop : MtD X "list.pop" popD := by
  refine ⟨_, MtR.or mt_pop mt_popAt, fun E r H lh d ds v vs Q Hh q ql F => ?_⟩
  unfold popD at F
  split at F
  · cases q with
    | loc e =>
      cases ql
      split at F
      · rename_i xs exs
        obtain ⟨us, h0, qs⟩ := Hh.get e exs
        split at F
        · rename_i d' ed
          obtain ⟨u, h1, h2⟩ := qs.get ed
          exact .inl ⟨_, us, u, rfl, rfl, h0, by rw [← qs.length]; exact h1, F.to (Ext.wr h0) (Hh.wr e h0 qs.dropLast) (h2.mono (Ext.wr h0))⟩
        · exact F.elim
      · exact F.elim
  · cases q with
    | loc e =>
      cases ql with
      | cons q1 q2 =>
        cases q2
        cases q1
        split at F
        · rename_i xs exs
          obtain ⟨us, h0, qs⟩ := Hh.get e exs
          split at F
          · rename_i hb
            split at F
            · rename_i k ek
              split at F
              · rename_i d' ed
                obtain ⟨u, h1, h2⟩ := qs.get ed
                exact .inr ⟨_, us, _, k, u, rfl, rfl, h0, hb.1, hb.2, by rw [← qs.length]; exact ek, h1, F.to (Ext.wr h0) (Hh.wr e h0 (qs.erase k)) (h2.mono (Ext.wr h0))⟩
              · exact F.elim
            · exact F.elim
          · exact F.elim
        · exact F.elim
  · exact F.elim
end
/-! ### defs -/
section
variable (K : PySem.W.Frag) (mg : Str → Option Value)
abbrev FM := List D → LH → Re D
def spD (n : Nat) (m : FM) : Sp := fun vs H Q E => vs.length = n ∧ ∃ r lh ds, SimH K r H lh ∧ RelL K r H ds vs ∧ FinG K mg E (Rel K) r H Q (m ds lh)
end
def stD (n : Nat) (ds : List D) : LE := ds.map some ++ List.replicate (n - ds.length) none
def finM : RS → Re D | .nx _ l => .ok .non l | .rt d l => .ok d l | .er x _ l => .er x l | _ => .bad
@[simp] theorem finM_nx (e : LE) (l : LH) : finM (.nx e l) = .ok .non l := rfl
@[simp] theorem finM_rt (d : D) (l : LH) : finM (.rt d l) = .ok d l := rfl
@[simp] theorem finM_er (x : Ex) (e : LE) (l : LH) : finM (.er x e l) = .er x l := rfl
@[simp] theorem finM_bad : finM .bad = .bad := rfl
def fnM (n : Nat) (m : SM) : FM := fun ds lh => finM (m (stD n ds) lh)
/-- a def of the text: its name, its parameters, what it computes, k calls deep -/
structure FnI (P : Program) (w : World) (K : PySem.W.Frag) (mg : Str → Option Value) (base : Heap) (x : Str) (ps : List Str) (k : Nat) (m : FM) : Prop where
  ex : ∃ (f : Addr) (fd : FuncData), FnOk P w K mg base (L2.CX P w) k f fd ps (spD K mg ps.length m) ∧ mg x = some (.ref f) ∧ PySem.W.keepIn K (.ref f) = true ∧ Binds K fd ps [] ∧
    ∃ (qual : Str) (params : Arguments) (body : List Stmt) (scope : Scope), FunD K x qual params body scope [] [] f fd
theorem stD_sim {K r H} {ds : List D} {vs : List V} {N : List Str} (q : RelL K r H ds vs) : SimS K r H (stD N.length ds) (L2.start N vs) := by
  unfold stD L2.start
  refine ⟨by rw [List.length_append, List.length_append, List.length_map, List.length_map, List.length_replicate, List.length_replicate, q.length], fun i d hi => ?_⟩
  by_cases hl : i < ds.length
  · rw [List.getElem?_append_left (by rw [List.length_map]; exact hl), List.getElem?_map] at hi
    cases e : ds[i]? with
    | none => rw [e] at hi; cases hi
    | some d' =>
      rw [e] at hi
      cases hi
      obtain ⟨v, h1, h2⟩ := q.get e
      exact ⟨v, by rw [List.getElem?_append_left (by rw [List.length_map, ← q.length]; exact hl), List.getElem?_map, h1]; rfl, h2⟩
  · rw [List.getElem?_append_right (by rw [List.length_map]; omega), List.getElem?_replicate] at hi
    split at hi
    · cases hi
    · cases hi
section
variable {P : Program} {w : World} {K : PySem.W.Frag} {mg : Str → Option Value} {base : Heap}
theorem spD_to {n : Nat} {m : SM} {N ps : List Str} {X : Cx} (hX : X.K = K) (hmg : X.mg = mg) {vs : List V} {H : Hp} {Q : VK} {E : XK} (h : spD K mg n (fnM N.length m) vs H Q E) :
    tSt X (fun cls d _ H => E cls d H) m { nx := fun _ H' => Q .non H', rt := Q } (L2.start N vs) H := by
  subst hX hmg
  obtain ⟨_, r, lh, ds, Hh, q, F⟩ := h
  refine ⟨r, stD N.length ds, lh, stD_sim q, Hh, ?_⟩
  have F : FinG X.K X.mg E (Rel X.K) r H Q (finM (m (stD N.length ds) lh)) := F
  cases z : m (stD N.length ds) lh with
  | nx e l => rw [z] at F; exact fun r' H' s' a b c => F r' H' .non a c .non
  | rt d l => rw [z] at F; exact F
  | bk e l => rw [z] at F; exact F.elim
  | ct e l => rw [z] at F; exact F.elim
  | er x e l => rw [z] at F; exact fun r' H' s' c dd a b => F r' H' c dd a
  | bad => rw [z] at F; exact F.elim
theorem fn_body {x qual : Str} {params : Arguments} {body : List Stmt} {scope : Scope} {dvs : List V} {kws : List (Str × V)} {f : Addr} {fd : FuncData} {N ps : List Str} {k : Nat} {m : SM} (F : FunD K x qual params body scope dvs kws f fd) (S : FnScope N ps scope)
    (hb : ∀ (X : Cx) (W : WX), Bk k X W → X.prog = P → X.w = w → X.K = K → X.mg = mg → X.base = base → X.N = N → X.env.scope = scope → X.fn = (fun _ => true) → (∃ L f cd, X.env = PyProof.Rows.envOfC qual scope L f cd) → DSs X W body m) :
    FnOk P w K mg base (L2.CX P w) (k + 1) f fd ps (spD K mg ps.length (fnM N.length m)) := by
  refine FunD.ok F S (fun vs H Q E h => h.1) fun cdv A outer s H vs Q E hr h => ?_
  refine ⟨_, hb (cxOf (L2.CX P w) P w K mg base N qual scope f cdv A outer s H E) (fun cls d _ H => E cls d H) ⟨rfl, takes_of rfl rfl rfl rfl, S.nd, passes_of rfl, hr⟩ rfl rfl rfl rfl rfl rfl rfl rfl ⟨_, _, _, rfl⟩, spD_to (ps := ps) rfl rfl h⟩
end
section
variable {X : Cx} {W : WX}
def apM (m : FM) (ma : MA) : M := fun e lh => (ma e lh).bind fun ds l => m ds l
theorem de_call {k n : Nat} {x : Str} {ps : List Str} {m : FM} {p pos : Pos} {e : Expr} {es : List Expr} {ma : MA} (o : Bk n X W) (G : FnI X.prog X.w X.K X.mg X.base x ps k m) (hk : k ≤ n) (ha : DA X W (e :: es) ma) (hl : (e :: es).length = ps.length := by rfl) (hg : Gl X x := by rfl)
    (hdb : (x == ("__debug__" : Str)) = false := by decide) (he : starEach (e :: es) X.env = (false, eval e X.env) :: starEach es X.env := by rfl) (hpl : (backTo pos (starEach es X.env)).any (·.1) = false := by rfl) : DE X W (.Call (.Name x p) (e :: es) [] pos) (apM m ma) := by
  obtain ⟨f, fd, h1, h2, h3, h4, _⟩ := G.ex
  refine pe_imp (pe_callS (E := WE W) h1 (o.hr.mono hk) hg h2 h3 h4 (fun σ => passAt o.tk σ) ha.pa hdb he hpl) fun s H Q ⟨r, e, lh, S, Hh, F⟩ => ?_
  refine tG_of S Hh (FinG.len ha ((FinG.bind (R := RelL X.K) F).imp fun vs H1 ⟨r1, l1, x, y1, z1, w1, F1⟩ hlen => ?_))
  exact ⟨hlen.trans hl, r1, l1, x, z1, w1, F1⟩
end
end NL
set_option maxRecDepth 100000
set_option maxHeartbeats 2000000
/-! sorted(set(text)): the signs of a text, each once, in order. -/
namespace NS
open PySem PySem.Spec PyProof.Rows PySem.Froz L2
def sv (v : Value) : Option Str := match v with | .str k _ => some k | _ => none
/-- a set's payload: the texts l in some order; its table rises -/
structure Tx2 (P : Program) (w : World) (D : SD) (l : List Str) : Prop where
  ok : TxOk P w D l
  ris : Ris D.2.2.place.toList
  led : w.params.followText "set-order" = true ∨ D.2.2.led = true
  vs : (D.1.toList.map fun e => sv e.2).Perm (l.map some)
section
variable {P : Program} {w : World} {A : Around} {E : Value → Shared → Prop} {s : Shared}
theorem Tx2.lay {es : Array (Int × Value)} {ep : Nat} {t : SetTable} {l : List Str} (F : Tx2 P w (es, ep, t) l) (k : Str) (u : Tok) :
    Ris (layNew t es (hashStr w k) (.str k u)).2.1.place.toList ∧ (w.params.followText "set-order" = true ∨ (layNew t es (hashStr w k) (.str k u)).2.1.led = true) ∧
      ((layNew t es (hashStr w k) (.str k u)).1.toList.map fun e => sv e.2).Perm ((k :: l).map some) := by
  refine ⟨layNew_ris _ _ _ _ F.ris, F.led.imp id fun z => by rw [layNew_led]; exact z, ?_⟩
  have p := layNew_perm t es (hashStr w k) (.str k u)
  rw [Array.toList_push] at p
  have q := (p.trans (List.perm_append_singleton _ _)).map fun e => sv e.2
  exact q.trans (F.vs.cons (some k))
theorem tail2 {ep : Nat} {es1 : Array (Int × Value)} {t2 : SetTable} {b : Bool} {l : List Str} (hr : Ris t2.place.toList) (hl : w.params.followText "set-order" = true ∨ t2.led = true) (hv : (es1.toList.map fun e => sv e.2).Perm (l.map some)) :
    Ris (tailTx ep es1 t2 b).2.2.place.toList ∧ (w.params.followText "set-order" = true ∨ (tailTx ep es1 t2 b).2.2.led = true) ∧ ((tailTx ep es1 t2 b).1.toList.map fun e => sv e.2).Perm (l.map some) := by
  unfold tailTx
  split
  · exact ⟨relayAll_ris _ _ _, hl.imp id fun z => (relayAll_led t2 es1 _).trans z, ((relayAll_perm t2 es1 _).map fun e => sv e.2).trans hv⟩
  · exact ⟨hr, hl, hv⟩
theorem Tx2.add {D : SD} {l : List Str} {k : Str} (u : Tok) (F : Tx2 P w D l) : Tx2 P w (addTx (hashStr w k) (.str k u) D) (k :: l) := by
  obtain ⟨es, ep, t⟩ := D
  obtain ⟨a, b, c⟩ := F.lay k u
  have h := tail2 (w := w) (ep := ep) (es1 := (layNew t es (hashStr w k) (.str k u)).1) (t2 := if (layNew t es (hashStr w k) (.str k u)).2.1.plain = true then { (layNew t es (hashStr w k) (.str k u)).2.1 with plain := false } else (layNew t es (hashStr w k) (.str k u)).2.1)
    (b := (layNew t es (hashStr w k) (.str k u)).2.2.1) (l := k :: l) (by split <;> exact a) (by split <;> exact b) c
  exact ⟨add_ok u F.ok, h.1, h.2.1, h.2.2⟩
/-- a text that is there already -/
theorem old_x {a : Addr} {T : String} {D : SD} {l : List Str} {k : Str} {u : Tok} {Q : Bool → Shared → Prop} (ho : s.heap.get? a = some (sObj T D)) (F : TxOk P w D l) (hk : k ∈ l) (hb : l.length < scanBound)
    (h : Q false s) : wpAny (model P w) A (setAddHashed a (.str k u) (hashStr w k)) Q E s := by
  obtain ⟨es, ep, t⟩ := D
  have hin := (F.mem k).mp hk
  obtain ⟨j, hj⟩ : ∃ j, List.findIdx? (fun e => (strKind P w).is k e.2) es.toList = some j := by
    cases q : List.findIdx? (fun e => (strKind P w).is k e.2) es.toList with
    | some j => exact ⟨j, rfl⟩
    | none =>
      obtain ⟨e, he, hp⟩ := hin
      have := List.findIdx?_eq_none_iff.mp q e he
      rw [this] at hp
      cases hp
  have hsz : es.size < scanBound := by rw [show es.size = l.length from F.sz]; exact hb
  unfold setAddHashed setAddHashedIn
  refine wpAny_holding ?_
  refine wpAny_bind (wpAny_setState_of (es := es) (ep := ep) (t := t) ho rfl F.fit ?_)
  dsimp only
  rw [byScan_of (x := Value.str k u) rfl hsz F.el]
  simp only [↓reduceIte]
  unfold setAddByScan
  refine wpAny_bind (wpAny_bind (wpAny_rule ?_))
  refine wpAny_bind (wpAny_setScan_of (knd := strKind P w) (k := k) (is_str k u) ho rfl F.fit F.el ?_)
  rw [hj]
  exact wpAny_pure (wpAny_pure h)
end
end NS
set_option maxRecDepth 100000
set_option maxHeartbeats 2000000
namespace NS
open PySem PySem.Spec PyProof.Rows PySem.Froz L2
/-- the texts met -/
def adds (l : List Str) : List Nat → List Str
  | [] => l
  | c :: r => adds (if sing c ∈ l then l else sing c :: l) r
section
variable {P : Program} {w : World} {A : Around} {R : Result → Shared → Prop}
theorem upd {a it : Addr} (hne : a ≠ it) {x : Str} {u : Tok} (hh : A.handled = none) : ∀ (cs : List Nat) (i : Nat) (D : SD) (l : List Str) (s : Shared), x.cps.toList.drop i = cs →
    s.heap.get? a = some (sObj "set" D) → s.heap.get? it = some (itObj x u i) → Tx2 P w D l → l.length + cs.length < scanBound →
    (∀ h' D' tk, (∀ b o, b ≠ a → b ≠ it → s.heap.get? b = some o → h'.get? b = some o) → h'.get? a = some (sObj "set" D') → Tx2 P w D' (adds l cs) → R (.ok (.ret .none)) { s with heap := h', toks := tk }) →
    codeAny (model P w) A (.builtin "set.update.loop" ⟨[.ref a, .ref it], []⟩) R s
  | [], i, D, l, s, hd, ha, hit, F, hb, h => by
    apply codeAny_builtin PyProof.Rows.F.entry_set_update_loop
    rw [Around.under_plainId PyProof.Rows.F.plain_set_update_loop]
    change wpAny _ A.in1 (pyNext (.ref it) >>= _) _ _ s
    apply wpAny_bind
    refine end_x (u := u) (by exact hh) hit (at_end hd) ?_
    change wpAny _ A.in1 (ret Value.none) _ _ _
    apply wpAny_pure
    refine h (endHeap s.heap it i) D s.toks (fun b o h1 h2 e => ?_) ?_ F
    · exact Heap.get?_push_of_some _ (Heap.get?_push_of_some _ (PySem.Heap.get?_update_of_ne _ (Ne.symm h2) e))
    · exact Heap.get?_push_of_some _ (Heap.get?_push_of_some _ (PySem.Heap.get?_update_of_ne _ (Ne.symm hne) ha))
  | c :: r, i, D, l, s, hd, ha, hit, F, hb, h => by
    obtain ⟨hx, hd2⟩ := at_of hd
    have hb2 : l.length + (r.length + 1) < scanBound := hb
    apply codeAny_builtin PyProof.Rows.F.entry_set_update_loop
    rw [Around.under_plainId PyProof.Rows.F.plain_set_update_loop]
    change wpAny _ A.in1 (pyNext (.ref it) >>= _) _ _ s
    apply wpAny_bind
    refine next_x (u := u) hit hx ?_
    change wpAny _ A.in1 (holding [Value.str (sing c) s.toks] (setAdd a (.str (sing c) s.toks)) >>= _) _ _ _
    apply wpAny_bind
    apply wpAny_holding
    unfold setAdd
    apply wpAny_holding
    apply wpAny_bind
    refine (strKind P w).pyHash (k := sing c) (is_str _ _) ?_
    have ha1 : (s.heap.update it (fun _ => itObj x u (i + 1))).get? a = some (sObj "set" D) := PySem.Heap.get?_update_of_ne _ (Ne.symm hne) ha
    have hi1 : (s.heap.update it (fun _ => itObj x u (i + 1))).get? it = some (itObj x u (i + 1)) := get_upd _ hit rfl
    have step : ∀ (b : Bool) (h1 : Heap) (D1 : SD) (l1 : List Str) (tk : Nat), l1.length ≤ l.length + 1 → (∀ b o, b ≠ a → b ≠ it → s.heap.get? b = some o → h1.get? b = some o) → h1.get? a = some (sObj "set" D1) → h1.get? it = some (itObj x u (i + 1)) → Tx2 P w D1 l1 → adds l1 r = adds l (c :: r) →
        codeAny (model P w) A (.builtin "set.update.loop" ⟨[.ref a, .ref it], []⟩) R { s with heap := h1, toks := tk } := fun b h1 D1 l1 tk hz hk hg hg2 F1 he => by
      refine upd hne hh r (i + 1) D1 l1 _ hd2 hg hg2 F1 (by omega) fun h' D' tk' k2 g2 F2 => ?_
      rw [he] at F2
      exact h h' D' tk' (fun b o x1 x2 e => k2 b o x1 x2 (hk b o x1 x2 e)) g2 F2
    by_cases hc : sing c ∈ l
    · refine old_x (l := l) (D := D) (s := { s with heap := s.heap.update it (fun _ => itObj x u (i + 1)), toks := s.toks + 1 + 1 }) ha1 F.ok hc (by omega) ?_
      refine wpAny_pure ⟨plainId_quiet PyProof.Rows.F.plain_set_update_loop _, ?_⟩
      exact step true _ D l _ (by omega) (fun b o h1 h2 e => PySem.Heap.get?_update_of_ne _ (Ne.symm h2) e) ha1 hi1 F (by show adds l r = adds (if sing c ∈ l then l else sing c :: l) r; rw [if_pos hc])
    · refine add_x (l := l) (D := D) (s := { s with heap := s.heap.update it (fun _ => itObj x u (i + 1)), toks := s.toks + 1 + 1 }) ha1 F.ok hc (by omega) ?_
      refine wpAny_pure ⟨plainId_quiet PyProof.Rows.F.plain_set_update_loop _, ?_⟩
      exact step true _ _ (sing c :: l) _ (by show l.length + 1 ≤ _; omega) (fun b o h1 h2 e => PySem.Heap.get?_update_of_ne _ (Ne.symm h1) (PySem.Heap.get?_update_of_ne _ (Ne.symm h2) e)) (get_upd _ ha1 rfl) (PySem.Heap.get?_update_of_ne _ hne hi1) (F.add _)
        (by show adds (sing c :: l) r = adds (if sing c ∈ l then l else sing c :: l) r; rw [if_neg hc])
end
end NS
set_option maxRecDepth 100000
set_option maxHeartbeats 4000000
namespace NS
open PySem PySem.Spec PyProof.Rows PySem.Froz L2
section
variable {P : Program} {w : World} {A : Around} {E : Value → Shared → Prop} {s : Shared}
/-- the new set, empty -/
def newO (w : World) : Obj := sObj "set" (#[], 0, .fresh 0 0 (!w.params.followText "set-order"))
theorem new2 (P : Program) (w : World) : Tx2 P w (#[], 0, .fresh 0 0 (!w.params.followText "set-order")) [] where
  ok := .nil (by rfl)
  ris := List.Pairwise.nil
  led := by
    show _ ∨ (!w.params.followText "set-order") = true
    cases w.params.followText "set-order" <;> simp
  vs := by simp
/-- set(text), signs all plain -/
theorem call_set_str {x : Str} {u : Tok} {Q : Value → Shared → Prop} (hh : A.handled = none) (hx : x.cps.all (· < 128) = true) (hz : x.cps.toList.length < scanBound)
    (h : ∀ (h' : Heap) (tk : Nat) D, (∀ b o, s.heap.get? b = some o → h'.get? b = some o) → h'.get? s.heap.objs.size = some (sObj "set" D) → Tx2 P w D (adds [] x.cps.toList) → Q (.ref s.heap.objs.size) { s with heap := h', toks := tk }) :
    wpAny (model P w) A (call (.type "set") [.str x u]) Q E s := by
  have ⟨c, tl, hmro⟩ := PySem.F.called_set.mro
  have k1 := PySem.F.called_set.made
  have k2 := PySem.F.called_set.sub
  have k3 := PySem.F.called_set.notType
  have k4 := PySem.F.called_set.canCreate
  have k5 := PySem.F.typeCall_set_1 (.str x u)
  apply wpAny_call
  apply codeAny_of_tree
  change wpAny _ _ (callAny (.type "set") _) _ _ _
  apply wpAny_pure
  refine ⟨Code.quiet_builtin _ (by decide +kernel), ?_⟩
  apply codeAny_builtin PySem.F.entry_type_call
  rw [Around.under_plain (weight_type_call_type "set" [.str x u] []) rfl]
  repeat (any_goals (first | assumption | wp_step))
  have mk := code_set_led1 (P := P) (w := w) (A := A.in1) (s := s) (E := E) (.str x u) (Q₁ := fun v s1 => v = .ref s.heap.objs.size ∧ s1 = { s with heap := s.heap.push (newO w) }) ⟨rfl, rfl⟩
  refine codeAny_mono mk fun r s1 hr => ?_
  cases r with
  | error e => exact hr
  | ok fl =>
  cases fl with
  | ret v =>
    obtain ⟨rfl, rfl⟩ := hr
    have g0 : (s.heap.push (newO w)).get? s.heap.objs.size = some (newO w) := Heap.get?_push_size _ rfl
    have ty : Shared.TypeIs { s with heap := s.heap.push (newO w) } (.ref s.heap.objs.size) "set" := ⟨_, g0, rfl⟩
    have i1 := PySem.F.called_set.init.lookup
    have i2 := PySem.F.called_set.init.bind (.ref s.heap.objs.size)
    repeat (any_goals (first | assumption | wp_step))
    have ini : codeAny (model P w) A.in1 (.call (.builtin "set.__init__") ⟨[.ref s.heap.objs.size, .str x u], []⟩) (wants (fun r s2 => r = .none ∧ Q (.ref s.heap.objs.size) s2) E) { s with heap := s.heap.push (newO w) } := by
      apply codeAny_call_builtin PySem.F.called_set.init.plain PySem.F.entry_set_init
      apply check_set_init_1 ty
      have n1 := PySem.F.sub_str_set
      have n2 := PySem.F.sub_str_frozenset
      unfold Builtin.«set.__init__» noKeywords Builtin.Frozenset.updateFrom
      generalize hPI : pyIter = PI
      wp_walk
      subst hPI
      refine wpAny_pyIter_ascii hx ?_
      have z1 : (s.heap.push (newO w)).objs.size = s.heap.objs.size + 1 := Heap.size_push ..
      have g1 : ((s.heap.push (newO w)).push (itObj x u 0)).get? s.heap.objs.size = some (sObj "set" (#[], 0, .fresh 0 0 (!w.params.followText "set-order"))) := Heap.get?_push_of_some _ g0
      have g2 : ((s.heap.push (newO w)).push (itObj x u 0)).get? (s.heap.push (newO w)).objs.size = some (itObj x u 0) := Heap.get?_push_size _ rfl
      apply wpAny_bind
      refine wpAny_runValue ?_
      refine upd (D := (#[], 0, .fresh 0 0 (!w.params.followText "set-order"))) (l := []) (a := s.heap.objs.size) (it := (s.heap.push (newO w)).objs.size) (x := x) (u := u) (by rw [z1]; exact Nat.ne_of_lt (Nat.lt_succ_self _)) (by show A.in1.in1.in1.handled = none; simp [hh]) x.cps.toList 0 _ rfl g1 g2 (new2 P w) (by show 0 + _ < _; omega) fun h' D tk k g F => ?_
      apply wpAny_pure
      apply wpAny_pure
      refine ⟨rfl, h h' tk D (fun b o e => ?_) g F⟩
      have hb := Heap.lt_size e
      exact k b o (Nat.ne_of_lt hb) (by rw [z1]; exact Nat.ne_of_lt (Nat.lt_succ_of_lt hb)) (Heap.get?_push_of_some _ (Heap.get?_push_of_some _ e))
    refine codeAny_mono ini fun r2 s2 hr2 => ?_
    cases r2 with
    | error e => exact hr2
    | ok f2 =>
    cases f2 with
    | ret r =>
      obtain ⟨rfl, hq⟩ := hr2
      repeat (any_goals (first | assumption | wp_step))
    | _ => exact hr2.elim
  | _ => exact hr.elim
end
end NS
set_option maxRecDepth 100000
set_option maxHeartbeats 2000000
namespace NS
open PySem PySem.Spec PyProof.Rows PySem.Froz L2
def so1 (v : Value) : Str := (sv v).getD Str.empty
theorem strs_by : ∀ vs : List Value, (∀ v ∈ vs, ∃ k, sv v = some k) → StrsAre vs (vs.map so1)
  | [], _ => .nil
  | v :: r, h => by
    obtain ⟨k, hk⟩ := h v List.mem_cons_self
    have ih := strs_by r fun z hz => h z (List.mem_cons_of_mem _ hz)
    cases v with
    | str x t => exact .cons x t ih
    | _ => cases hk
theorem map_some_get : ∀ l : List Str, l.map ((fun o : Option Str => o.getD Str.empty) ∘ some) = l
  | [] => rfl
  | x :: r => by
    show x :: r.map _ = _
    rw [map_some_get r]
section
variable {P : Program} {w : World} {A : Around} {E : Value → Shared → Prop} {s : Shared}
theorem sorted_text {a : Addr} {D : SD} {l : List Str} {Q : Value → Shared → Prop} (ha : s.heap.get? a = some (sObj "set" D)) (F : Tx2 P w D l) (hh : A.handled = none) (h64 : l.length < 64)
    (hQ : ∀ s' p (out : Array Value) (c : Nat) (ys : List Str), (∀ b o, s.heap.get? b = some o → s'.heap.get? b = some o) → s'.gens = s.gens → s'.os = s.os → s.heap.objs.size ≤ p →
      s'.heap.get? p = some (seqObj "list" out c) → StrsAre out.toList ys → ys.Perm l → sortedS ys = true → Q (.ref p) s') :
    wpAny (model P w) A (call (.builtin "sorted") [.ref a]) Q E s := by
  obtain ⟨es, ep, t⟩ := D
  have hsz : es.size = l.length := F.ok.sz
  have hb : es.size < scanBound := by unfold scanBound; omega
  apply Calls.call_function_entry kind_sorted plain_sorted entry_sorted (args_sorted1 _)
  unfold Builtin.«sorted»
  refine wpAny_bind (m := checkCount "sorted" 1 1 _) ?_
  apply wpAny_pure
  apply wpAny_bind
  refine collect_set (A := A.in1) hh ⟨_, ha, rfl, rfl⟩ F.ok.fit hb F.ris F.led fun s1 vs k1 hz g1 o1 pm => ?_
  have pv : (vs.map sv).Perm (l.map some) := by
    have q := pm.map sv
    rw [List.map_map] at q
    exact q.trans F.vs
  have hlen : vs.length = l.length := by
    have := pv.length_eq
    rwa [List.length_map, List.length_map] at this
  have hS : StrsAre vs (vs.map so1) := strs_by vs fun v hv => by
    obtain ⟨k, _, q⟩ := List.mem_map.mp (pv.mem_iff.mp (List.mem_map_of_mem hv))
    exact ⟨k, q.symm⟩
  have hp : (vs.map so1).Perm l := by
    have q := pv.map fun o => o.getD Str.empty
    rw [List.map_map, List.map_map] at q
    exact q.trans (List.Perm.of_eq (map_some_get l))
  apply wpAny_bind
  refine wpAny_newList ?_ (by rw [hlen, sizeLine_eq]; omega)
  have hoL : (s1.heap.push (seqObj "list" vs.toArray 0)).get? s1.heap.objs.size = some (seqObj "list" vs.toArray 0) := Heap.get?_push_size _ rfl
  apply wpAny_bind
  apply wpAny_holding
  refine wpAny_call_entry slot_list_sort ⟨_, hoL, rfl⟩ entry_list_sort ?_ (args_list_sort _)
  refine list_sort_treeK strKind_oneLt hoL hS.keysOf (fun v₁ v₂ rest e => keyKind_strs (by rw [← e]; exact hS)) (by omega) fun st' hpm hs => ?_
  obtain ⟨ys, b1, b2, b3⟩ := sorted_out_str hS hpm hs
  refine ⟨_, rfl, ?_⟩
  obtain ⟨c, hc⟩ := sortedHeap_at (vs := vs) (out := (arrOf st').map (·.2)) hoL
  apply wpAny_pure
  refine ⟨_, rfl, hQ _ s1.heap.objs.size _ c ys (fun b o e => ?_) g1 o1 hz hc b1 (b2.trans hp) b3⟩
  have q := k1 b o e
  have lt := Heap.lt_size q
  show (sortedHeap _ s1.heap.objs.size vs _).get? b = some o
  rw [sortedHeap_old (Nat.ne_of_lt lt) (by rw [size_push']; exact Nat.lt_succ_of_lt lt)]
  exact Heap.get?_push_of_some _ q
end
end NS
set_option maxRecDepth 100000
set_option maxHeartbeats 2000000
namespace NS
open PySem PySem.Spec PyProof.Rows PySem.Froz L2
/-! ### one order -/
def leS (a b : Str) : Prop := a.cps.toList ≤ b.cps.toList
theorem leS_trans {a b c : Str} (h : leS a b) (h' : leS b c) : leS a c := List.le_trans h h'
theorem leS_anti {a b : Str} (h : leS a b) (h' : leS b a) : a = b := by
  have : a.cps.toList = b.cps.toList := List.le_antisymm h h'
  cases a
  cases b
  exact congrArg Str.mk (Array.toList_inj.mp this)
theorem leS_total (a b : Str) : leS a b ∨ leS b a := List.le_total _ _
theorem leS_of {a b : Str} (h : ltCps b.cps.toList a.cps.toList = false) : leS a b := by
  rw [ltCps_eq] at h
  exact List.not_lt.mp (of_decide_eq_false h)
theorem rising_pw : ∀ (l : List Str) (p : Str), risingS p l = true → (p :: l).Pairwise leS
  | [], p, _ => List.pairwise_singleton _ _
  | x :: r, p, h => by
    have h' : (!ltCps x.cps.toList p.cps.toList && risingS x r) = true := h
    rw [Bool.and_eq_true] at h'
    have h1 : leS p x := leS_of (by cases q : ltCps x.cps.toList p.cps.toList <;> simp_all)
    have ih := rising_pw r x h'.2
    refine List.pairwise_cons.mpr ⟨fun y hy => ?_, ih⟩
    rcases List.mem_cons.mp hy with rfl | hy
    · exact h1
    · exact leS_trans h1 ((List.pairwise_cons.mp ih).1 y hy)
theorem sorted_pw {l : List Str} (h : sortedS l = true) : l.Pairwise leS := by
  cases l with
  | nil => exact List.Pairwise.nil
  | cons x r => exact rising_pw r x h
def ins (x : Str) : List Str → List Str
  | [] => [x]
  | y :: r => if ltCps y.cps.toList x.cps.toList = true then y :: ins x r else x :: y :: r
def ordS (l : List Str) : List Str := l.foldr ins []
theorem ins_perm (x : Str) : ∀ l, (ins x l).Perm (x :: l)
  | [] => .refl _
  | y :: r => by
    unfold ins
    split
    · exact ((ins_perm x r).cons y).trans (List.Perm.swap ..)
    · exact .refl _
theorem ins_pw (x : Str) : ∀ l, l.Pairwise leS → (ins x l).Pairwise leS
  | [], _ => List.pairwise_singleton _ _
  | y :: r, h => by
    obtain ⟨h1, h2⟩ := List.pairwise_cons.mp h
    unfold ins
    split
    · rename_i q
      refine List.pairwise_cons.mpr ⟨fun z hz => ?_, ins_pw x r h2⟩
      rcases List.mem_cons.mp ((ins_perm x r).mem_iff.mp hz) with rfl | hz
      · rw [ltCps_eq] at q
        exact List.le_of_lt (of_decide_eq_true q)
      · exact h1 z hz
    · rename_i q
      have hx : leS x y := leS_of (by simpa using q)
      refine List.pairwise_cons.mpr ⟨fun z hz => ?_, h⟩
      rcases List.mem_cons.mp hz with rfl | hz
      · exact hx
      · exact leS_trans hx (h1 z hz)
theorem ord_perm : ∀ l, (ordS l).Perm l
  | [] => .refl _
  | x :: r => (ins_perm x _).trans ((ord_perm r).cons x)
theorem ord_pw : ∀ l, (ordS l).Pairwise leS
  | [] => List.Pairwise.nil
  | x :: r => ins_pw x _ (ord_pw r)
theorem ord_eq {ys l : List Str} (hp : ys.Perm l) (hs : sortedS ys = true) : ys = ordS l :=
  List.Perm.eq_of_pairwise (le := leS) (fun a b _ _ => leS_anti) (sorted_pw hs) (ord_pw l) (hp.trans (ord_perm l).symm)
theorem adds_len : ∀ (cs : List Nat) (l : List Str), (adds l cs).length ≤ l.length + cs.length
  | [], l => Nat.le_refl _
  | c :: r, l => by
    have := adds_len r (if sing c ∈ l then l else sing c :: l)
    show (adds _ r).length ≤ _
    simp only [List.length_cons]
    split at this <;> simp_all <;> omega
/-- the signs of a text, in order, each once -/
def signs (x : Str) : List Str := ordS (adds [] x.cps.toList)
/-! ### the calls -/
def SetS (P : Program) (w : World) (a : Addr) (l : List Str) : HO := .ext fun h => ∃ D, h.get? a = some (sObj "set" D) ∧ Tx2 P w D l
theorem setS_new {w : World} {P : Program} {H : Hp} {h : Heap} {a : Addr} {l : List Str} (R : ∃ D, h.get? a = some (sObj "set" D) ∧ Tx2 P w D l) : ObjOk P w H h a (SetS P w a l) := by
  have ⟨D, g, F⟩ := R
  exact ⟨R, ⟨_, g⟩, fun h1 h2 ⟨D2, g2, F2⟩ k2 => ⟨D2, k2 _ g2, F2⟩⟩
section
variable {X : Cx}
def rSetS (P : Program) (w : World) : List V → Hp → VK → Prop := fun xs H Q => ∃ x : Str, xs = [.str x] ∧ x.cps.all (· < 128) = true ∧ x.cps.toList.length < 60 ∧
  ∀ p, H p = none → Q (.ref p) (L2.upd H p (SetS P w p (adds [] x.cps.toList)))
theorem call_setS (hc : X.calm = true) : CallR X (.type "set") (rSetS X.prog X.w) := by
  intro pins s σ H xs us Q I r h
  obtain ⟨x, rfl, ha, hz, q⟩ := h
  obtain ⟨u, rfl, t, rfl⟩ := vals1 r
  refine call_set_str (I.ok.hd hc) ha (by unfold scanBound; omega) fun h' tk D k g F => ?_
  exact ⟨.ref _, _, I.laid (t' := tk) k (Nat.le_refl _) (setS_new ⟨D, g, F⟩), rfl, q _ (I.hok.fresh (Nat.le_refl _))⟩
def rSortS (P : Program) (w : World) : List V → Hp → VK → Prop := fun xs H Q => ∃ (a : Addr) (l : List Str), xs = [.ref a] ∧ H a = some (SetS P w a l) ∧ l.length < 64 ∧
  ∀ p, H p = none → Q (.ref p) (L2.upd H p (.lst ((ordS l).map V.str)))
theorem call_sortS (hc : X.calm = true) : CallR X (.builtin "sorted") (rSortS X.prog X.w) := by
  intro pins s σ H xs us Q I r h
  obtain ⟨a, l, rfl, ha, hz, q⟩ := h
  rw [Vals.ref1 r]
  obtain ⟨D, g, F⟩ : ∃ D, s.heap.get? a = some (sObj "set" D) ∧ Tx2 X.prog X.w D l := (I.hok a _ ha).1
  refine sorted_text g F (I.ok.hd hc) hz fun s2 p out c ys k g2 o2 hp hg hi hpm hs => ?_
  have hy := ord_eq hpm hs
  subst hy
  have hlen : ((ordS l).map V.str).length ≤ sizeLine := by rw [List.length_map, hpm.length_eq, sizeLine_eq]; omega
  have hn : H p = none := I.hok.fresh hp
  have J : L2.Inv X pins σ (L2.upd H p (.lst ((ordS l).map V.str))) { s with heap := s2.heap, gens := s2.gens, drawn := s2.drawn, toks := s2.toks } := by
    refine I.call (ch := []) (Un.laid k hp hn) (I.hok.laid k hp ⟨hlen, out.toList, c, vals_of_strs hi, hg⟩) ?_ fun _ z => nomatch z
    rw [g2]; exact I.bare
  have e : s2 = { s with heap := s2.heap, gens := s2.gens, drawn := s2.drawn, toks := s2.toks } := by
    obtain ⟨_, _, _, _, _⟩ := s2
    obtain ⟨_, _, _, _, _⟩ := s
    cases o2
    rfl
  rw [e]
  exact ⟨.ref p, _, J, rfl, q p hn⟩
end
end NS
set_option maxRecDepth 100000
set_option maxHeartbeats 1000000
namespace NL
open PySem PySem.Spec L2
section
variable {X : Cx} {W : WX}
/-! ### sorted(set(text)), sep.join(row) -/
def srtD : D → LH → Re D := fun d lh => match d with
  | .str x => if x.cps.all (· < 128) = true ∧ x.cps.toList.length < 60 then .ok (.loc lh.length) (lh ++ [.lst ((NS.signs x).map D.str)]) else .bad
  | _ => .bad
def srtM (m : M) : M := fun e lh => (m e lh).bind srtD
theorem RelL.strs {K r H} : ∀ ys : List Str, RelL K r H (ys.map D.str) (ys.map V.str)
  | [] => .nil
  | y :: r => .cons (.str y) (RelL.strs r)
theorem signs_len (x : Str) : (NS.signs x).length ≤ x.cps.toList.length := by
  have h := NS.adds_len x.cps.toList []
  unfold NS.signs
  rw [(NS.ord_perm _).length_eq]
  simpa using h
theorem de_srt {k : Nat} {e : Expr} {m : M} {p p2 pos pos2 : Pos} (o : Bk k X W) (h : DE X W e m) (hm : X.mg "sorted" = none) (hm2 : X.mg "set" = none) (hg : Gl X "sorted" := by rfl) (hg2 : Gl X "set" := by rfl)
    (he2 : starEach [e] X.env = (false, eval e X.env) :: starEach [] X.env := by rfl) (hpl2 : (backTo pos2 (starEach [] X.env)).any (·.1) = false := by rfl)
    (he : starEach [.Call (.Name "set" p2) [e] [] pos2] X.env = (false, eval (.Call (.Name "set" p2) [e] [] pos2) X.env) :: starEach [] X.env := by rfl) (hpl : (backTo pos (starEach [] X.env)).any (·.1) = false := by rfl) :
    DE X W (.Call (.Name "sorted" p) [.Call (.Name "set" p2) [e] [] pos2] [] pos) (srtM m) := by
  have h1 : PA X [e] _ := pa_cons h pa_nil he2
  have h2 := pe_callTy (p := p2) (NS.call_setS (X := X) o.calm) hg2 hm2 (by rfl) h1 (by decide) (by decide) he2 hpl2
  have h3 : PA X [.Call (.Name "set" p2) [e] [] pos2] _ := pa_cons h2 pa_nil he
  have h4 := pe_callB (p := p) (NS.call_sortS (X := X) o.calm) hg hm (by rfl) h3 (by decide) (by decide) he hpl
  refine pe_imp h4 fun s H Q ⟨r, e, lh, S, Hh, F⟩ => ?_
  refine tG_of S Hh ((FinG.bind (R := Rel X.K) F).imp fun v H1 ⟨r1, l1, x, y1, z1, w1, F1⟩ => ?_)
  unfold srtD at F1
  split at F1
  · rename_i z
    cases w1
    split at F1
    · rename_i hc
      refine ⟨z, rfl, hc.1, hc.2, fun p hp => ⟨p, _, rfl, upd_same, ?_, fun p2 hp2 => ?_⟩⟩
      · have := signs_len z
        have h5 : (NS.signs z).length = (NS.adds [] z.cps.toList).length := (NS.ord_perm _).length_eq
        omega
      · have x1 : Ext X.K r1 H1 r1 (upd H1 p (NS.SetS X.prog X.w p (NS.adds [] z.cps.toList))) := Ext.laid hp
        have s1 := z1.laidT (o := NS.SetS X.prog X.w p (NS.adds [] z.cps.toList)) hp
        exact F1.to (x1.trans (Ext.more hp2)) (s1.laid hp2 (RelL.strs _)) (.loc (laid_new s1))
    · exact F1.elim
  · exact F1.elim
/-- a row of texts -/
def strL : List D → Option (List Str)
  | [] => some []
  | .str x :: r => (strL r).map (x :: ·)
  | _ :: _ => none
theorem strL_to {K r H} : ∀ {ds : List D} {vs : List V} {ys : List Str}, RelL K r H ds vs → strL ds = some ys → vs = ys.map V.str
  | _, _, ys, .nil, h => by cases h; rfl
  | _, _, ys, .cons (d := d) (ds := ds) p q, h => by
    cases p with
    | str x =>
      have h' : (strL ds).map (x :: ·) = some ys := h
      cases e : strL ds with
      | none => rw [e] at h'; cases h'
      | some zs =>
        rw [e] at h'
        cases h'
        rw [strL_to q e]
        rfl
    | _ => cases h
def joinD : D → List D → LH → Re D := fun o ds lh => match o, ds with
  | .str a, [d] => match sq lh d with
    | some xs => (match strL xs with | some ys => if (ys.map (·.length)).sum + ys.length * a.length ≤ 16777216 then .ok (.str (Txt.join a ys)) lh else .bad | none => .bad)
    | none => .bad
  | _, _ => .bad
theorem m_join : MtD X "str.join" joinD := by
  refine ⟨_, mt_join, fun E r H lh d ds v vs Q Hh q ql F => ?_⟩
  unfold joinD at F
  split at F
  · cases q
    cases ql with
    | cons p pl =>
      cases pl
      split at F
      · rename_i xs exs
        obtain ⟨a, ws, rfl, h0, rl⟩ := sq_to Hh p exs
        split at F
        · rename_i ys eys
          split at F
          · rename_i hz
            have e := strL_to rl eys
            subst e
            exact ⟨_, a, ys, rfl, rfl, .inl h0, hz, F.ok Hh (.str _)⟩
          · exact F.elim
        · exact F.elim
      · exact F.elim
  · exact F.elim
end
end NL
set_option maxRecDepth 100000
set_option maxHeartbeats 1000000
namespace NL
open PySem PySem.Spec L2
/-- a def of the text at st: its name, its parameters, what it computes, k calls deep -/
structure FnS (P : Program) (w : World) (K : PySem.W.Frag) (mg : Str → Option Value) (base : Heap) (x : Str) (st : Stmt) (ps : List Str) (k : Nat) (m : FM) : Prop where
  ex : ∃ (f : Addr) (fd : FuncData), FnOk P w K mg base (L2.CX P w) k f fd ps (spD K mg ps.length m) ∧ mg x = some (.ref f) ∧ Fun K x x st f fd ∧ Binds K fd ps []
/-- how it stands behind the top -/
structure FnF (K : PySem.W.Frag) (mg : Str → Option Value) (x : Str) (st : Stmt) : Prop where
  ex : ∃ (f : Addr) (fd : FuncData), mg x = some (.ref f) ∧ Fun K x x st f fd
section
variable {P : Program} {w : World} {K : PySem.W.Frag} {mg : Str → Option Value} {base : Heap} {x : Str} {st : Stmt} {N ps : List Str} {k : Nat} {m : SM}
theorem fnOk_of {f : Addr} {fd : FuncData} (F : Fun K x x st f fd) (S : FnScope N ps (defScope st))
    (hb : ∀ (cdv : Value) (A : Around) (outer : List Env) (s : Shared) (H : Hp) (E : XK), Bk k (cxOf (L2.CX P w) P w K mg base N x (defScope st) f cdv A outer s H E) (fun cls d _ H => E cls d H) →
      DSs (cxOf (L2.CX P w) P w K mg base N x (defScope st) f cdv A outer s H E) (fun cls d _ H => E cls d H) (defBody st) m) :
    FnOk P w K mg base (L2.CX P w) (k + 1) f fd ps (spD K mg ps.length (fnM N.length m)) := by
  refine Fun.okX F S (fun vs H Q E h => h.1) fun cdv A outer s H vs Q E hr h => ?_
  exact ⟨_, hb cdv A outer s H E ⟨rfl, takes_of rfl rfl rfl rfl, S.nd, passes_of rfl, hr⟩, spD_to (ps := ps) rfl rfl h⟩
theorem fnS_of (F : FnF K mg x st) (S : FnScope N ps (defScope st))
    (hbi : ∀ (kV doc pm : Value) (an : Option Addr) (cdv ct : Value) (us : List Value), us.length = ps.length → bindArgs (PySem.W.fnOf x x (defArgs st) (defBody st) (defScope st) .none kV doc pm an cdv ct) ⟨us, []⟩ = pure (ps.zip us))
    (hb : ∀ (f : Addr) (cdv : Value) (A : Around) (outer : List Env) (s : Shared) (H : Hp) (E : XK), Bk k (cxOf (L2.CX P w) P w K mg base N x (defScope st) f cdv A outer s H E) (fun cls d _ H => E cls d H) →
      DSs (cxOf (L2.CX P w) P w K mg base N x (defScope st) f cdv A outer s H E) (fun cls d _ H => E cls d H) (defBody st) m) :
    FnS P w K mg base x st ps (k + 1) (fnM N.length m) := by
  obtain ⟨f, fd, hm, F⟩ := F.ex
  exact ⟨f, fd, fnOk_of F S (hb f), hm, F, F.binds hbi⟩
/-- nothing is promised -/
theorem fnS_bad (F : FnF K mg x st)
    (hbi : ∀ (kV doc pm : Value) (an : Option Addr) (cdv ct : Value) (us : List Value), us.length = ps.length → bindArgs (PySem.W.fnOf x x (defArgs st) (defBody st) (defScope st) .none kV doc pm an cdv ct) ⟨us, []⟩ = pure (ps.zip us)) :
    FnS P w K mg base x st ps 0 (fun _ _ => .bad) := by
  obtain ⟨f, fd, hm, F⟩ := F.ex
  refine ⟨f, fd, ⟨fun vs H Q E h => h.1, fun A outer s H args us vs Q E _ _ _ _ h => ?_⟩, hm, F, F.binds hbi⟩
  obtain ⟨_, _, _, _, _, _, z⟩ := h
  exact z.elim
theorem FnS.mono {m : FM} {j : Nat} (F : FnS P w K mg base x st ps j m) (h : j ≤ k) : FnS P w K mg base x st ps k m := by
  obtain ⟨f, fd, h1, h2, h3, h4⟩ := F.ex
  exact ⟨f, fd, h1.mono h, h2, h3, h4⟩
end
section
variable {X : Cx} {W : WX}
theorem de_fn {k n : Nat} {x : Str} {st : Stmt} {ps : List Str} {m : FM} {p pos : Pos} {e : Expr} {es : List Expr} {ma : MA} (o : Bk n X W) (G : FnS X.prog X.w X.K X.mg X.base x st ps k m) (hk : k ≤ n) (ha : DA X W (e :: es) ma) (hl : (e :: es).length = ps.length := by rfl) (hg : Gl X x := by rfl)
    (hdb : (x == ("__debug__" : Str)) = false := by decide) (he : starEach (e :: es) X.env = (false, eval e X.env) :: starEach es X.env := by rfl) (hpl : (backTo pos (starEach es X.env)).any (·.1) = false := by rfl) : DE X W (.Call (.Name x p) (e :: es) [] pos) (apM m ma) := by
  obtain ⟨f, fd, h1, h2, h3, h4⟩ := G.ex
  refine pe_imp (pe_callS (E := WE W) h1 (o.hr.mono hk) hg h2 h3.kp h4 (fun σ => passAt o.tk σ) ha.pa hdb he hpl) fun s H Q ⟨r, e, lh, S, Hh, F⟩ => ?_
  refine tG_of S Hh (FinG.len ha ((FinG.bind (R := RelL X.K) F).imp fun vs H1 ⟨r1, l1, x, y1, z1, w1, F1⟩ hlen => ?_))
  exact ⟨hlen.trans hl, r1, l1, x, z1, w1, F1⟩
/-- f() -/
def apM0 (m : FM) : M := fun _ lh => m [] lh
theorem de_fn0 {k n : Nat} {x : Str} {st : Stmt} {m : FM} {p pos : Pos} (o : Bk n X W) (G : FnS X.prog X.w X.K X.mg X.base x st [] k m) (hk : k ≤ n) (hg : Gl X x := by rfl) (hdb : (x == ("__debug__" : Str)) = false := by decide) : DE X W (.Call (.Name x p) [] [] pos) (apM0 m) := by
  obtain ⟨f, fd, h1, h2, h3, h4⟩ := G.ex
  have hE : ∀ (s : L2.St) (H : Hp) (Q : VK), tG X W (Rel X.K) (apM0 m) s H Q → spD X.K X.mg 0 m [] H Q (WE W s) := fun s H Q ⟨r, e, lh, S, Hh, F⟩ => ⟨rfl, r, lh, [], Hh, .nil, F⟩
  refine ⟨fun pins s σ H Q I h => ?_⟩
  refine wpAny_Call_Name_kw (ld_glob I hg h2 ?_ hdb)
  exact PySem.W.callWith_K0 I.kIn h3.kp (run_fnS (us := []) (E := WE W) h1 (o.hr.mono hk) h4 (passAt o.tk σ) I .nil (hE σ H Q h))
/-! ### keyword arguments -/
structure DK (X : Cx) (W : WX) (kws : List Keyword) (m : MA) : Prop where
  pk : PK X kws (tG X W (RelL X.K) m)
  len : ∀ e lh ds lh', m e lh = .ok ds lh' → ds.length = kws.length
theorem pk_imp {e : List Keyword} {t t' : TA} (h : PK X e t) (i : ∀ s H Q, t' s H Q → t s H Q) : PK X e t' := ⟨fun p pins s σ H Q I w => h.run p pins s σ H Q I (i σ H Q w)⟩
theorem dk_nil : DK X W [] nilA where
  pk := pk_imp pk_nil fun s H Q ⟨r, e, lh, S, Hh, F⟩ => F.ok Hh .nil
  len := fun e lh ds lh' h => by
    have h' : Re.ok ([] : List D) lh = Re.ok ds lh' := h
    cases h'
    rfl
theorem consA_len {ma : M} {mr : MA} {n : Nat} (hr : ∀ e lh ds lh', mr e lh = .ok ds lh' → ds.length = n) : ∀ e lh ds lh', consA ma mr e lh = .ok ds lh' → ds.length = n + 1 := fun e lh ds lh' h => by
  have h' : (ma e lh).bind (fun d l => (mr e l).bind fun ds l2 => Re.ok (d :: ds) l2) = Re.ok ds lh' := h
  cases e1 : ma e lh with
  | ok d l =>
    rw [e1] at h'
    have h' : (mr e l).bind (fun ds l2 => Re.ok (d :: ds) l2) = Re.ok ds lh' := h'
    cases e2 : mr e l with
    | ok es' l2 =>
      rw [e2] at h'
      have h' : Re.ok (d :: es') l2 = Re.ok ds lh' := h'
      cases h'
      rw [List.length_cons, hr _ _ _ _ e2]
    | er x l2 => rw [e2] at h'; cases h'
    | bad => rw [e2] at h'; cases h'
  | er x l => rw [e1] at h'; cases h'
  | bad => rw [e1] at h'; cases h'
theorem dk_cons {nm : Option Str} {e : Expr} {kpos : Pos} {kws : List Keyword} {ma : M} {mr : MA} (ha : DE X W e ma) (hr : DK X W kws mr) : DK X W (⟨nm, e, kpos⟩ :: kws) (consA ma mr) where
  pk := by
    refine pk_imp (pk_cons ha hr.pk) fun s H Q ⟨r, e, lh, S, Hh, F⟩ => ?_
    refine tG_of S Hh ((FinG.bind (R := Rel X.K) F).imp fun v H1 ⟨r1, l1, x, y1, z1, w1, F1⟩ => ?_)
    refine tG_of (S.mono y1) z1 ((FinG.bind (R := RelL X.K) F1).imp fun vs H2 ⟨r2, l2, x2, y2, z2, w2, F2⟩ => ?_)
    exact F2.ok z2 (.cons (w1.mono y2) w2)
  len := consA_len hr.len
/-- places of a list -/
def pick {a : Type} (ix : List Nat) (l : List a) : List a := ix.filterMap fun i => l[i]?
theorem pick_vals {vs : List V} {us : List Value} (h : Vals vs us) : ∀ ix : List Nat, Vals (pick ix vs) (pick ix us)
  | [] => .nil
  | i :: ix => by
    unfold pick
    rw [List.filterMap_cons, List.filterMap_cons]
    cases e : vs[i]? with
    | none => rw [h.none_of e]; exact pick_vals h ix
    | some v =>
      obtain ⟨u, h1, h2⟩ := h.get e
      rw [h1]
      exact .cons h2 (pick_vals h ix)
theorem pick_rel {K r H} {ds : List D} {vs : List V} (h : RelL K r H ds vs) : ∀ ix : List Nat, RelL K r H (pick ix ds) (pick ix vs)
  | [] => .nil
  | i :: ix => by
    unfold pick
    rw [List.filterMap_cons, List.filterMap_cons]
    cases e : ds[i]? with
    | none =>
      have e2 : vs[i]? = none := List.getElem?_eq_none_iff.mpr (by rw [← h.length]; exact List.getElem?_eq_none_iff.mp e)
      rw [e2]
      exact pick_rel h ix
    | some v =>
      obtain ⟨u, h1, h2⟩ := h.get e
      rw [h1]
      exact .cons h2 (pick_rel h ix)
theorem pick_len {a : Type} {l : List a} : ∀ {ix : List Nat}, (∀ i ∈ ix, i < l.length) → (pick ix l).length = ix.length
  | [], _ => rfl
  | i :: ix, h => by
    unfold pick
    rw [List.filterMap_cons, List.getElem?_eq_getElem (h i List.mem_cons_self)]
    exact congrArg Nat.succ (pick_len fun j hj => h j (List.mem_cons_of_mem _ hj))
/-- n1 positional values, then keywords; ix puts them into the parameters' order -/
def kwM (m : FM) (ix : List Nat) (ma mk : MA) : M := fun e lh => (ma e lh).bind fun ds l => (mk e l).bind fun es l2 => m (pick ix (ds ++ es)) l2
theorem run_fnKS {CX : CXT} {k : Nat} {f : Addr} {fd : FuncData} {ps : List Str} {sp : Sp} {E : XK} {pins : List (Addr × Obj)} {σ : L2.St} {H : Hp} {s : Shared} {Q : VK} {us bs : List Value} {kw : List (Str × Value)} {vs : List V} (F : FnOk X.prog X.w X.K X.mg X.base CX k f fd ps sp) (hr : Room k X.A) (hb : BindsTo s fd ⟨us, kw⟩ (ps.zip bs)) (hx : PassesAt CX X σ E)
    (I : L2.Inv X pins σ H s) (r : Vals vs bs) (h : sp vs H Q E) : wpAny (model X.prog X.w) X.A (call (.ref f) us kw) (EP X pins σ Q) X.xe s := by
  refine wpAny_call (codeAny_mono (F.run X.A X.stack s H ⟨us, kw⟩ bs vs Q E hr I.env0 hb r h) fun r s' hq => ?_)
  cases r with
  | error e => exact hx pins H s e s' I hq
  | ok fl =>
    cases fl with
    | ret u => exact I.after hq
    | next => exact False.elim hq
    | brk => exact False.elim hq
    | cont => exact False.elim hq
theorem de_fnK {k n n1 : Nat} {x : Str} {st : Stmt} {ps : List Str} {m : FM} {p pos : Pos} {e : Expr} {es : List Expr} {kws : List Keyword} {ma mk : MA} (ix : List Nat) (ks : List Str) (o : Bk n X W) (G : FnS X.prog X.w X.K X.mg X.base x st ps k m) (hk : k ≤ n) (ha : DA X W (e :: es) ma) (hkw : DK X W kws mk)
    (hbi : ∀ (kV doc pm : Value) (an : Option Addr) (cdv ct : Value) (us ws : List Value), us.length = (e :: es).length → ws.length = kws.length → bindArgs (PySem.W.fnOf x x (defArgs st) (defBody st) (defScope st) .none kV doc pm an cdv ct) ⟨us, ks.zip ws⟩ = pure (ps.zip (pick ix (us ++ ws))))
    (hix : ∀ i ∈ ix, i < (e :: es).length + kws.length := by decide) (hil : ix.length = ps.length := by rfl)
    (hg : Gl X x := by rfl) (hall : (backToKw pos (keywordEach kws X.env)).all (·.1.isSome) = true := by rfl) (hks : (backToKw pos (keywordEach kws X.env)).filterMap (·.1) = ks := by rfl)
    (hdb : (x == ("__debug__" : Str)) = false := by decide) (he : starEach (e :: es) X.env = (false, eval e X.env) :: starEach es X.env := by rfl)
    (hpl : ((backTo pos (starEach (e :: es) X.env)).any (·.1) || (backToKw pos (keywordEach kws X.env)).any (·.1.isNone)) = false := by rfl) :
    DE X W (.Call (.Name x p) (e :: es) kws pos) (kwM m ix ma mk) := by
  obtain ⟨f, fd, h1, h2, h3, h4⟩ := G.ex
  refine ⟨fun pins s σ H Q I ⟨r, ev, lh, S, Hh, F⟩ => ?_⟩
  refine wpAny_Call_Name_kw (ld_glob I hg h2 ?_ hdb)
  refine PySem.W.callWith_KW (h₀ := X.base) I.ok.mod.kin h3.kp hall (thn (ha.pa.run pos pins s σ H _ I (tG_of S Hh (FinG.len ha (Q := fun vs H1 => ∃ r1 l1 ds, Ext X.K r H r1 H1 ∧ SimH X.K r1 H1 l1 ∧ RelL X.K r1 H1 ds vs ∧ vs.length = (e :: es).length ∧ FinG X.K X.mg (fun c dd H' => W c dd σ H') (Rel X.K) r1 H1 Q ((mk ev l1).bind fun es l2 => m (pick ix (ds ++ es)) l2)) ((FinG.bind (R := RelL X.K) F).imp fun vs H1 ⟨r1, l1, x, y1, z1, w1, F1⟩ hlen => ⟨r1, l1, x, y1, z1, w1, hlen, F1⟩)))) fun us s1 ⟨vs, H1, I1, rv, r1, l1, ds, y1, z1, w1, hlen, F1⟩ => ?_) hpl he
  have F1 := FinG.bind (R := RelL X.K) F1
  have hz : ∀ {t : Re (List D)}, (∀ ds l, t = .ok ds l → ds.length = kws.length) → FinG X.K X.mg (fun c dd H' => W c dd σ H') (RelL X.K) r1 H1 (fun v H1_1 => ∃ r1_1 lh1 x, Ext X.K r1 H1 r1_1 H1_1 ∧ SimH X.K r1_1 H1_1 lh1 ∧ RelL X.K r1_1 H1_1 x v ∧ FinG X.K X.mg (fun c dd H' => W c dd σ H') (Rel X.K) r1_1 H1_1 Q (m (pick ix (ds ++ x)) lh1)) t →
      FinG X.K X.mg (fun c dd H' => W c dd σ H') (RelL X.K) r1 H1 (fun zs H2 => zs.length = kws.length ∧ spD X.K X.mg ps.length m (pick ix (vs ++ zs)) H2 Q (WE W σ)) t := by
    intro t ht hF
    cases t with
    | ok es' l =>
      have hl := ht es' l rfl
      intro r' H' zs a b c
      obtain ⟨r2, l2, x2, y2, z2, w2, F2⟩ := hF r' H' zs a b c
      refine ⟨by rw [← c.length]; exact hl, ?_, r2, l2, pick ix (ds ++ x2), z2, pick_rel ((w1.mono y2).app w2) ix, F2⟩
      rw [pick_len, hil]
      intro i hi
      rw [List.length_append, hlen, ← c.length, hl]
      exact hix i hi
    | er x l => exact hF
    | bad => exact hF
  refine thn (hkw.pk.run pos pins s1 σ H1 _ I1 (tG_of (S.mono y1) z1 (hz (fun ds l e => hkw.len _ _ _ _ e) F1))) fun ws s2 ⟨zs, H2, I2, rz, hl2, hsp⟩ => ⟨I2.kIn, ?_⟩
  rw [hks]
  refine run_fnKS h1 (o.hr.mono hk) ?_ (passAt o.tk σ) I2 (pick_vals (rv.append rz) ix) hsp
  obtain ⟨oc, od, kV, doc, pm, an, cdv, ct, osl, rfl, lk, hcd⟩ := h3.ex
  exact .of_eq (hbi kV doc pm an cdv ct us ws (rv.length.symm.trans hlen) (rz.length.symm.trans hl2))
/-- f(k = v, ..) -/
def kwM0 (m : FM) (ix : List Nat) (mk : MA) : M := fun ev lh => (mk ev lh).bind fun es l2 => m (pick ix es) l2
theorem de_fnK0 {k n : Nat} {x : Str} {st : Stmt} {ps : List Str} {m : FM} {p pos : Pos} {kws : List Keyword} {mk : MA} (ix : List Nat) (ks : List Str) (o : Bk n X W) (G : FnS X.prog X.w X.K X.mg X.base x st ps k m) (hk : k ≤ n) (hkw : DK X W kws mk)
    (hbi : ∀ (kV doc pm : Value) (an : Option Addr) (cdv ct : Value) (ws : List Value), ws.length = kws.length → bindArgs (PySem.W.fnOf x x (defArgs st) (defBody st) (defScope st) .none kV doc pm an cdv ct) ⟨[], ks.zip ws⟩ = pure (ps.zip (pick ix ws)))
    (hix : ∀ i ∈ ix, i < kws.length := by decide) (hil : ix.length = ps.length := by rfl)
    (hg : Gl X x := by rfl) (hall : (backToKw pos (keywordEach kws X.env)).all (·.1.isSome) = true := by rfl) (hks : (backToKw pos (keywordEach kws X.env)).filterMap (·.1) = ks := by rfl)
    (hdb : (x == ("__debug__" : Str)) = false := by decide)
    (hpl : ((backTo pos (starEach [] X.env)).any (·.1) || (backToKw pos (keywordEach kws X.env)).any (·.1.isNone)) = false := by rfl) :
    DE X W (.Call (.Name x p) [] kws pos) (kwM0 m ix mk) := by
  obtain ⟨f, fd, h1, h2, h3, h4⟩ := G.ex
  refine ⟨fun pins s σ H Q I ⟨r, ev, lh, S, Hh, F⟩ => ?_⟩
  refine wpAny_Call_Name_kw (ld_glob I hg h2 ?_ hdb)
  have F1 := FinG.bind (R := RelL X.K) F
  have hz : ∀ {t : Re (List D)}, (∀ ds l, t = .ok ds l → ds.length = kws.length) → FinG X.K X.mg (fun c dd H' => W c dd σ H') (RelL X.K) r H (fun v H1_1 => ∃ r1_1 lh1 x, Ext X.K r H r1_1 H1_1 ∧ SimH X.K r1_1 H1_1 lh1 ∧ RelL X.K r1_1 H1_1 x v ∧ FinG X.K X.mg (fun c dd H' => W c dd σ H') (Rel X.K) r1_1 H1_1 Q (m (pick ix x) lh1)) t →
      FinG X.K X.mg (fun c dd H' => W c dd σ H') (RelL X.K) r H (fun zs H2 => zs.length = kws.length ∧ spD X.K X.mg ps.length m (pick ix zs) H2 Q (WE W σ)) t := by
    intro t ht hF
    cases t with
    | ok es' l =>
      have hl := ht es' l rfl
      intro r' H' zs a b c
      obtain ⟨r2, l2, x2, y2, z2, w2, F2⟩ := hF r' H' zs a b c
      refine ⟨by rw [← c.length]; exact hl, ?_, r2, l2, pick ix x2, z2, pick_rel w2 ix, F2⟩
      rw [pick_len, hil]
      intro i hi
      rw [← c.length, hl]
      exact hix i hi
    | er x l => exact hF
    | bad => exact hF
  refine PySem.W.callWith_KW0 (h₀ := X.base) I.ok.mod.kin h3.kp hall (thn (hkw.pk.run pos pins s σ H _ I (tG_of S Hh (hz (fun ds l e => hkw.len _ _ _ _ e) F1))) fun ws s2 ⟨zs, H2, I2, rz, hl2, hsp⟩ => ⟨I2.kIn, ?_⟩) hpl
  rw [hks]
  refine run_fnKS h1 (o.hr.mono hk) ?_ (passAt o.tk σ) I2 (pick_vals rz ix) hsp
  obtain ⟨oc, od, kV, doc, pm, an, cdv, ct, osl, rfl, lk, hcd⟩ := h3.ex
  exact .of_eq (hbi kV doc pm an cdv ct ws (rz.length.symm.trans hl2))
end
/-! ### the law's end -/
def spL (K : PySem.W.Frag) : Sp := fun vs H Q _ => ∃ (a : Addr) (ns : List Int), vs = [.ref a] ∧ FzL K H a (ns.map V.int) ∧ ns.length ≤ 63 ∧ ∀ H', Q (.bl true) H'
theorem ints_rel {K r H} : ∀ ns : List Int, RelL K r H (ns.map D.int) (ns.map V.int)
  | [] => .nil
  | n :: ns => .cons (.int n) (ints_rel ns)
theorem law_sp {K : PySem.W.Frag} {mg : Str → Option Value} {m : FM} (h : ∀ ns : List Int, ns.length ≤ 63 → ∃ lh', m [.fl (ns.map D.int)] [] = .ok (.bl true) lh') (vs : List V) (H : Hp) (Q : VK) (E : XK) (q : spL K vs H Q E) : spD K mg 1 m vs H Q E := by
  obtain ⟨a, ns, rfl, hf, hl, k⟩ := q
  refine ⟨rfl, [], [], [.fl (ns.map D.int)], ⟨rfl, List.nodup_nil, fun n a o h => by simp at h⟩, .cons (.fl hf (ints_rel ns)) .nil, ?_⟩
  obtain ⟨lh', e⟩ := h ns hl
  rw [e]
  intro r' H' v _ _ hv
  cases hv
  exact k H'
end NL
set_option maxRecDepth 100000
set_option maxHeartbeats 1000000
namespace NL
open PySem PySem.Spec L2
theorem fun_inj {K : PySem.W.Frag} {x q : Str} {st : Stmt} {f : Addr} {fd fd' : FuncData} (a : Fun K x q st f fd) (b : Fun K x q st f fd') : fd = fd' := by
  obtain ⟨_, _, _, _, _, _, _, _, _, _, l1, _⟩ := a.ex
  obtain ⟨_, _, _, _, _, _, _, _, _, _, l2, _⟩ := b.ex
  rw [l1] at l2
  injection l2 with l2
  injection l2 with _ _ l2
  injection l2
theorem fnF_mk {K : PySem.W.Frag} {h : Heap} {mg : Str → Option Value} {x : Str} {st : Stmt} {f : Addr} {oc : Value} {od an : Option Addr} {osl : Array (Option Value)} {kV doc pm cdv ct : Value} (X : K.In h) (G : h.Ns mainGlobals mg) (a : PySem.W.nsIn K mainGlobals x = some (some (.ref f)))
    (l : K.lookup f = some ⟨oc, od, .func (PySem.W.fnOf x x (defArgs st) (defBody st) (defScope st) .none kV doc pm an cdv ct), osl⟩) (c : PySem.W.codeIn K cdv x = true) (k : PySem.W.keepIn K (.ref f) = true) : FnF K mg x st :=
  ⟨f, _, PySem.W.mg_of X G a, fun_mk l c k⟩
/-- constants of the module -/
theorem glob_str {K : PySem.W.Frag} {h : Heap} {mg : Str → Option Value} {x s : Str} {t : Tok} (X : K.In h) (G : h.Ns mainGlobals mg) (a : PySem.W.nsIn K mainGlobals x = some (some (.str s t))) : GlobD K mg x (.str s) :=
  ⟨_, .str s, PySem.W.mg_of X G a, ⟨t, rfl⟩, fun _ _ => .str s⟩
theorem glob_int {K : PySem.W.Frag} {h : Heap} {mg : Str → Option Value} {x : Str} {i : Int} {t : Tok} (X : K.In h) (G : h.Ns mainGlobals mg) (a : PySem.W.nsIn K mainGlobals x = some (some (.int i t))) : GlobD K mg x (.int i) :=
  ⟨_, .int i, PySem.W.mg_of X G a, ⟨t, rfl⟩, fun _ _ => .int i⟩
/-- written values as data -/
inductive DV : List D → List Value → Prop
  | nil : DV [] []
  | non {ds vs} : DV ds vs → DV (.non :: ds) (.none :: vs)
  | bl {b ds vs} : DV ds vs → DV (.bl b :: ds) (.bool b :: vs)
  | int {i t ds vs} : DV ds vs → DV (.int i :: ds) (.int i t :: vs)
  | str {s t ds vs} : DV ds vs → DV (.str s :: ds) (.str s t :: vs)
theorem DV.to {K r H} : ∀ {ds : List D} {us : List Value}, DV ds us → ∃ vs, Vals vs us ∧ RelL K r H ds vs
  | _, _, .nil => ⟨[], .nil, .nil⟩
  | _, _, .non h => let ⟨vs, a, b⟩ := h.to; ⟨.non :: vs, .cons rfl a, .cons .non b⟩
  | _, _, .bl h => let ⟨vs, a, b⟩ := h.to; ⟨.bl _ :: vs, .cons rfl a, .cons (.bl _) b⟩
  | _, _, .int h => let ⟨vs, a, b⟩ := h.to; ⟨.int _ :: vs, .cons ⟨_, rfl⟩ a, .cons (.int _) b⟩
  | _, _, .str h => let ⟨vs, a, b⟩ := h.to; ⟨.str _ :: vs, .cons ⟨_, rfl⟩ a, .cons (.str _) b⟩
def DV.vs : List D → List V
  | [] => []
  | .bl b :: r => .bl b :: DV.vs r
  | .int b :: r => .int b :: DV.vs r
  | .str b :: r => .str b :: DV.vs r
  | _ :: r => .non :: DV.vs r
theorem DV.vals : ∀ {ds : List D} {us : List Value}, DV ds us → Vals (DV.vs ds) us
  | _, _, .nil => .nil
  | _, _, .non h => .cons rfl h.vals
  | _, _, .bl h => .cons rfl h.vals
  | _, _, .int h => .cons ⟨_, rfl⟩ h.vals
  | _, _, .str h => .cons ⟨_, rfl⟩ h.vals
theorem DV.rel {K r H} : ∀ {ds : List D} {us : List Value}, DV ds us → RelL K r H ds (DV.vs ds)
  | _, _, .nil => .nil
  | _, _, .non h => .cons .non h.rel
  | _, _, .bl h => .cons (.bl _) h.rel
  | _, _, .int h => .cons (.int _) h.rel
  | _, _, .str h => .cons (.str _) h.rel
theorem glob_tup {K : PySem.W.Frag} {h : Heap} {mg : Str → Option Value} {x : Str} {p : Addr} {dd : Option Addr} {us : List Value} {n : Nat} {sl : Array (Option Value)} {ds : List D} (X : K.In h) (G : h.Ns mainGlobals mg) (a : PySem.W.nsIn K mainGlobals x = some (some (.ref p)))
    (l : K.lookup p = some ⟨.type "tuple", dd, .seq us.toArray n, sl⟩) (q : DV ds us) (hz : ds.length ≤ 1000) : GlobD K mg x (.tup ds) := by
  refine ⟨_, .ref p, PySem.W.mg_of X G a, rfl, fun r H => .tup (.inr ⟨_, us.toArray, n, l, rfl, rfl, ?_, by simpa using q.vals⟩) q.rel⟩
  have e := q.rel (K := K) (r := r) (H := H) |>.length
  have e2 := q.vals.length
  have : us.length ≤ 1000 := by omega
  have := small1000 this
  rw [List.size_toArray]
  omega
/-- the law's end, over what k_head leaves -/
theorem law_walk {l : PySem.W.OpenLaw} {k : Nat} {q : Program} {loose : List Str} {XP : (Str → Option Value) → Heap → Prop} {YP : World → Heap → Prop} {d : DefRec} {K : Params → PySem.W.Frag} {x y : Str} {st : Stmt} {m : FM} {TX : PySem.W.Frag → (Str → Option Value) → Prop}
    (hn : l.most = some 63) (hdf : d.params.defaults = []) (hnm : d.name = y) (hr : Room k callerA) (hY : ∀ (w : World) (h : Heap), YP w h → (K w.params).In h)
    (hbi : ∀ (kV doc pm : Value) (an : Option Addr) (cdv ct : Value) (s : Shared) (u : Value), BindsTo s (PySem.W.fnOf y y (defArgs st) (defBody st) (defScope st) .none kV doc pm an cdv ct) ⟨[u], []⟩ [(x, u)])
    (fF : ∀ {K mg}, TX K mg → FnF K mg y st) (ok : ∀ {P w K mg base}, TX K mg → FnS P w K mg base y st [x] k m)
    (hm : ∀ ns : List Int, ns.length ≤ 63 → ∃ lh', m [.fl (ns.map D.int)] [] = .ok (.bl true) lh')
    (F : ∀ (w : World) (mg : Str → Option Value) (h : Heap), (K w.params).In h → h.Ns mainGlobals mg → TX (K w.params) mg) :
    PySem.W.WalkO q loose XP YP l.row.toRowW d [] (fun f vs => PySem.call f vs) := by
  refine L2.walk_of (n := 63) (k := k) (x := x) (CX := fun w => L2.CX l.prog w) (sp := fun w => spL (K w.params)) hn (by decide) hdf hr hY ?_ ?_ ?_
  · intro w mg fa h KX G hmg
    have T := F w mg h KX G
    obtain ⟨f, fd, h1, h2⟩ := (fF T).ex
    rw [hnm, h1] at hmg
    cases hmg
    refine ⟨fd, fun s u => ?_, fun base _ _ => ?_⟩
    · obtain ⟨oc, od, kV, doc, pm, an, cdv, ct, osl, rfl, lk, hcd⟩ := h2.ex
      exact hbi kV doc pm an cdv ct s u
    · obtain ⟨f', fd', g1, g2, g3, _⟩ := (ok (P := l.prog) (w := w) (base := base) T).ex
      rw [h1] at g2
      cases g2
      rw [fun_inj h2 g3]
      exact g1.imp fun vs H Q E z => law_sp hm vs H Q E z
  · intro w H a ns hl hO hS
    refine ⟨a, ns, rfl, ?_, hl, fun _ => rfl⟩
    rcases hS with (h | h) | h
    · rcases hO a with z | ⟨o, xs, z⟩
      · rw [h] at z; cases z
      · rw [h] at z; cases z
    · exact .inl h
    · exact .inr h
  · rintro w H s e s' ⟨_, _, _, _, _, _, _, _, _, _, _, _, z⟩
    exact z
end NL
set_option maxRecDepth 100000
set_option maxHeartbeats 1000000
/-! Instances: fields, methods, making. -/
namespace NL
open PySem PySem.Spec L2
section
variable {X : Cx} {W : WX}
/-! ### fields -/
def insAt (lh : LH) (d : D) : Option (Addr × List (Str × D)) := match d with
  | .loc n => match lh[n]? with | some (.ins C fs) => some (C, fs) | _ => none
  | _ => none
theorem insAt_to {K r H} {lh : LH} {d : D} {v : V} {C : Addr} {fs : List (Str × D)} (hs : SimH K r H lh) (q : Rel K r H d v) (h : insAt lh d = some (C, fs)) : ∃ n a dx gs, d = .loc n ∧ r[n]? = some a ∧ v = .ref a ∧ H a = some (.ins C dx gs) ∧ RelF K r H fs gs := by
  cases q with
  | @loc n a e =>
    have h' : (match lh[n]? with | some (.ins C fs) => some (C, fs) | _ => none) = some (C, fs) := h
    split at h'
    · rename_i C2 fs2 e2
      cases h'
      obtain ⟨dx, gs, z1, z2⟩ := hs.ob n a _ e e2
      exact ⟨n, a, dx, gs, rfl, e, rfl, z1, z2⟩
    · cases h'
  | _ => cases h
/-- what of a class its fields need -/
structure ClsF (K : PySem.W.Frag) (C : Addr) (f : Str) : Prop where
  c : Cls K C
  n : NoAttr K C f
def fldD (C : Addr) (f : Str) : D → LH → Re D := fun d lh => match insAt lh d with
  | some (C', fs) => if C' = C then (match fs.lookup f with | some z => .ok z lh | none => .bad) else .bad
  | none => .bad
def fldM (C : Addr) (f : Str) (m : M) : M := fun e lh => (m e lh).bind (fldD C f)
theorem de_fld {C : Addr} {e : Expr} {f : Str} {m : M} {pos : Pos} (t : ClsF X.K C f) (h : DE X W e m) (hb : attributeBase e f X.env (eval e X.env) = eval e X.env := by rfl) : DE X W (.Attribute e f pos) (fldM C f m) := by
  refine pe_imp (pe_fld h hb) fun s H Q ⟨r, e, lh, S, Hh, F⟩ => ?_
  refine tG_of S Hh ((FinG.bind (R := Rel X.K) F).imp fun v H1 ⟨r1, l1, x, y1, z1, w1, F1⟩ => ?_)
  unfold fldD at F1
  split at F1
  · rename_i C' fs hi
    split at F1
    · rename_i hC
      subst hC
      obtain ⟨n, a, dx, gs, rfl, hn, rfl, ha, hf⟩ := insAt_to z1 w1 hi
      split at F1
      · rename_i z hz
        obtain ⟨v, hv, rv⟩ := hf.get.1 z hz
        exact ⟨a, _, dx, gs, v, rfl, ha, t.c, t.n, hv, F1.ok z1 rv⟩
      · exact F1.elim
    · exact F1.elim
  · exact F1.elim
/-- fields put, as the model puts them -/
def putD (f : Str) (d : D) : List (Str × D) → List (Str × D)
  | [] => [(f, d)]
  | (g, x) :: r => if g = f then (g, d) :: r else (g, x) :: putD f d r
theorem RelF.put {K r H} {f : Str} {d : D} {v : V} (q : Rel K r H d v) : ∀ {fs : List (Str × D)} {gs : List (Str × V)}, RelF K r H fs gs → RelF K r H (putD f d fs) (putF f v gs)
  | _, _, .nil => .cons q .nil
  | _, _, .cons (x := x) p t => by
    unfold putD putF
    by_cases e : x = f
    · rw [if_pos e, if_pos e]; exact .cons q t
    · rw [if_neg e, if_neg e]; exact .cons p (RelF.put q t)
def stF (C : Addr) (f : Str) (mo mv : M) : SM := fun e lh => toS e (fun d l1 => toS e (fun o l2 => match o, insAt l2 o with
  | .loc n, some (C', fs) => if C' = C ∧ fs.length < 1000 then .nx e (l2.set n (.ins C (putD f d fs))) else .bad
  | _, _ => .bad) (mo e l1)) (mv e lh)
theorem ds_fld {C : Addr} {o e : Expr} {f : Str} {mo mv : M} {pos pos' : Pos} (t : ClsF X.K C f) (ho : DE X W o mo) (hv : DE X W e mv) (hs : swapsWith e (some (.Attribute o f pos')) pos.line X.env = pure false := by rfl) : DS X W (.Assign [.Attribute o f pos'] e pos) (stF C f mo mv) := by
  refine ps_imp (ps_fld ho hv hs) fun T s H ⟨r, e, lh, S, Hh, F⟩ => ?_
  refine tG_of S Hh ((FinS.val S F).imp fun v H1 ⟨r1, l1, d, a, b, c, F1⟩ => ?_)
  refine tG_of (S.mono a) b ((FinS.val (S.mono a) F1).imp fun x H2 ⟨r2, l2, o, a2, b2, c2, F2⟩ => ?_)
  split at F2
  · rename_i n C' fs hi
    split at F2
    · rename_i hC
      obtain ⟨rfl, hl⟩ := hC
      obtain ⟨n', a', dx, gs, en, hn, rfl, ha, hf⟩ := insAt_to b2 c2 hi
      cases en
      refine ⟨a', _, dx, gs, rfl, ha, t.c, t.n, by rw [← hf.len]; exact hl, ?_⟩
      have x : Ext X.K r2 H2 r2 (upd H2 a' (.ins C' dx (putF f v gs))) := Ext.wrO ha trivial
      exact F2 r2 _ s x (((S.mono a).mono a2).mono x) (b2.wrO hn ha trivial ⟨dx, _, upd_same, RelF.put ((c.mono a2).mono x) (hf.mono x)⟩)
    · exact F2.elim
  · exact F2.elim
end
end NL
namespace NL
open PySem PySem.Spec L2
/-! ### defs of a class -/
structure FnC (P : Program) (w : World) (K : PySem.W.Frag) (mg : Str → Option Value) (base : Heap) (C : Addr) (x q : Str) (st : Stmt) (ps : List Str) (k : Nat) (m : FM) : Prop where
  ex : ∃ (f : Addr) (fd : FuncData), FnOk P w K mg base (L2.CX P w) k f fd ps (spD K mg ps.length m) ∧ Meth K C x f ∧ Fun K x q st f fd ∧ Binds K fd ps []
structure FnCF (K : PySem.W.Frag) (C : Addr) (x q : Str) (st : Stmt) : Prop where
  ex : ∃ (f : Addr) (fd : FuncData), Meth K C x f ∧ Fun K x q st f fd
section
variable {P : Program} {w : World} {K : PySem.W.Frag} {mg : Str → Option Value} {base : Heap} {C : Addr} {x q : Str} {st : Stmt} {N ps : List Str} {k : Nat} {m : SM}
theorem fnC_of (F : FnCF K C x q st) (S : FnScope N ps (defScope st))
    (hbi : ∀ (kV doc pm : Value) (an : Option Addr) (cdv ct : Value) (us : List Value), us.length = ps.length → bindArgs (PySem.W.fnOf x q (defArgs st) (defBody st) (defScope st) .none kV doc pm an cdv ct) ⟨us, []⟩ = pure (ps.zip us))
    (hb : ∀ (f : Addr) (cdv : Value) (A : Around) (outer : List Env) (s : Shared) (H : Hp) (E : XK), Bk k (cxOf (L2.CX P w) P w K mg base N q (defScope st) f cdv A outer s H E) (fun cls d _ H => E cls d H) →
      DSs (cxOf (L2.CX P w) P w K mg base N q (defScope st) f cdv A outer s H E) (fun cls d _ H => E cls d H) (defBody st) m) :
    FnC P w K mg base C x q st ps (k + 1) (fnM N.length m) := by
  obtain ⟨f, fd, hm, F⟩ := F.ex
  refine ⟨f, fd, ?_, hm, F, F.binds hbi⟩
  refine Fun.okX F S (fun vs H Q E h => h.1) fun cdv A outer s H vs Q E hr h => ?_
  exact ⟨_, hb f cdv A outer s H E ⟨rfl, takes_of rfl rfl rfl rfl, S.nd, passes_of rfl, hr⟩, spD_to (ps := ps) rfl rfl h⟩
end
section
variable {X : Cx} {W : WX}
/-- o.m(..) -/
def methM (C : Addr) (f : Str) (m : FM) (mo : M) (ma : MA) : M := fun e lh => (mo e lh).bind fun o l1 => match insAt l1 o with
  | some (C', fs) => if C' = C ∧ fs.lookup f = none then (ma e l1).bind fun ds l2 => m (o :: ds) l2 else .bad
  | none => .bad
theorem de_meth {k n : Nat} {C : Addr} {o e : Expr} {es : List Expr} {f q : Str} {st : Stmt} {ps : List Str} {m : FM} {mo : M} {ma : MA} {apos pos : Pos} {pl : Sem Bool} (b : Bk n X W) (c : Cls X.K C) (G : FnC X.prog X.w X.K X.mg X.base C f q st ps k m) (hk : k ≤ n)
    (ho : DE X W o mo) (ha : DA X W (e :: es) ma) (hl : (e :: es).length + 1 = ps.length := by rfl)
    (hst : starEach (e :: es) X.env = (false, eval e X.env) :: starEach es X.env := by rfl) (hpl : (backTo pos (starEach es X.env)).any (·.1) = false := by rfl)
    (ht : eval (.Call (.Attribute o f apos) (e :: es) [] pos) X.env = (do
      let ov ← eval o X.env
      standAt apos.atName
      let (f, first) ← holding [ov] (getMethod ov f pl)
      callWith pos f first (backTo pos (starEach (e :: es) X.env)) (backToKw pos (keywordEach [] X.env))) := by rfl) :
    DE X W (.Call (.Attribute o f apos) (e :: es) [] pos) (methM C f m mo ma) := by
  obtain ⟨g, fd, F, hm, hF, hB⟩ := G.ex
  refine ⟨fun pins s σ H Q I w => ?_⟩
  refine PySem.W.methodCall_KW (pl := pl) (thn (PE.run ho pins s σ H (fun v H1 => ∃ a dx fs, v = .ref a ∧ H1 a = some (.ins C dx fs) ∧ fs.lookup f = none ∧ tG X W (RelL X.K) ma σ H1 fun vs H2 => spD X.K X.mg ps.length m (v :: vs) H2 Q (WE W σ)) I ?_) fun u s1 ⟨x, H1, I1, rx, a, dx, fs, ex, ea, l, q1⟩ => ?_) ht
  · obtain ⟨r, e, lh, S, Hh, F1⟩ := w
    refine tG_of S Hh ((FinG.bind (R := Rel X.K) F1).imp fun v H1 ⟨r1, l1, x, y1, z1, w1, F2⟩ => ?_)
    split at F2
    · rename_i C' fs hi
      split at F2
      · rename_i hC
        obtain ⟨rfl, hnone⟩ := hC
        obtain ⟨j, a, dx, gs, rfl, hn, rfl, hH, hf⟩ := insAt_to z1 w1 hi
        refine ⟨a, dx, gs, rfl, hH, hf.get.2 hnone, ?_⟩
        refine tG_of (S.mono y1) z1 (FinG.len ha ((FinG.bind (R := RelL X.K) F2).imp fun vs H2 ⟨r2, l2, x2, y2, z2, w2, F3⟩ hlen => ?_))
        exact ⟨by rw [List.length_cons, hlen, hl], r2, l2, _, z2, .cons (w1.mono y2) w2, F3⟩
      · exact F2.elim
    · exact F2.elim
  · subst ex
    obtain rfl : u = Value.ref a := rx
    refine getmeth_ok I1 ea c hm l ?_
    refine PySem.W.callWith_K (first := [.ref a]) (h₀ := X.base) I.ok.mod.kin hm.kp (thn (ha.pa.run pos pins s1 σ H1 _ I1 q1) fun us s2 ⟨vs, H2, I2, r, q2⟩ => ⟨I2.kIn, ?_⟩) hst hpl
    exact run_fnS (us := .ref a :: us) (vs := .ref a :: vs) F (b.hr.mono hk) hB (passAt b.tk σ) I2 (.cons rfl r) q2
theorem de_meth0 {k n : Nat} {C : Addr} {o : Expr} {f q : Str} {st : Stmt} {ps : List Str} {m : FM} {mo : M} {apos pos : Pos} {pl : Sem Bool} (b : Bk n X W) (c : Cls X.K C) (G : FnC X.prog X.w X.K X.mg X.base C f q st ps k m) (hk : k ≤ n)
    (ho : DE X W o mo) (hl : 1 = ps.length := by rfl)
    (ht : eval (.Call (.Attribute o f apos) [] [] pos) X.env = (do
      let ov ← eval o X.env
      standAt apos.atName
      let (f, first) ← holding [ov] (getMethod ov f pl)
      callWith pos f first (backTo pos (starEach [] X.env)) (backToKw pos (keywordEach [] X.env))) := by rfl) :
    DE X W (.Call (.Attribute o f apos) [] [] pos) (methM C f m mo nilA) := by
  obtain ⟨g, fd, F, hm, hF, hB⟩ := G.ex
  refine ⟨fun pins s σ H Q I w => ?_⟩
  refine PySem.W.methodCall_KW (pl := pl) (thn (PE.run ho pins s σ H (fun v H1 => ∃ a dx fs, v = .ref a ∧ H1 a = some (.ins C dx fs) ∧ fs.lookup f = none ∧ spD X.K X.mg ps.length m [v] H1 Q (WE W σ)) I ?_) fun u s1 ⟨x, H1, I1, rx, a, dx, fs, ex, ea, l, q1⟩ => ?_) ht
  · obtain ⟨r, e, lh, S, Hh, F1⟩ := w
    refine tG_of S Hh ((FinG.bind (R := Rel X.K) F1).imp fun v H1 ⟨r1, l1, x, y1, z1, w1, F2⟩ => ?_)
    split at F2
    · rename_i C' fs hi
      split at F2
      · rename_i hC
        obtain ⟨rfl, hnone⟩ := hC
        obtain ⟨j, a, dx, gs, rfl, hn, rfl, hH, hf⟩ := insAt_to z1 w1 hi
        exact ⟨a, dx, gs, rfl, hH, hf.get.2 hnone, hl, r1, l1, _, z1, .cons w1 .nil, F2⟩
      · exact F2.elim
    · exact F2.elim
  · subst ex
    obtain rfl : u = Value.ref a := rx
    refine getmeth_ok I1 ea c hm l ?_
    exact PySem.W.callWith_K0 (first := [.ref a]) I1.kIn hm.kp (run_fnS (us := [.ref a]) (vs := [.ref a]) F (b.hr.mono hk) hB (passAt b.tk σ) I1 (.cons rfl .nil) q1)
end
end NL
set_option maxRecDepth 100000
set_option maxHeartbeats 1000000
/-! Making an instance: C(.., *rows, k = v) by __init__(self, *rows, k). -/
namespace NL
open PySem PySem.Spec L2
/-- an __init__ with a star parameter and one keyword: what it computes of self, the row, the keyword -/
def InitA (P : Program) (w : World) (K : PySem.W.Frag) (mg : Str → Option Value) (base : Heap) (k : Nat) (f : Addr) (kn : Str) (m : FM) : Prop :=
  ∀ (A : Around) (outer : List Env) (s : Shared) (H : Hp) (u z : Value) (us : List Value) (v y : V) (vs : List V) (Q : VK) (E : XK), Room k A → Env0 P w K mg base A outer s H → RelV v u → Vals vs us → RelV y z →
    (∃ r lh d ds e, SimH K r H lh ∧ Rel K r H d v ∧ RelL K r H ds vs ∧ Rel K r H e y ∧ ds.length ≤ 1000 ∧ FinG K mg E (Rel K) r H Q (m [d, e, .tup ds] lh)) →
    codeAny (model P w) A (.call (.ref f) ⟨u :: us, [(kn, z)]⟩) (CR (L2.CX P w) outer P w H s Q E) s
section
variable {P : Program} {w : World} {K : PySem.W.Frag} {mg : Str → Option Value} {base : Heap} {x q : Str} {st : Stmt} {N : List Str} {k : Nat} {m : SM} {p0 pv pk : Str}
theorem initA_of {f : Addr} {fd : FuncData} (F : Fun K x q st f fd) (S : FnScope N [p0, pk, pv] (defScope st))
    (hbi : ∀ (kV doc pm : Value) (an : Option Addr) (cdv ct : Value) (u z : Value) (us : List Value), bindArgs (PySem.W.fnOf x q (defArgs st) (defBody st) (defScope st) .none kV doc pm an cdv ct) ⟨u :: us, [(pk, z)]⟩ = (newTuple us >>= fun t => pure [(p0, u), (pk, z), (pv, t)]))
    (hb : ∀ (f : Addr) (cdv : Value) (A : Around) (outer : List Env) (s : Shared) (H : Hp) (E : XK), Bk k (cxOf (L2.CX P w) P w K mg base N q (defScope st) f cdv A outer s H E) (fun cls d _ H => E cls d H) →
      DSs (cxOf (L2.CX P w) P w K mg base N q (defScope st) f cdv A outer s H E) (fun cls d _ H => E cls d H) (defBody st) m) :
    InitA P w K mg base (k + 1) f pk (fnM N.length m) := by
  obtain ⟨oc, od, kV, doc, pm, an, cdv, ct, osl, rfl, lk, hcd⟩ := F.ex
  intro A outer s H u z us v y vs Q E hr e0 r1 r2 r3 hw
  obtain ⟨r, lh, d, ds, e, Hh, q1, q2, q3, hz, F0⟩ := hw
  have hn : H s.heap.objs.size = none := e0.hok.fresh (Nat.le_refl _)
  have hz2 : vs.length ≤ sizeLine := by rw [← q2.length]; exact Nat.le_of_lt (small1000 (by omega))
  have hz3 : us.length ≤ sizeLine := by rw [← r2.length]; exact hz2
  refine StX.run_bnd lk hcd S hr e0 (G := fun xs H2 => ∃ p, H p = none ∧ xs = [v, y, V.ref p] ∧ H2 = upd H p (.tup vs)) (fun A' Ex Q' h => ?_) fun s2 H2 xs ⟨p, hp, ex, eH⟩ hr' => ?_
  · rw [hbi]
    apply wpAny_bind
    refine wpAny_newTuple ?_ hz3
    apply wpAny_pure
    have new : ObjOk P w (upd H s.heap.objs.size (.tup vs)) (s.heap.push ({ cls := .type "tuple", data := .seq us.toArray } : Obj)) s.heap.objs.size (.tup vs) := ⟨hz2, us, r2, ⟨_, Heap.get?_push_size _ rfl, rfl, _, rfl⟩⟩
    have un := StX.un_laid (fs := frs outer) (s := s) (o := ({ cls := .type "tuple", data := .seq us.toArray } : Obj)) (u := .tup vs) hn
    exact h _ _ [v, y, V.ref s.heap.objs.size] [u, z, Value.ref s.heap.objs.size] (StX.env0_laid e0 new) un rfl (fun e s' => StX.cxUp outer s H _ _ E e s' un (fun b o q => Heap.get?_push_of_some _ q) rfl) (.cons r1 (.cons r3 (.cons rfl .nil))) rfl ⟨_, hn, rfl, rfl⟩
  · subst ex eH
    refine ⟨_, hb f cdv A outer s2 _ E ⟨rfl, takes_of rfl rfl rfl rfl, S.nd, passes_of rfl, hr'⟩, ?_⟩
    have xx : Ext K r H r (upd H p (.tup vs)) := Ext.laid hp
    have spd : spD K mg [p0, pk, pv].length (fnM N.length m) [v, y, V.ref p] (upd H p (.tup vs)) Q E :=
      ⟨rfl, r, lh, [d, e, .tup ds], Hh.laidT hp, .cons (q1.mono xx) (.cons (q3.mono xx) (.cons (.tup (.of upd_same) (q2.mono xx)) .nil)), FinG.mono xx F0⟩
    exact spD_to (ps := [p0, pk, pv]) rfl rfl spd
end

section
variable {X : Cx} {W : WX}
/-- an instance, when its __init__ is through -/
def mkR (n : Nat) : Re D → Re D | .ok .non l => .ok (.loc n) l | .er x l => .er x l | _ => .bad
theorem FinG.made {E : XK} {r : List Addr} {H : Hp} {Q : VK} {n : Nat} {a : Addr} (hn : r[n]? = some a) : ∀ {t : Re D}, FinG X.K X.mg E (Rel X.K) r H Q (mkR n t) → FinG X.K X.mg E (Rel X.K) r H (fun v H2 => v = .non ∧ Q (.ref a) H2) t
  | .ok .non l, h => fun r' H' v x s q => by
    cases q
    exact ⟨rfl, h r' H' (.ref a) x s (.loc (x.pre _ _ hn))⟩
  | .ok (.bl _) l, h => h.elim
  | .ok (.int _) l, h => h.elim
  | .ok (.str _) l, h => h.elim
  | .ok (.tup _) l, h => h.elim
  | .ok (.loc _) l, h => h.elim
  | .ok (.raw _) l, h => h.elim
  | .ok (.fl _) l, h => h.elim
  | .er x l, h => h
  | .bad, h => h
theorem run_makeA {k : Nat} {C f : Addr} {kn : Str} {m : FM} {pins : List (Addr × Obj)} {σ : L2.St} {H : Hp} {s : Shared} {Q : VK} {us : List Value} {vs : List V} {y : V} {z : Value} {r : List Addr} {lh : LH} {ds : List D} {e : D}
    (M : Mk X.K C f) (F : InitA X.prog X.w X.K X.mg X.base k f kn m) (hr : Room (k + 1) X.A) (tk : Takes X W) (I : Inv X pins σ H s) (rv : Vals vs us) (ry : RelV y z) (Hh : SimH X.K r H lh) (q2 : RelL X.K r H ds vs) (q3 : Rel X.K r H e y) (hz : ds.length ≤ 1000)
    (h : FinG X.K X.mg (WE W σ) (Rel X.K) r H Q (mkR lh.length (m [.loc lh.length, e, .tup ds] (lh ++ [.ins C []])))) :
    wpAny (model X.prog X.w) X.A (call (.ref C) us [(kn, z)]) (EP X pins σ Q) X.xe s := by
  have I2 := Inv.made (C := C) I
  have hn1 : H s.heap.objs.size = none := I.hok.fresh (Nat.le_refl _)
  have hn2 : H (s.heap.objs.size + 1) = none := I.hok.fresh (Nat.le_succ _)
  have ne : s.heap.objs.size ≠ s.heap.objs.size + 1 := Nat.ne_of_lt (Nat.lt_succ_self _)
  have hn3 : (upd H s.heap.objs.size (.own (s.heap.objs.size + 1))) (s.heap.objs.size + 1) = none := by rw [upd_ne (Ne.symm ne)]; exact hn2
  have x1 : Ext X.K r H r (upd H s.heap.objs.size (.own (s.heap.objs.size + 1))) := Ext.laid hn1
  have s1 := Hh.laidT (o := .own (s.heap.objs.size + 1)) hn1
  have x2 : Ext X.K r (upd H s.heap.objs.size (.own (s.heap.objs.size + 1))) (r ++ [s.heap.objs.size + 1]) (upd (upd H s.heap.objs.size (.own (s.heap.objs.size + 1))) (s.heap.objs.size + 1) (.ins C s.heap.objs.size [])) := Ext.more hn3
  have s2 := s1.laidO (ob := .ins C []) hn3 ⟨s.heap.objs.size, [], upd_same, .nil⟩
  have xx := x1.trans x2
  have hloc : (r ++ [s.heap.objs.size + 1])[lh.length]? = some (s.heap.objs.size + 1) := laid_new s1
  have run := F (X.A.under (.builtin "type.__call__" ⟨.ref C :: us, [(kn, z)]⟩)) X.stack _ _ (Value.ref (s.heap.objs.size + 1)) z us (V.ref (s.heap.objs.size + 1)) y vs (fun v H2 => v = .non ∧ Q (.ref (s.heap.objs.size + 1)) H2) (WE W σ) (hr.make C us [(kn, z)]) (I2.env0.make C us [(kn, z)]) rfl rv ry
    ⟨_, _, .loc lh.length, ds, e, s2, .loc hloc, q2.mono xx, q3.mono xx, hz, FinG.made hloc (FinG.mono xx h)⟩
  refine wpAny_call (make_map (f := f) I.kIn M.makes M.init (beq_iff_eq.mp M.fn) (codeAny_mono run fun r s' hq' => ?_))
  cases r with
  | error e => exact passAt tk σ pins _ _ e s' I2 hq'
  | ok fl =>
    cases fl with
    | ret u =>
      obtain ⟨v, H', I3, rv, ev, q3⟩ := I2.after hq'
      subst ev
      exact ⟨rv, ⟨V.ref (s.heap.objs.size + 1), H', I3, rfl, q3⟩⟩
    | next => exact False.elim hq'
    | brk => exact False.elim hq'
    | cont => exact False.elim hq'
/-- C(.., k = v) -/
def mkM (C : Addr) (m : FM) (ma mk : MA) : M := fun e lh => (ma e lh).bind fun ds l => (mk e l).bind fun es l2 => match es with
  | [v] => if ds.length ≤ 1000 then mkR l2.length (m [.loc l2.length, v, .tup ds] (l2 ++ [.ins C []])) else .bad
  | _ => .bad
theorem de_mkK {k n : Nat} {C f : Addr} {x kn : Str} {m : FM} {p pos kp : Pos} {e v : Expr} {es : List Expr} {ma mk : MA} (b : Bk n X W) (M : Mk X.K C f) (F : InitA X.prog X.w X.K X.mg X.base k f kn m) (hk : k + 1 ≤ n) (hm : X.mg x = some (.ref C))
    (ha : DA X W (e :: es) ma) (hv : DK X W [⟨some kn, v, kp⟩] mk) (hg : Gl X x := by rfl) (hall : (backToKw pos (keywordEach [⟨some kn, v, kp⟩] X.env)).all (·.1.isSome) = true := by rfl) (hks : (backToKw pos (keywordEach [⟨some kn, v, kp⟩] X.env)).filterMap (·.1) = [kn] := by rfl)
    (hdb : (x == ("__debug__" : Str)) = false := by decide) (he : starEach (e :: es) X.env = (false, eval e X.env) :: starEach es X.env := by rfl)
    (hpl : ((backTo pos (starEach (e :: es) X.env)).any (·.1) || (backToKw pos (keywordEach [⟨some kn, v, kp⟩] X.env)).any (·.1.isNone)) = false := by rfl) :
    DE X W (.Call (.Name x p) (e :: es) [⟨some kn, v, kp⟩] pos) (mkM C m ma mk) := by
  refine ⟨fun pins s σ H Q I w => ?_⟩
  obtain ⟨r, e0, lh, S, Hh, F1⟩ := w
  refine wpAny_Call_Name_kw (ld_glob I hg hm ?_ hdb)
  refine PySem.W.callWith_KW (h₀ := X.base) I.ok.mod.kin M.kp hall ?_ hpl he
  refine thn (ha.pa.run pos pins s σ H (fun vs H1 => tG X W (RelL X.K) mk σ H1 fun zs H2 => ∃ (y : V), zs = [y] ∧ ∃ r lh ds e, SimH X.K r H2 lh ∧ RelL X.K r H2 ds vs ∧ Rel X.K r H2 e y ∧ ds.length ≤ 1000 ∧ FinG X.K X.mg (WE W σ) (Rel X.K) r H2 Q (mkR lh.length (m [.loc lh.length, e, .tup ds] (lh ++ [.ins C []])))) I ?_) fun us s1 ⟨vs, H1, I1, rv, q⟩ => ?_
  · refine tG_of S Hh ((FinG.bind (R := RelL X.K) F1).imp fun vs H1 ⟨r1, l1, ds, y1, z1, w1, F2⟩ => ?_)
    refine tG_of (S.mono y1) z1 ((FinG.bind (R := RelL X.K) F2).imp fun zs H2 ⟨r2, l2, es, y2, z2, w2, F3⟩ => ?_)
    split at F3
    · rename_i v0
      cases w2 with
      | cons a b =>
        cases b
        split at F3
        · rename_i hz
          exact ⟨_, rfl, r2, l2, ds, v0, z2, w1.mono y2, a, hz, F3⟩
        · exact F3.elim
    · exact F3.elim
  · refine thn (hv.pk.run pos pins s1 σ H1 _ I1 q) fun ws s2 ⟨zs, H2, I2, rz, y, ez, r2, l2, ds, e2, Hh2, q2, q3, hz, F4⟩ => ⟨I2.kIn, ?_⟩
    subst ez
    obtain ⟨z, rfl, rzz⟩ : ∃ z, ws = [z] ∧ RelV y z := by
      cases rz with
      | cons a b => cases b; exact ⟨_, rfl, a⟩
    rw [hks]
    exact run_makeA M F (b.hr.mono hk) b.tk I2 rv rzz Hh2 q2 q3 hz F4
end
end NL
set_option maxRecDepth 100000
set_option maxHeartbeats 1000000
/-! More built-ins: str, f-strings, split, partition, sum, sorted of ints, clear, extend, insert; what is never reached. -/
namespace NL
open PySem PySem.Spec L2
section
variable {X : Cx} {W : WX}
/-! ### never reached -/
def badS : SM := fun _ _ => .bad
def badM : M := fun _ _ => .bad
theorem ds_bad {st : Stmt} : DS X W st badS := ⟨fun pins s σ H D I ⟨r, e, lh, S, Hh, F⟩ => (show False from F).elim⟩
theorem de_bad {e : Expr} : DE X W e badM := ⟨fun pins s σ H Q I ⟨r, e, lh, S, Hh, F⟩ => (show False from F).elim⟩
/-! ### str(x) -/
def strD : List D → LH → Re D := fun ds lh => match ds with
  | [.int i] => if i.natAbs.log2 < 1920 then .ok (.str (toString i)) lh else .bad
  | [.str x] => .ok (.str x) lh
  | _ => .bad
theorem CallR.orr {f : Value} {r r' : List V → Hp → VK → Prop} (h : CallR X f r) (h' : CallR X f r') : CallR X f fun xs H Q => r xs H Q ∨ r' xs H Q :=
  fun pins s σ H xs us Q I z w => w.elim (h pins s σ H xs us Q I z) (h' pins s σ H xs us Q I z)
theorem c_str : CallD X (.type "str") strD := by
  refine ⟨_, CallR.orr call_str_int SkE.call_str_str, fun E r H lh ds vs Q Hh ra F => ?_⟩
  unfold strD at F
  split at F
  · rename_i i
    cases ra with
    | cons a b =>
      cases a
      cases b
      split at F
      · rename_i h
        exact .inl ⟨i, rfl, h, F.ok Hh (.str _)⟩
      · exact F.elim
  · cases ra with
    | cons a b =>
      cases a
      cases b
      exact .inr ⟨_, rfl, F.ok Hh (.str _)⟩
  · exact F.elim
/-! ### f-strings -/
def fmD : D → LH → Re D := fun d lh => match d with
  | .str y => if y.length ≤ sizeLine then .ok (.str y) lh else .bad
  | .int i => if i.natAbs.log2 < 1920 then .ok (.str (toString i)) lh else .bad
  | _ => .bad
def fmM (m : M) : M := fun e lh => (m e lh).bind fmD
theorem de_fm {e : Expr} {m : M} {pos : Pos} (h : DE X W e m) : DE X W (.FormattedValue e (-1) none pos) (fmM m) := by
  refine pe_imp (pe_fmt h) fun s H Q ⟨r, e, lh, S, Hh, F⟩ => ?_
  refine tG_of S Hh ((FinG.bind (R := Rel X.K) F).imp fun v H1 ⟨r1, l1, x, y1, z1, w1, F1⟩ => ?_)
  unfold fmD at F1
  split at F1
  · cases w1
    split at F1
    · rename_i h
      exact .inl ⟨_, rfl, h, F1.ok z1 (.str _)⟩
    · exact F1.elim
  · cases w1
    split at F1
    · rename_i h
      exact .inr ⟨_, rfl, h, F1.ok z1 (.str _)⟩
    · exact F1.elim
  · exact F1.elim
inductive DJ (X : Cx) (W : WX) : List Expr → List M → Prop
  | nil : DJ X W [] []
  | cons {e : Expr} {m : M} {es : List Expr} {ms : List M} : DE X W e m → DJ X W es ms → DJ X W (e :: es) (m :: ms)
def jsG : List M → Str → LE → LH → Re D
  | [], acc => fun _ lh => .ok (.str acc) lh
  | m :: ms, acc => fun e lh => (m e lh).bind fun d l => match d with
    | .str y => if (acc ++ y).length ≤ sizeLine then jsG ms (acc ++ y) e l else .bad
    | _ => .bad
def jsM (ms : List M) : M := jsG ms Str.empty
theorem dj_to : ∀ {es : List Expr} {ms : List M}, DJ X W es ms → ∃ ts, PJ X es ts ∧ ∀ acc s H Q, tG X W (Rel X.K) (jsG ms acc) s H Q → tJs ts acc s H fun out H1 => Q (.str out) H1
  | _, _, .nil => ⟨[], .nil, fun acc s H Q ⟨r, e, lh, S, Hh, F⟩ => F.ok Hh (.str _)⟩
  | _, _, .cons (m := m) h t => by
    obtain ⟨ts, a, b⟩ := dj_to t
    refine ⟨_, .cons h a, fun acc s H Q ⟨r, e, lh, S, Hh, F⟩ => ?_⟩
    refine tG_of S Hh ((FinG.bind (R := Rel X.K) F).imp fun v H1 ⟨r1, l1, x, y1, z1, w1, F1⟩ => ?_)
    split at F1
    · cases w1
      split at F1
      · rename_i y hz
        exact ⟨_, rfl, hz, b _ s H1 Q ⟨r1, e, l1, S.mono y1, z1, F1⟩⟩
      · exact F1.elim
    · exact F1.elim
theorem de_js {v1 v2 : Expr} {rest : List Expr} {ms : List M} {pos : Pos} (h : DJ X W (v1 :: v2 :: rest) ms) : DE X W (.JoinedStr (v1 :: v2 :: rest) pos) (jsM ms) := by
  obtain ⟨ts, a, b⟩ := dj_to h
  exact pe_imp (pe_joined a) fun s H Q w => b _ s H Q w
/-! ### split, partition -/
def splitD : D → List D → LH → Re D := fun o ds lh => match o, ds with
  | .str a, [.str b] => if (b.length == 0) = false ∧ a.length + 2 ≤ sizeLine then .ok (.loc lh.length) (lh ++ [.lst ((Txt.split a b).map D.str)]) else .bad
  | _, _ => .bad
theorem m_split : MtD X "str.split" splitD := by
  refine ⟨_, mt_split, fun E r H lh d ds v vs Q Hh q ql F => ?_⟩
  unfold splitD at F
  split at F
  · cases q
    cases ql with
    | cons p pl =>
      cases p
      cases pl
      split at F
      · rename_i h
        exact ⟨_, _, rfl, rfl, h.1, h.2, fun p hp => F.to (Ext.more hp) (Hh.laid hp (RelL.strs _)) (.loc (laid_new Hh))⟩
      · exact F.elim
  · exact F.elim
def partD : D → List D → LH → Re D := fun o ds lh => match o, ds with
  | .str a, [.str b] => if (b.length == 0) = false ∧ a.length ≤ sizeLine then .ok (.tup [.str (Txt.partition a b).1, .str (Txt.partition a b).2.1, .str (Txt.partition a b).2.2]) lh else .bad
  | _, _ => .bad
theorem m_partition : MtD X "str.partition" partD := by
  refine ⟨_, mt_partition, fun E r H lh d ds v vs Q Hh q ql F => ?_⟩
  unfold partD at F
  split at F
  · cases q
    cases ql with
    | cons p pl =>
      cases p
      cases pl
      split at F
      · rename_i h
        exact ⟨_, _, rfl, rfl, h.1, h.2, fun p hp => F.to (Ext.laid hp) (Hh.laidT hp) (.tup (.of upd_same) (.cons (.str _) (.cons (.str _) (.cons (.str _) .nil))))⟩
      · exact F.elim
  · exact F.elim
/-! ### sum, sorted of ints -/
def intL : List D → Option (List Int)
  | [] => some []
  | .int x :: r => (intL r).map (x :: ·)
  | _ :: _ => none
theorem intL_to {K r H} : ∀ {ds : List D} {vs : List V} {ys : List Int}, RelL K r H ds vs → intL ds = some ys → vs = ys.map V.int
  | _, _, ys, .nil, h => by cases h; rfl
  | _, _, ys, .cons (d := d) (ds := ds) p q, h => by
    cases p with
    | int x =>
      have h' : (intL ds).map (x :: ·) = some ys := h
      cases e : intL ds with
      | none => rw [e] at h'; cases h'
      | some zs =>
        rw [e] at h'
        cases h'
        rw [intL_to q e]
        rfl
    | _ => cases h
theorem RelL.ints {K r H} : ∀ ys : List Int, RelL K r H (ys.map D.int) (ys.map V.int)
  | [] => .nil
  | y :: r => .cons (.int y) (RelL.ints r)
def sumD : List D → LH → Re D := fun ds lh => match ds with
  | [d] => match sq lh d with | some xs => (match intL xs with | some ns => .ok (.int ns.sum) lh | none => .bad) | none => .bad
  | _ => .bad
theorem c_sum {k : Nat} (o : Bk k X W) : CallD X (.builtin "sum") sumD := by
  refine ⟨_, cr_sum o.calm, fun E r H lh ds vs Q Hh ra F => ?_⟩
  unfold sumD at F
  split at F
  · cases ra with
    | cons p pl =>
      cases pl
      split at F
      · rename_i xs exs
        obtain ⟨a, ws, rfl, h0, rl⟩ := sq_to Hh p exs
        split at F
        · rename_i ns ens
          have e := intL_to rl ens
          subst e
          exact ⟨a, ns, rfl, h0, F.ok Hh (.int _)⟩
        · exact F.elim
      · exact F.elim
  · exact F.elim
def insI (x : Int) : List Int → List Int
  | [] => [x]
  | y :: r => if y < x then y :: insI x r else x :: y :: r
def ordI (l : List Int) : List Int := l.foldr insI []
theorem insI_perm (x : Int) : ∀ l, (insI x l).Perm (x :: l)
  | [] => .refl _
  | y :: r => by
    unfold insI
    split
    · exact ((insI_perm x r).cons y).trans (List.Perm.swap ..)
    · exact .refl _
theorem insI_pw (x : Int) : ∀ l, l.Pairwise (· ≤ ·) → (insI x l).Pairwise (· ≤ ·)
  | [], _ => List.pairwise_singleton _ _
  | y :: r, h => by
    obtain ⟨h1, h2⟩ := List.pairwise_cons.mp h
    unfold insI
    split
    · rename_i q
      refine List.pairwise_cons.mpr ⟨fun z hz => ?_, insI_pw x r h2⟩
      rcases List.mem_cons.mp ((insI_perm x r).mem_iff.mp hz) with rfl | hz
      · omega
      · exact h1 z hz
    · rename_i q
      refine List.pairwise_cons.mpr ⟨fun z hz => ?_, h⟩
      rcases List.mem_cons.mp hz with rfl | hz
      · omega
      · have := h1 z hz
        omega
theorem ordI_perm : ∀ l, (ordI l).Perm l
  | [] => .refl _
  | x :: r => (insI_perm x _).trans ((ordI_perm r).cons x)
theorem ordI_pw : ∀ l, (ordI l).Pairwise (· ≤ ·)
  | [] => List.Pairwise.nil
  | x :: r => insI_pw x _ (ordI_pw r)
def sortD : List D → LH → Re D := fun ds lh => match ds with
  | [d] => match sq lh d with | some xs => (match intL xs with | some ns => .ok (.loc lh.length) (lh ++ [.lst ((ordI ns).map D.int)]) | none => .bad) | none => .bad
  | _ => .bad
theorem c_sort : CallD X (.builtin "sorted") sortD := by
  refine ⟨_, cr_sortedI, fun E r H lh ds vs Q Hh ra F => ?_⟩
  unfold sortD at F
  split at F
  · cases ra with
    | cons p pl =>
      cases pl
      split at F
      · rename_i xs exs
        obtain ⟨a, ws, rfl, h0, rl⟩ := sq_to Hh p exs
        split at F
        · rename_i ns ens
          have e := intL_to rl ens
          subst e
          refine ⟨a, ns, rfl, h0, fun ns' p hp hpw hn => ?_⟩
          have e : ns' = ordI ns := List.Perm.eq_of_pairwise (le := fun a b : Int => a ≤ b) (fun a b _ _ h1 h2 => by omega) hpw (ordI_pw ns) (hp.trans (ordI_perm ns).symm)
          subst e
          exact F.to (Ext.more hn) (Hh.laid hn (RelL.ints _)) (.loc (laid_new Hh))
        · exact F.elim
      · exact F.elim
  · exact F.elim
/-! ### clear, extend -/
def clearD : D → List D → LH → Re D := fun o ds lh => match o, ds with
  | .loc n, [] => match lh[n]? with | some (.lst _) => .ok .non (lh.set n (.lst [])) | _ => .bad
  | _, _ => .bad
theorem m_clear : MtD X "list.clear" clearD := by
  refine ⟨_, mt_clear, fun E r H lh d ds v vs Q Hh q ql F => ?_⟩
  unfold clearD at F
  split at F
  · cases q with
    | loc e =>
      cases ql
      split at F
      · rename_i xs exs
        obtain ⟨us, h0, qs⟩ := Hh.get e exs
        exact ⟨_, us, rfl, rfl, h0, F.to (Ext.wr h0) (Hh.wr e h0 .nil) .non⟩
      · exact F.elim
  · exact F.elim
def extD : D → List D → LH → Re D := fun o ds lh => match o, ds with
  | .loc n, [.loc m] => match lh[n]?, lh[m]? with
    | some (.lst xs), some (.lst ys) => if xs.length + ys.length ≤ sizeLine then .ok .non (lh.set n (.lst (xs ++ ys))) else .bad
    | _, _ => .bad
  | _, _ => .bad
theorem m_extend : MtD X "list.extend" extD := by
  refine ⟨_, mt_extend, fun E r H lh d ds v vs Q Hh q ql F => ?_⟩
  unfold extD at F
  split at F
  · cases q with
    | loc e =>
      cases ql with
      | cons p pl =>
        cases p with
        | loc e2 =>
          cases pl
          split at F
          · rename_i xs ys exs eys
            obtain ⟨us, h0, qs⟩ := Hh.get e exs
            obtain ⟨ws, h1, qt⟩ := Hh.get e2 eys
            split at F
            · rename_i hl
              exact ⟨_, _, us, ws, rfl, rfl, h0, h1, by rw [← qs.length, ← qt.length]; exact hl, F.to (Ext.wr h0) (Hh.wr e h0 (qs.app qt)) .non⟩
            · exact F.elim
          · exact F.elim
  · exact F.elim
end
end NL
set_option maxRecDepth 100000
set_option maxHeartbeats 1000000
/-! Properties of an own class. -/
namespace NL
open PySem PySem.Spec L2
def noX {a : Type} : Re a → Re a | .er _ _ => .bad | t => t
theorem FinG.noX {K : PySem.W.Frag} {mg : Str → Option Value} {W W' : XK} {a b : Type} {R : List Addr → Hp → a → b → Prop} {r : List Addr} {H : Hp} {Q : b → Hp → Prop} : ∀ {t : Re a}, FinG K mg W R r H Q (noX t) → FinG K mg W' R r H Q t
  | .ok d l, h => h
  | .er _ _, h => h.elim
  | .bad, h => h
def E0 : XK := fun _ _ _ => False
theorem passes0 {X : Cx} : Passes (L2.CX X.prog X.w) X.nox E0 := fun pins σ H s e s' I h => by
  obtain ⟨_, _, _, _, _, _, _, _, _, _, _, _, hf⟩ := h
  exact hf.elim
/-- a property: its getter is the def at st -/
structure FnP (P : Program) (w : World) (K : PySem.W.Frag) (mg : Str → Option Value) (base : Heap) (C : Addr) (x q : Str) (st : Stmt) (k : Nat) (m : FM) : Prop where
  ex : ∃ (p f : Addr) (fd : FuncData) (self : Str), FnOk P w K mg base (L2.CX P w) k f fd [self] (spD K mg 1 m) ∧ PropOf K C x p f ∧ Binds K fd [self] []
structure FnPF (K : PySem.W.Frag) (C : Addr) (x q : Str) (st : Stmt) : Prop where
  ex : ∃ (p f : Addr) (fd : FuncData), PropOf K C x p f ∧ Fun K x q st f fd
section
variable {P : Program} {w : World} {K : PySem.W.Frag} {mg : Str → Option Value} {base : Heap} {C : Addr} {x q self : Str} {st : Stmt} {N : List Str} {k : Nat} {m : SM}
theorem fnP_of (F : FnPF K C x q st) (S : FnScope N [self] (defScope st))
    (hbi : ∀ (kV doc pm : Value) (an : Option Addr) (cdv ct : Value) (us : List Value), us.length = [self].length → bindArgs (PySem.W.fnOf x q (defArgs st) (defBody st) (defScope st) .none kV doc pm an cdv ct) ⟨us, []⟩ = pure ([self].zip us))
    (hb : ∀ (f : Addr) (cdv : Value) (A : Around) (outer : List Env) (s : Shared) (H : Hp) (E : XK), Bk k (cxOf (L2.CX P w) P w K mg base N q (defScope st) f cdv A outer s H E) (fun cls d _ H => E cls d H) →
      DSs (cxOf (L2.CX P w) P w K mg base N q (defScope st) f cdv A outer s H E) (fun cls d _ H => E cls d H) (defBody st) m) :
    FnP P w K mg base C x q st (k + 1) (fnM N.length m) := by
  obtain ⟨p, f, fd, hp, F⟩ := F.ex
  refine ⟨p, f, fd, self, ?_, hp, F.binds hbi⟩
  refine Fun.okX F S (fun vs H Q E h => h.1) fun cdv A outer s H vs Q E hr h => ?_
  exact ⟨_, hb f cdv A outer s H E ⟨rfl, takes_of rfl rfl rfl rfl, S.nd, passes_of rfl, hr⟩, spD_to (ps := [self]) rfl rfl h⟩
end
section
variable {X : Cx} {W : WX}
def propM (C : Addr) (m : FM) (mo : M) : M := fun e lh => (mo e lh).bind fun o l1 => match insAt l1 o with
  | some (C', _) => if C' = C then noX (m [o] l1) else .bad
  | none => .bad
theorem de_prop {k n : Nat} {C : Addr} {o : Expr} {f q : Str} {st : Stmt} {m : FM} {mo : M} {pos : Pos} (b : Bk n X W) (c : Cls X.K C) (G : FnP X.prog X.w X.K X.mg X.base C f q st k m) (hk : k + 1 ≤ n)
    (ho : DE X W o mo) (hab : attributeBase o f X.env (eval o X.env) = eval o X.env := by rfl) : DE X W (.Attribute o f pos) (propM C m mo) := by
  obtain ⟨p, g, fd, self, F, hp, hB⟩ := G.ex
  refine pe_imp (pe_prop (E := E0) (dvs := []) (ds := []) ho c hp F (b.hr.mono hk) hB .nil passes0 hab) fun s H Q ⟨r, e, lh, S, Hh, F1⟩ => ?_
  refine tG_of S Hh ((FinG.bind (R := Rel X.K) F1).imp fun v H1 ⟨r1, l1, x, y1, z1, w1, F2⟩ => ?_)
  split at F2
  · rename_i C' fs hi
    split at F2
    · rename_i hC
      subst hC
      obtain ⟨j, a, dx, gs, rfl, hn, rfl, hH, hf⟩ := insAt_to z1 w1 hi
      exact ⟨a, dx, gs, rfl, hH, rfl, r1, l1, _, z1, .cons w1 .nil, FinG.noX F2⟩
    · exact F2.elim
  · exact F2.elim
end
end NL
set_option maxRecDepth 100000
set_option maxHeartbeats 1000000
/-! Comprehensions of two clauses. -/
namespace NL
open PySem PySem.Spec L2
def inN (nx : Nat → LH → Option (Option D)) (g : TM) (t : MT) (m : M) (n0 : Nat) (e : LE) (kont : LH → Re D) : Nat → Nat → LH → Re D
  | 0, _ => fun _ => .bad
  | f + 1, i => fun lh => match nx i lh with
    | none => .bad
    | some none => kont lh
    | some (some d) => match g d e lh with
      | .nx e1 l1 => match t e1 l1 with
        | .ok false l2 => inN nx g t m n0 e kont f (i + 1) l2
        | .ok true l2 => match m e1 l2 with
          | .ok y l3 => match l3[n0]? with
            | some (.lst acc) => if acc.length < sizeLine then inN nx g t m n0 e kont f (i + 1) (l3.set n0 (.lst (acc ++ [y]))) else .bad
            | _ => .bad
          | _ => .bad
        | _ => .bad
      | _ => .bad
def ouN (nx : Nat → LH → Option (Option D)) (g : TM) (t : MT) (mi1 : MI) (g1 : TM) (t1 : MT) (m : M) (n0 : Nat) (e : LE) (own1 : List Nat) : Nat → Nat → LH → Re D
  | 0, _ => fun _ => .bad
  | f + 1, i => fun lh => match nx i lh with
    | none => .bad
    | some none => .ok (.loc n0) lh
    | some (some d) => match g d e lh with
      | .nx e1 l1 => match t e1 l1 with
        | .ok false l2 => ouN nx g t mi1 g1 t1 m n0 e own1 f (i + 1) l2
        | .ok true l2 => match mi1 e1 l2 with
          | .ok it l3 => inN it.nx g1 t1 m n0 (wipeD e1 own1) (ouN nx g t mi1 g1 t1 m n0 e own1 f (i + 1)) it.fuel 0 l3
          | _ => .bad
        | _ => .bad
      | _ => .bad
def lcM2 (mi : MI) (g : TM) (t : MT) (mi1 : MI) (g1 : TM) (t1 : MT) (m : M) (own own1 : List Nat) : M := fun e lh => (mi e lh).bind fun it l => ouN it.nx g t mi1 g1 t1 m l.length (wipeD e own) own1 it.fuel 0 (l ++ [.lst []])
theorem wipe_eq {s4 s : L2.St} {own gv : List Nat} (hw : L2.wipe s4 gv = L2.wipe (L2.wipe s own) gv) (hgv : ∀ i ∈ gv, i ∈ own) : L2.wipe s4 own = L2.wipe s own := by
  refine wipe_sub hw hgv |>.trans ?_
  refine List.ext_getElem? fun j => ?_
  rw [wipe_at, wipe_length, wipe_at]
  by_cases hj : j ∈ own ∧ j < s.length
  · rw [if_pos hj, if_pos hj]
  · rw [if_neg hj, if_neg hj]
section
variable {X : Cx} {W : WX}
theorem lcM2_to {mi mi1 : MI} {g g1 : TM} {t t1 : MT} {m : M} {own own1 gv gv1 : List Nat} (hgv : ∀ i ∈ gv, i ∈ own) (gd : Gd g) (hgv1 : ∀ i ∈ gv1, i ∈ own1) (gd1 : Gd g1) {s : L2.St} {H : Hp} {Q : VK} {X' : Cx} (hK : X'.K = X.K) (hmg : X'.mg = X.mg)
    (h : tG X W (Rel X.K) (lcM2 mi g t mi1 g1 t1 m own own1) s H Q) : tLc2 (tG X W (IterOk X.K) mi) (tTg X' Wf gv g) (tG X' Wf RB t) (tG X' Wf (IterOk X'.K) mi1) (tTg X' Wf gv1 g1) (tG X' Wf RB t1) (tG X' Wf (Rel X'.K) m) own own1 s H Q := by
  obtain ⟨r, e, lh, S, Hh, F⟩ := h
  refine tG_of S Hh ((FinG.bind (R := IterOk X.K) F).imp fun J H1 ⟨r1, l1, it, y1, z1, w1, F1⟩ => ?_)
  intro p hp
  have x0 : Ext X.K r1 H1 (r1 ++ [p]) (upd H1 p (.lst [])) := Ext.more hp
  let OU : Nat → Nat → LH → Re D := ouN it.nx g t mi1 g1 t1 m l1.length (wipeD e own) own1
  let FG : List Addr → Hp → Re D → Prop := fun r2 H => FinG X.K X.mg (fun c dd H' => W c dd s H') (Rel X.K) r2 H Q
  refine ⟨fun i n H => ∃ r2 l2, Ext X.K (r1 ++ [p]) (upd H1 p (.lst [])) r2 H ∧ SimH X.K r2 H l2 ∧ FG r2 H (OU n i l2), ⟨it.fuel, r1 ++ [p], l1 ++ [.lst []], Ext.refl, z1.laid hp .nil, F1.mono x0⟩, ?_⟩
  rintro i n H2 ⟨r2, l2, x2, h2, F2⟩
  have hloc : r2[l1.length]? = some p := x2.pre _ _ (laid_new z1)
  cases n with
  | zero => exact F2.elim
  | succ f =>
    have F2 : FG r2 H2 (match it.nx i l2 with
      | none => .bad
      | some none => .ok (.loc l1.length) l2
      | some (some d) => match g d (wipeD e own) l2 with
        | .nx e1 l1' => match t e1 l1' with
          | .ok false l2 => OU f (i + 1) l2
          | .ok true l2 => match mi1 e1 l2 with
            | .ok it1 l3 => inN it1.nx g1 t1 m l1.length (wipeD e1 own1) (OU f (i + 1)) it1.fuel 0 l3
            | _ => .bad
          | _ => .bad
        | _ => .bad) := F2
    have ok := w1 r2 H2 l2 (x0.trans x2) h2 i
    cases q : it.nx i l2 with
    | none => rw [q] at F2; exact F2.elim
    | some od =>
      cases od with
      | none =>
        rw [q] at F2 ok
        exact .inl ⟨ok, F2.ok h2 (.loc hloc)⟩
      | some d =>
        rw [q] at F2 ok
        refine .inr ⟨ok.1, fun H => ∃ r3 l3, Ext X.K (r1 ++ [p]) (upd H1 p (.lst [])) r3 H ∧ SimH X.K r3 H l3 ∧ FG r3 H (OU f (i + 1) l3), fun H' h => ⟨f, Nat.lt_succ_self f, h⟩, fun x H3 hy => ?_⟩
        obtain ⟨a1, a2, a3⟩ := ok.2 x H3 hy
        have S3 : SimS X.K r2 H3 (wipeD e own) (L2.wipe s own) := (((S.wipe own).mono y1).mono x0).mono (x2.trans a1)
        refine ⟨r2, wipeD e own, l2, d, by rw [hK]; exact S3, by rw [hK]; exact a2, by rw [hK]; exact a3, ?_⟩
        have F3 := F2.mono a1
        dsimp only at F3
        have gd := gd d (wipeD e own) l2
        cases z : g d (wipeD e own) l2 with
        | nx e1 l3 =>
          rw [z] at F3
          intro r4 H4 s4 a4 b4 c4 hw
          rw [hK] at a4 b4 c4
          refine ⟨wipe_eq hw hgv, r4, e1, l3, by rw [hK]; exact b4, by rw [hK]; exact c4, ?_⟩
          have F4 := F3.mono a4
          have X4 := x2.trans (a1.trans a4)
          cases z2 : t e1 l3 with
          | ok k l4 =>
            dsimp only at F4
            rw [z2] at F4
            intro r5 H5 k' a5 c5 e5
            rw [hK] at a5 c5
            have e5 : k = k' := e5
            subst e5
            have F5 := F4.mono a5
            have X5 := X4.trans a5
            cases k with
            | false => exact iteF ⟨r5, l4, X5, c5, F5⟩
            | true =>
              refine iteT ⟨r5, e1, l4, by rw [hK]; exact b4.mono a5, by rw [hK]; exact c5, ?_⟩
              cases z3 : mi1 e1 l4 with
              | ok it1 l5 =>
                dsimp only at F5
                rw [z3] at F5
                intro r6 H6 J1 a6 c6 w6
                rw [hK] at a6 c6 w6
                have F6 := F5.mono a6
                have X6 := X5.trans a6
                have S6 : SimS X.K r6 H6 (wipeD e1 own1) (L2.wipe s4 own1) := ((b4.mono a5).mono a6).wipe own1
                refine ⟨fun j n H => ∃ r7 l7, Ext X.K r6 H6 r7 H ∧ SimH X.K r7 H l7 ∧ FG r7 H (inN it1.nx g1 t1 m l1.length (wipeD e1 own1) (OU f (i + 1)) n j l7), ⟨it1.fuel, r6, l5, Ext.refl, c6, F6⟩, ?_⟩
                rintro j n H7 ⟨r7, l7, x7, h7, F7⟩
                cases n with
                | zero => exact F7.elim
                | succ f1 =>
                  have F7 : FG r7 H7 (match it1.nx j l7 with
                    | none => .bad
                    | some none => OU f (i + 1) l7
                    | some (some d) => match g1 d (wipeD e1 own1) l7 with
                      | .nx e1' l1' => match t1 e1' l1' with
                        | .ok false l2 => inN it1.nx g1 t1 m l1.length (wipeD e1 own1) (OU f (i + 1)) f1 (j + 1) l2
                        | .ok true l2 => match m e1' l2 with
                          | .ok y l3 => match l3[l1.length]? with
                            | some (.lst acc) => if acc.length < sizeLine then inN it1.nx g1 t1 m l1.length (wipeD e1 own1) (OU f (i + 1)) f1 (j + 1) (l3.set l1.length (.lst (acc ++ [y]))) else .bad
                            | _ => .bad
                          | _ => .bad
                        | _ => .bad
                      | _ => .bad) := F7
                  have ok7 := w6 r7 H7 l7 x7 h7 j
                  cases q7 : it1.nx j l7 with
                  | none => rw [q7] at F7; exact F7.elim
                  | some od7 =>
                    cases od7 with
                    | none =>
                      rw [q7] at F7 ok7
                      exact .inl ⟨ok7, r7, l7, X6.trans x7, h7, F7⟩
                    | some d7 =>
                      rw [q7] at F7 ok7
                      refine .inr ⟨ok7.1, fun H => ∃ r8 l8, Ext X.K r6 H6 r8 H ∧ SimH X.K r8 H l8 ∧ FG r8 H (inN it1.nx g1 t1 m l1.length (wipeD e1 own1) (OU f (i + 1)) f1 (j + 1) l8), fun H' h => ⟨f1, Nat.lt_succ_self f1, h⟩, fun x8 H8 hy8 => ?_⟩
                      obtain ⟨b1, b2, b3⟩ := ok7.2 x8 H8 hy8
                      refine ⟨r7, wipeD e1 own1, l7, d7, by rw [hK]; exact S6.mono (x7.trans b1), by rw [hK]; exact b2, by rw [hK]; exact b3, ?_⟩
                      have F8 := F7.mono b1
                      dsimp only at F8
                      have gd8 := gd1 d7 (wipeD e1 own1) l7
                      cases z8 : g1 d7 (wipeD e1 own1) l7 with
                      | nx e9 l9 =>
                        rw [z8] at F8
                        intro r9 H9 s9 a9 b9 c9 hw9
                        rw [hK] at a9 b9 c9
                        refine ⟨wipe_eq hw9 hgv1, r9, e9, l9, by rw [hK]; exact b9, by rw [hK]; exact c9, ?_⟩
                        have F9 := F8.mono a9
                        have X9 := x7.trans (b1.trans a9)
                        cases z9 : t1 e9 l9 with
                        | ok k9 l10 =>
                          dsimp only at F9
                          rw [z9] at F9
                          intro r10 H10 k' a10 c10 e10
                          rw [hK] at a10 c10
                          have e10 : k9 = k' := e10
                          subst e10
                          have F10 := F9.mono a10
                          have X10 := X9.trans a10
                          cases k9 with
                          | false => exact iteF ⟨r10, l10, X10, c10, F10⟩
                          | true =>
                            refine iteT ⟨r10, e9, l10, by rw [hK]; exact b9.mono a10, by rw [hK]; exact c10, ?_⟩
                            cases z11 : m e9 l10 with
                            | ok y l11 =>
                              dsimp only at F10
                              rw [z11] at F10
                              intro r11 H11 v a11 c11 e11
                              rw [hK] at a11 c11 e11
                              have F11 := F10.mono a11
                              dsimp only at F11
                              have hl11 : r11[l1.length]? = some p := a11.pre _ _ (X10.pre _ _ (X6.pre _ _ (laid_new z1)))
                              split at F11
                              · rename_i acc eacc
                                obtain ⟨us, hu, qs⟩ := c11.get hl11 eacc
                                split at F11
                                · rename_i hlt
                                  exact ⟨us, hu, by rw [← qs.length]; exact hlt, r11, _, X10.trans (a11.trans (Ext.wr hu)), c11.wr hl11 hu (qs.snoc e11), F11.mono (Ext.wr hu)⟩
                                · exact F11.elim
                              · exact F11.elim
                            | er x l5 => dsimp only at F10; rw [z11] at F10; exact F10.elim
                            | bad => dsimp only at F10; rw [z11] at F10; exact F10.elim
                        | er x l4 => dsimp only at F9; rw [z9] at F9; exact F9.elim
                        | bad => dsimp only at F9; rw [z9] at F9; exact F9.elim
                      | er x e1 l3 => rw [z8] at F8; exact F8.elim
                      | bad => rw [z8] at F8; exact F8.elim
                      | _ => rw [z8] at gd8; exact gd8.elim
              | er x l5 => dsimp only at F5; rw [z3] at F5; exact F5.elim
              | bad => dsimp only at F5; rw [z3] at F5; exact F5.elim
          | er x l4 => dsimp only at F4; rw [z2] at F4; exact F4.elim
          | bad => dsimp only at F4; rw [z2] at F4; exact F4.elim
        | er x e1 l3 => rw [z] at F3; exact F3.elim
        | bad => rw [z] at F3; exact F3.elim
        | _ => rw [z] at gd; exact gd.elim
theorem de_lc2 {k : Nat} {elt tg iter tg1 iter1 : Expr} {ifs ifs1 : List Expr} {scope : Scope} (own own1 : List (Str × Nat)) {pos : Pos} {mi mi1 : MI} {g g1 : TM} {gv gv1 : List Nat} {t t1 : MT} {m : M} (o : Bk k X W) (hi : DI X W tg iter mi)
    (hg : ∀ (s : Shared) (H : Hp) (C : Addr) (cl : List (Str × Addr)) (fp : List Addr), Bk k (Cx.blk X s H scope (compEnvC scope cl C X.env) fp) Wf → DG (Cx.blk X s H scope (compEnvC scope cl C X.env) fp) Wf tg gv g) (gd : Gd g)
    (ht : ∀ (s : Shared) (H : Hp) (C : Addr) (cl : List (Str × Addr)) (fp : List Addr), Bk k (Cx.blk X s H scope (compEnvC scope cl C X.env) fp) Wf → DTs (Cx.blk X s H scope (compEnvC scope cl C X.env) fp) Wf ifs t)
    (hi1 : ∀ (s : Shared) (H : Hp) (C : Addr) (cl : List (Str × Addr)) (fp : List Addr), Bk k (Cx.blk X s H scope (compEnvC scope cl C X.env) fp) Wf → DI (Cx.blk X s H scope (compEnvC scope cl C X.env) fp) Wf tg1 iter1 mi1)
    (hg1 : ∀ (s : Shared) (H : Hp) (C : Addr) (cl : List (Str × Addr)) (fp : List Addr), Bk k (Cx.blk X s H scope (compEnvC scope cl C X.env) fp) Wf → DG (Cx.blk X s H scope (compEnvC scope cl C X.env) fp) Wf tg1 gv1 g1) (gd1 : Gd g1)
    (ht1 : ∀ (s : Shared) (H : Hp) (C : Addr) (cl : List (Str × Addr)) (fp : List Addr), Bk k (Cx.blk X s H scope (compEnvC scope cl C X.env) fp) Wf → DTs (Cx.blk X s H scope (compEnvC scope cl C X.env) fp) Wf ifs1 t1)
    (he : ∀ (s : Shared) (H : Hp) (C : Addr) (cl : List (Str × Addr)) (fp : List Addr), Bk k (Cx.blk X s H scope (compEnvC scope cl C X.env) fp) Wf → DE (Cx.blk X s H scope (compEnvC scope cl C X.env) fp) Wf elt m)
    (ok : BlkOk X.N X.env.scope scope own := by exact blkOk_by rfl) (hgv : ∀ i ∈ gv, i ∈ own.map (·.2) := by decide) (hgv1 : ∀ i ∈ gv1, i ∈ own1.map (·.2) := by decide) (hv : ∀ i ∈ own1.map (·.2), i ∈ own.map (·.2) := by decide)
    (hs : ∀ x, foldedSetIterable iter X.env x = pure x := by intro _; rfl) (hs1 : ∀ env x, foldedSetIterable iter1 env x = pure x := by intro _ _; rfl) :
    DE X W (.ListComp elt [⟨tg, iter, ifs, 0⟩, ⟨tg1, iter1, ifs1, 0⟩] scope pos) (lcM2 mi g t mi1 g1 t1 m (own.map (·.2)) (own1.map (·.2))) :=
  pe_imp (pe_lc2 (g := tTg X Wf gv g) (tt := tG X Wf RB t) (g1 := tTg X Wf gv1 g1) (tt1 := tG X Wf RB t1) (wi1 := tG X Wf (IterOk X.K) mi1) (te := tG X Wf (Rel X.K) m) (vs1 := own1.map (·.2)) o.calm o.nd hi ok hv (fun s H C cl fp => hg s H C cl fp (o.blk s H scope _ fp)) (fun s H C cl fp => ht s H C cl fp (o.blk s H scope _ fp)) (fun s H C cl fp => hi1 s H C cl fp (o.blk s H scope _ fp)) (fun s H C cl fp => hg1 s H C cl fp (o.blk s H scope _ fp)) (fun s H C cl fp => ht1 s H C cl fp (o.blk s H scope _ fp)) (fun s H C cl fp => he s H C cl fp (o.blk s H scope _ fp)) hs hs1)
    fun s H Q h => lcM2_to (X' := X) hgv gd hgv1 gd1 rfl rfl h
theorem ds_setLc2 {k i : Nat} {y : Str} {py : Pos} {elt tg iter tg1 iter1 : Expr} {ifs ifs1 : List Expr} {scope : Scope} (own own1 : List (Str × Nat)) {pos spos : Pos} {mi mi1 : MI} {g g1 : TM} {gv gv1 : List Nat} {t t1 : MT} {m : M} (o : Bk k X W) (hi : DI X W tg iter mi)
    (hg : ∀ (s : Shared) (H : Hp) (C : Addr) (cl : List (Str × Addr)) (fp : List Addr), Bk k (Cx.blk X s H scope (compEnvC scope cl C X.env) fp) Wf → DG (Cx.blk X s H scope (compEnvC scope cl C X.env) fp) Wf tg gv g) (gd : Gd g)
    (ht : ∀ (s : Shared) (H : Hp) (C : Addr) (cl : List (Str × Addr)) (fp : List Addr), Bk k (Cx.blk X s H scope (compEnvC scope cl C X.env) fp) Wf → DTs (Cx.blk X s H scope (compEnvC scope cl C X.env) fp) Wf ifs t)
    (hi1 : ∀ (s : Shared) (H : Hp) (C : Addr) (cl : List (Str × Addr)) (fp : List Addr), Bk k (Cx.blk X s H scope (compEnvC scope cl C X.env) fp) Wf → DI (Cx.blk X s H scope (compEnvC scope cl C X.env) fp) Wf tg1 iter1 mi1)
    (hg1 : ∀ (s : Shared) (H : Hp) (C : Addr) (cl : List (Str × Addr)) (fp : List Addr), Bk k (Cx.blk X s H scope (compEnvC scope cl C X.env) fp) Wf → DG (Cx.blk X s H scope (compEnvC scope cl C X.env) fp) Wf tg1 gv1 g1) (gd1 : Gd g1)
    (ht1 : ∀ (s : Shared) (H : Hp) (C : Addr) (cl : List (Str × Addr)) (fp : List Addr), Bk k (Cx.blk X s H scope (compEnvC scope cl C X.env) fp) Wf → DTs (Cx.blk X s H scope (compEnvC scope cl C X.env) fp) Wf ifs1 t1)
    (he : ∀ (s : Shared) (H : Hp) (C : Addr) (cl : List (Str × Addr)) (fp : List Addr), Bk k (Cx.blk X s H scope (compEnvC scope cl C X.env) fp) Wf → DE (Cx.blk X s H scope (compEnvC scope cl C X.env) fp) Wf elt m)
    (ok : BlkOk X.N X.env.scope scope own := by exact blkOk_by rfl) (hgv : ∀ i ∈ gv, i ∈ own.map (·.2) := by decide) (hgv1 : ∀ i ∈ gv1, i ∈ own1.map (·.2) := by decide) (hv : ∀ i ∈ own1.map (·.2), i ∈ own.map (·.2) := by decide)
    (hy : X.N[i]? = some y := by rfl) (hyl : X.env.scope.names.lookup y = some .local := by rfl)
    (hsw : swapsWith (.ListComp elt [⟨tg, iter, ifs, 0⟩, ⟨tg1, iter1, ifs1, 0⟩] scope pos) (some (.Name y py)) spos.line X.env = pure true := by exact sw_true rfl rfl rfl (by decide +kernel))
    (hs : ∀ x, foldedSetIterable iter X.env x = pure x := by intro _; rfl) (hs1 : ∀ env x, foldedSetIterable iter1 env x = pure x := by intro _ _; rfl) :
    DS X W (.Assign [.Name y py] (.ListComp elt [⟨tg, iter, ifs, 0⟩, ⟨tg1, iter1, ifs1, 0⟩] scope pos) spos) (asS (lcM2 mi g t mi1 g1 t1 m (own.map (·.2)) (own1.map (·.2))) (nmG i)) := by
  refine ps_imp (L2.ps_setLc2 (g := tTg X Wf gv g) (tt := tG X Wf RB t) (g1 := tTg X Wf gv1 g1) (tt1 := tG X Wf RB t1) (wi1 := tG X Wf (IterOk X.K) mi1) (te := tG X Wf (Rel X.K) m) (vs1 := own1.map (·.2)) o.calm o.nd hy hyl hsw hi ok hv (fun s H C cl fp => hg s H C cl fp (o.blk s H scope _ fp)) (fun s H C cl fp => ht s H C cl fp (o.blk s H scope _ fp)) (fun s H C cl fp => hi1 s H C cl fp (o.blk s H scope _ fp)) (fun s H C cl fp => hg1 s H C cl fp (o.blk s H scope _ fp)) (fun s H C cl fp => ht1 s H C cl fp (o.blk s H scope _ fp)) (fun s H C cl fp => he s H C cl fp (o.blk s H scope _ fp)) hs hs1) fun T s H ⟨r, e, lh, S, Hh, F⟩ => ?_
  refine lcM2_to (X' := X) hgv gd hgv1 gd1 rfl rfl (tG_of S Hh ((FinS.val S F).imp fun v H1 ⟨r1, l1, d, a, b, c, F1⟩ => ?_))
  exact F1 r1 H1 (s.set i (some v)) Ext.refl ((S.mono a).set i c) b
end
end NL
set_option maxRecDepth 100000
set_option maxHeartbeats 1000000
/-! len, in, truth, repr of an own class's instances. -/
namespace NL
open PySem PySem.Spec L2
section
variable {X : Cx} {W : WX}
/-- the callee, one frame of the machine deeper -/
theorem run_at {k : Nat} {f : Addr} {fd : FuncData} {ps : List Str} {m : FM} {A : Around} {pins : List (Addr × Obj)} {σ : L2.St} {H : Hp} {s : Shared} {Q : VK} {us : List Value} {vs : List V} {r : List Addr} {lh : LH} {ds : List D} (F : FnOk X.prog X.w X.K X.mg X.base (L2.CX X.prog X.w) k f fd ps (spD X.K X.mg ps.length m))
    (hr : Room k A) (hB : Binds X.K fd ps []) (tk : Takes X W) (I : Inv X pins σ H s) (e0 : Env0 X.prog X.w X.K X.mg X.base A X.stack s H) (rv : Vals vs us) (hl : vs.length = ps.length) (Hh : SimH X.K r H lh) (q : RelL X.K r H ds vs) (h : FinG X.K X.mg (WE W σ) (Rel X.K) r H Q (m ds lh)) :
    wpAny (model X.prog X.w) A (call (.ref f) us) (EP X pins σ Q) X.xe s := by
  have hlu : us.length = ps.length := by rw [← rv.length]; exact hl
  have b := hB s us I.kIn (by rw [List.append_nil]; exact hlu)
  rw [List.append_nil] at b
  refine wpAny_call (codeAny_mono (F.run A X.stack s H ⟨us, []⟩ us vs Q (WE W σ) hr e0 b rv ⟨hl, r, lh, ds, Hh, q, h⟩) fun r s' hq => ?_)
  cases r with
  | error e => exact passAt tk σ pins H s e s' I hq
  | ok fl =>
    cases fl with
    | ret u => exact I.after hq
    | next => exact False.elim hq
    | brk => exact False.elim hq
    | cont => exact False.elim hq
theorem ins_at {pins : List (Addr × Obj)} {σ : L2.St} {H : Hp} {s : Shared} {a C dx : Addr} {fs : List (Str × V)} (I : Inv X pins σ H s) (e : H a = some (.ins C dx fs)) : ∃ ox od, PySem.W.InstAt s.heap a ox C od := by
  obtain ⟨mA, O, _⟩ := ins_get I.hok e
  obtain ⟨od, J, _⟩ := O.look
  exact ⟨_, od, J⟩
/-- len(o) -/
def lenR : Re D → Re D | .ok (.int n) l => if 0 ≤ n ∧ n < 2 ^ 63 then .ok (.int n) l else .bad | _ => .bad
def lenO (C : Addr) (m : FM) (d : D) (l : LH) : Re D := match insAt l d with
  | some (C', _) => if C' = C then lenR (m [d] l) else .bad
  | none => lenD [d] l
def lenOM (C : Addr) (m : FM) (ma : M) : M := fun e lh => (ma e lh).bind (lenO C m)
theorem FinG.len_ {E E' : XK} {r : List Addr} {H : Hp} {Q : VK} : ∀ {t : Re D}, FinG X.K X.mg E (Rel X.K) r H Q (lenR t) → FinG X.K X.mg E' (Rel X.K) r H (fun v H' => ∃ n : Int, v = .int n ∧ 0 ≤ n ∧ n < 2 ^ 63 ∧ Q (.int n) H') t
  | .ok (.int n) l, h => fun r' H' v x s q => by
    cases q
    have h : FinG X.K X.mg E (Rel X.K) r H Q (if 0 ≤ n ∧ n < 2 ^ 63 then .ok (.int n) l else .bad) := h
    split at h
    · rename_i c
      exact ⟨n, rfl, c.1, c.2, h r' H' _ x s (.int n)⟩
    · exact h.elim
  | .ok .non l, h => h.elim
  | .ok (.bl _) l, h => h.elim
  | .ok (.str _) l, h => h.elim
  | .ok (.tup _) l, h => h.elim
  | .ok (.loc _) l, h => h.elim
  | .ok (.raw _) l, h => h.elim
  | .ok (.fl _) l, h => h.elim
  | .er x l, h => h.elim
  | .bad, h => h
theorem de_len {k n : Nat} {C : Addr} {q : Str} {st : Stmt} {m : FM} {e : Expr} {ma : M} {p pos : Pos} {self : Str} (b : Bk n X W) (G : FnC X.prog X.w X.K X.mg X.base C "__len__" q st [self] k m) (hk : k + 1 ≤ n) (ha : DE X W e ma) (hm : X.mg "len" = none)
    (hg : Gl X "len" := by rfl) (he : starEach [e] X.env = (false, eval e X.env) :: starEach [] X.env := by rfl) (hpl : (backTo pos (starEach [] X.env)).any (·.1) = false := by rfl) : DE X W (.Call (.Name "len" p) [e] [] pos) (lenOM C m ma) := by
  obtain ⟨f, fd, F, hM, hF, hB⟩ := G.ex
  have h1 : CallR X (.builtin "len") (fun vs H Q => (∃ (a dx : Addr) (fs : List (Str × V)) (r : List Addr) (lh : LH) (d : D), vs = [.ref a] ∧ H a = some (.ins C dx fs) ∧ SimH X.K r H lh ∧ Rel X.K r H d (.ref a) ∧ FinG X.K X.mg (fun _ _ _ => False) (Rel X.K) r H Q (lenR (m [d] lh)))) := fun pins s σ H vs us Q I z w => by
    obtain ⟨a, dx, fs, r, lh, d, rfl, hH, Hh, qd, F1⟩ := w
    have z0 := z
    rw [Vals.ref1 z]
    obtain ⟨ox, od, J⟩ := ins_at I hH
    obtain ⟨m0, fr⟩ := I.fr
    refine PySem.W.len_K fr I.ok.mod.kin J hM.at_ hM.fn ?_
    have run := run_at (W := W) (us := [.ref a]) (vs := [.ref a]) (Q := fun v H' => ∃ n : Int, v = .int n ∧ 0 ≤ n ∧ n < 2 ^ 63 ∧ Q (.int n) H') F (b.hr.mono hk).in1 hB b.tk I I.env0.in1 (.cons rfl .nil) rfl Hh (.cons qd .nil) (FinG.len_ F1)
    refine wpAny_mono run (fun u s' hu => ?_) fun _ _ z => z
    obtain ⟨v, H', I', rv, n, rfl, n0, n1, hq⟩ := hu
    obtain ⟨tk, rfl⟩ := rv
    exact ⟨⟨n0, n1⟩, .int n, H', I'.tok _, ⟨_, rfl⟩, hq⟩
  obtain ⟨rl, c1, c2⟩ := c_len (X := X)
  have h2 := pe_callB (p := p) (pos := pos) (CallR.orr h1 c1) hg hm (by rfl) (pa_cons ha pa_nil he) (by decide) (by decide) he hpl
  refine pe_imp h2 fun s H Q ⟨r, e, lh, S, Hh, F1⟩ => ?_
  refine tG_of S Hh ((FinG.bind (R := Rel X.K) F1).imp fun v H1 ⟨r1, l1, x, y1, z1, w1, F2⟩ => ?_)
  unfold lenO at F2
  split at F2
  · rename_i C' fs hi
    split at F2
    · rename_i hC
      subst hC
      obtain ⟨j, a, dx, gs, rfl, hn, rfl, hH, hf⟩ := insAt_to z1 w1 hi
      refine .inl ⟨a, dx, gs, r1, l1, _, rfl, hH, z1, w1, ?_⟩
      cases t : m [.loc j] l1 with
      | ok d l =>
        rw [t] at F2
        cases d with
        | int i =>
          have F3 : FinG X.K X.mg (fun c dd H' => W c dd s H') (Rel X.K) r1 H1 Q (if 0 ≤ i ∧ i < 2 ^ 63 then .ok (.int i) l else .bad) := F2
          show FinG X.K X.mg (fun _ _ _ => False) (Rel X.K) r1 H1 Q (if 0 ≤ i ∧ i < 2 ^ 63 then .ok (.int i) l else .bad)
          split at F3
          · rename_i c
            rw [if_pos c]
            exact F3
          · exact F3.elim
        | _ => exact F2.elim
      | er x l => rw [t] at F2; exact F2.elim
      | bad => rw [t] at F2; exact F2.elim
    · exact F2.elim
  · exact .inr (c2 _ r1 H1 l1 [x] [v] Q z1 (.cons w1 .nil) F2)
end
end NL
set_option maxRecDepth 100000
set_option maxHeartbeats 1000000
/-! in and == by an own class's defs. -/
namespace NL
open PySem PySem.Spec L2
section
variable {X : Cx} {W : WX}
def boR : Re D → Re D | .ok (.bl b) l => .ok (.bl b) l | _ => .bad
theorem FinG.bo_ {E E' : XK} {r : List Addr} {H : Hp} {Q : VK} : ∀ {t : Re D}, FinG X.K X.mg E (Rel X.K) r H Q (boR t) → FinG X.K X.mg E' (Rel X.K) r H (fun v H' => ∃ b : Bool, v = .bl b ∧ Q (.bl b) H') t
  | .ok (.bl b) l, h => fun r' H' v x s q => by
    cases q
    exact ⟨b, rfl, h r' H' _ x s (.bl b)⟩
  | .ok .non l, h => h.elim
  | .ok (.int _) l, h => h.elim
  | .ok (.str _) l, h => h.elim
  | .ok (.tup _) l, h => h.elim
  | .ok (.loc _) l, h => h.elim
  | .ok (.raw _) l, h => h.elim
  | .ok (.fl _) l, h => h.elim
  | .er x l, h => h.elim
  | .bad, h => h
theorem FinG.bo_any {E E' : XK} {r : List Addr} {H : Hp} {Q : VK} : ∀ {t : Re D}, FinG X.K X.mg E (Rel X.K) r H Q (boR t) → FinG X.K X.mg E' (Rel X.K) r H Q (boR t)
  | .ok (.bl b) l, h => h
  | .ok .non l, h => h.elim
  | .ok (.int _) l, h => h.elim
  | .ok (.str _) l, h => h.elim
  | .ok (.tup _) l, h => h.elim
  | .ok (.loc _) l, h => h.elim
  | .ok (.raw _) l, h => h.elim
  | .ok (.fl _) l, h => h.elim
  | .er x l, h => h.elim
  | .bad, h => h
/-- what an own def says of two values, the first its instance -/
def rOwn2 (X : Cx) (C : Addr) (m : FM) : V → V → Hp → VK → Prop := fun v u H Q => ∃ (a dx : Addr) (fs : List (Str × V)) (r : List Addr) (lh : LH) (d e : D), v = .ref a ∧ H a = some (.ins C dx fs) ∧ SimH X.K r H lh ∧ Rel X.K r H d v ∧ Rel X.K r H e u ∧ FinG X.K X.mg E0' (Rel X.K) r H Q (boR (m [d, e] lh))
where E0' : XK := fun _ _ _ => False
theorem run_own2 {k n : Nat} {f : Addr} {fd : FuncData} {m : FM} {p1 p2 : Str} {pins : List (Addr × Obj)} {σ : L2.St} {H : Hp} {s : Shared} {Q : VK} {a : Addr} {r : List Addr} {lh : LH} {d e : D} {y : V} {u : Value} (b : Bk n X W) (hk : k ≤ n)
    (F : FnOk X.prog X.w X.K X.mg X.base (L2.CX X.prog X.w) k f fd [p1, p2] (spD X.K X.mg [p1, p2].length m)) (hB : Binds X.K fd [p1, p2] []) (I : Inv X pins σ H s) (Hh : SimH X.K r H lh) (q1 : Rel X.K r H d (.ref a)) (q2 : Rel X.K r H e y) (ry : RelV y u)
    (h : FinG X.K X.mg (fun _ _ _ => False) (Rel X.K) r H Q (boR (m [d, e] lh))) :
    wpAny (model X.prog X.w) X.A (call (.ref f) [.ref a, u]) (EP X pins σ fun v H' => ∃ b : Bool, v = .bl b ∧ Q (.bl b) H') X.xe s :=
  run_at (W := W) (us := [.ref a, u]) (vs := [.ref a, y]) F (b.hr.mono hk) hB b.tk I I.env0 (.cons rfl (.cons ry .nil)) rfl Hh (.cons q1 (.cons q2 .nil)) (FinG.bo_ h)
def inO (C : Addr) (m : FM) (a b : D) (l : LH) : Re D := match insAt l b with
  | some (C', _) => if C' = C then boR (m [b, a] l) else .bad
  | none => inD a b l
theorem o_inO {k n : Nat} {C : Addr} {q : Str} {st : Stmt} {m : FM} {p1 p2 : Str} (b : Bk n X W) (G : FnC X.prog X.w X.K X.mg X.base C "__contains__" q st [p1, p2] k m) (hk : k ≤ n) : OpD X (compareOp .In) (inO C m) := by
  obtain ⟨f, fd, F, hM, hF, hB⟩ := G.ex
  have h1 : OpR X (compareOp .In) (fun y v H Q => rOwn2 X C m v y H Q) := fun pins s σ H y v uy uv Q I ry rv w => by
    obtain ⟨a, dx, fs, r, lh, d, e, rfl, hH, Hh, q1, q2, F1⟩ := w
    obtain rfl : uv = Value.ref a := rv
    obtain ⟨ox, od, J⟩ := ins_at I hH
    obtain ⟨m0, fr⟩ := I.fr
    refine PySem.W.in_K fr I.ok.mod.kin J hM.at_ hM.fn ?_
    refine wpAny_mono (run_own2 b hk F hB I Hh q1 q2 ry F1) (fun z s' hz => ?_) fun _ _ z => z
    obtain ⟨v, H', I', rv', bb, rfl, hq⟩ := hz
    obtain rfl : z = Value.bool bb := rv'
    exact wpAny_truthy_bool ⟨.bl bb, H', I', rfl, hq⟩
  obtain ⟨rr, c1, c2⟩ := o_in b
  refine ⟨_, h1.or c1, fun E r H lh a b v u Q Hh ra rb F1 => ?_⟩
  unfold inO at F1
  split at F1
  · rename_i C' fs hi
    split at F1
    · rename_i hC
      subst hC
      obtain ⟨j, a', dx, gs, rfl, hn, rfl, hH, hf⟩ := insAt_to Hh rb hi
      exact .inl ⟨a', dx, gs, r, lh, _, _, rfl, hH, Hh, rb, ra, FinG.bo_any F1⟩
    · exact F1.elim
  · exact .inr (c2 E r H lh a b v u Q Hh ra rb F1)
def eqO (C : Addr) (m : FM) (a b : D) (l : LH) : Re D := match insAt l a, insAt l b with
  | some (C1, _), some (C2, _) => if C1 = C ∧ C2 = C then boR (m [a, b] l) else .bad
  | none, none => eqD a b l
  | _, _ => .bad
theorem o_eqO {k n : Nat} {C : Addr} {q : Str} {st : Stmt} {m : FM} {p1 p2 : Str} (b : Bk n X W) (G : FnC X.prog X.w X.K X.mg X.base C "__eq__" q st [p1, p2] k m) (hk : k ≤ n) : OpD X (compareOp .Eq) (eqO C m) := by
  obtain ⟨f, fd, F, hM, hF, hB⟩ := G.ex
  have h1 : OpR X (compareOp .Eq) (fun v y H Q => rOwn2 X C m v y H Q ∧ ∃ a2 dx2 fs2, y = .ref a2 ∧ H a2 = some (.ins C dx2 fs2)) := fun pins s σ H v y uv uy Q I rv ry w => by
    obtain ⟨⟨a, dx, fs, r, lh, d, e, rfl, hH, Hh, q1, q2, F1⟩, a2, dx2, fs2, rfl, hH2⟩ := w
    obtain rfl : uv = Value.ref a := rv
    obtain rfl : uy = Value.ref a2 := ry
    obtain ⟨ox, od, J⟩ := ins_at I hH
    obtain ⟨ox2, od2, J2⟩ := ins_at I hH2
    obtain ⟨m0, fr⟩ := I.fr
    show wpAny (model X.prog X.w) X.A (richCompare .Eq (.ref a) (.ref a2)) _ _ s
    refine PySem.W.cmp_K (op := .Eq) (tb := .ref C) b.hr.units0 fr I.ok.mod.kin J J2.type (by simp [PySem.W.notFirst]) hM.at_ hM.fn ?_
    refine wpAny_mono (run_own2 b hk F hB I Hh q1 q2 rfl F1) (fun z s' hz => ?_) fun _ _ z => z
    obtain ⟨v, H', I', rv', bb, rfl, hq⟩ := hz
    obtain rfl : z = Value.bool bb := rv'
    exact ⟨.bl bb, H', I', rfl, hq⟩
  obtain ⟨rr, c1, c2⟩ := o_eq b
  refine ⟨_, h1.or c1, fun E r H lh a b v u Q Hh ra rb F1 => ?_⟩
  unfold eqO at F1
  split at F1
  · rename_i C1 f1 C2 f2 hi1 hi2
    split at F1
    · rename_i hC
      obtain ⟨rfl, rfl⟩ := hC
      obtain ⟨j, a', dx, gs, rfl, hn, rfl, hH, hf⟩ := insAt_to Hh ra hi1
      obtain ⟨j2, a2, dx2, gs2, rfl, hn2, rfl, hH2, hf2⟩ := insAt_to Hh rb hi2
      exact .inl ⟨⟨a', dx, gs, r, lh, _, _, rfl, hH, Hh, ra, rb, FinG.bo_any F1⟩, a2, dx2, gs2, rfl, hH2⟩
    · exact F1.elim
  · exact .inr (c2 E r H lh a b v u Q Hh ra rb F1)
  · exact F1.elim
end
end NL
set_option maxRecDepth 100000
set_option maxHeartbeats 1000000
/-! Static and class methods, called on the class. -/
namespace NL
open PySem PySem.Spec L2
/-- C.x is a static method: its record at p, its def at g -/
structure SMet (K : PySem.W.Frag) (C : Addr) (mc : Value) (m : Str) (p g : Addr) : Prop where
  at_ : PySem.W.findCls K (.ref C) mc m = some (.get (.builtin "staticmethod.__get__") (.ref p) .none (.ref C))
  rc : ∃ rest, PySem.W.recIn K p "staticmethod" = some (.ref g :: rest)
  kp : PySem.W.keepIn K (.ref g) = true
structure FnT (P : Program) (w : World) (K : PySem.W.Frag) (mg : Str → Option Value) (base : Heap) (C : Addr) (x q : Str) (st : Stmt) (ps : List Str) (k : Nat) (m : FM) : Prop where
  ex : ∃ (p g : Addr) (fd : FuncData) (mc : Value), FnOk P w K mg base (L2.CX P w) k g fd ps (spD K mg ps.length m) ∧ ClX.CRead K C mc ∧ SMet K C mc x p g ∧ Binds K fd ps []
structure FnTF (K : PySem.W.Frag) (C : Addr) (x q : Str) (st : Stmt) : Prop where
  ex : ∃ (p g : Addr) (fd : FuncData) (mc : Value), ClX.CRead K C mc ∧ SMet K C mc x p g ∧ Fun K x q st g fd
section
variable {P : Program} {w : World} {K : PySem.W.Frag} {mg : Str → Option Value} {base : Heap} {C : Addr} {x q : Str} {st : Stmt} {N ps : List Str} {k : Nat} {m : SM}
theorem fnT_of (F : FnTF K C x q st) (S : FnScope N ps (defScope st))
    (hbi : ∀ (kV doc pm : Value) (an : Option Addr) (cdv ct : Value) (us : List Value), us.length = ps.length → bindArgs (PySem.W.fnOf x q (defArgs st) (defBody st) (defScope st) .none kV doc pm an cdv ct) ⟨us, []⟩ = pure (ps.zip us))
    (hb : ∀ (f : Addr) (cdv : Value) (A : Around) (outer : List Env) (s : Shared) (H : Hp) (E : XK), Bk k (cxOf (L2.CX P w) P w K mg base N q (defScope st) f cdv A outer s H E) (fun cls d _ H => E cls d H) →
      DSs (cxOf (L2.CX P w) P w K mg base N q (defScope st) f cdv A outer s H E) (fun cls d _ H => E cls d H) (defBody st) m) :
    FnT P w K mg base C x q st ps (k + 1) (fnM N.length m) := by
  obtain ⟨p, g, fd, mc, h1, h2, F⟩ := F.ex
  refine ⟨p, g, fd, mc, ?_, h1, h2, F.binds hbi⟩
  refine Fun.okX F S (fun vs H Q E h => h.1) fun cdv A outer s H vs Q E hr h => ?_
  exact ⟨_, hb g cdv A outer s H E ⟨rfl, takes_of rfl rfl rfl rfl, S.nd, passes_of rfl, hr⟩, spD_to (ps := ps) rfl rfl h⟩
end
section
variable {X : Cx} {W : WX}
theorem getsm_ok {pl : Sem Bool} {pins : List (Addr × Obj)} {σ : L2.St} {H : Hp} {s : Shared} {C p g : Addr} {mc : Value} {m : Str} {A : Around} {E : Value → Shared → Prop} {Q : Value × List Value → Shared → Prop} (I : Inv X pins σ H s) (r : ClX.CRead X.K C mc) (k : SMet X.K C mc m p g)
    (h : ∀ s', Inv X pins σ H s' → Q (.ref g, []) s') : wpAny (model X.prog X.w) A (getMethod (.ref C) m pl) Q E s := by
  refine PySem.W.method_cls I.kIn r.ga ?_
  obtain ⟨rest, hp⟩ := k.rc
  refine PySem.W.cls_bind I.kIn r.rd k.at_ ?_
  refine wpAny_call (PySem.W.sm_get (s := { s with toks := s.toks + 1 }) I.kIn hp ?_)
  exact PySem.W.handed_on rfl (h _ (I.tok _))
def isCls (C : Addr) (d : D) : Bool := match d with | .raw (.ref C') => C' == C | _ => false
theorem isCls_to {K r H} {C : Addr} {d : D} {v : V} (h : isCls C d = true) (q : Rel K r H d v) : v = .ref C := by
  cases q with
  | raw v =>
    cases v with
    | ref a =>
      have : (a == C) = true := h
      rw [beq_iff_eq] at this
      rw [this]
    | _ => cases h
  | _ => cases h
def staM (C : Addr) (m : FM) (mo : M) (ma : MA) : M := fun e lh => (mo e lh).bind fun o l1 => if isCls C o = true then (ma e l1).bind fun ds l2 => m ds l2 else .bad
theorem de_static {k n : Nat} {C : Addr} {o e : Expr} {es : List Expr} {f q : Str} {st : Stmt} {ps : List Str} {m : FM} {mo : M} {ma : MA} {apos pos : Pos} {pl : Sem Bool} (b : Bk n X W) (G : FnT X.prog X.w X.K X.mg X.base C f q st ps k m) (hk : k ≤ n)
    (ho : DE X W o mo) (ha : DA X W (e :: es) ma) (hl : (e :: es).length = ps.length := by rfl)
    (hst : starEach (e :: es) X.env = (false, eval e X.env) :: starEach es X.env := by rfl) (hpl : (backTo pos (starEach es X.env)).any (·.1) = false := by rfl)
    (ht : eval (.Call (.Attribute o f apos) (e :: es) [] pos) X.env = (do
      let ov ← eval o X.env
      standAt apos.atName
      let (f, first) ← holding [ov] (getMethod ov f pl)
      callWith pos f first (backTo pos (starEach (e :: es) X.env)) (backToKw pos (keywordEach [] X.env))) := by rfl) :
    DE X W (.Call (.Attribute o f apos) (e :: es) [] pos) (staM C m mo ma) := by
  obtain ⟨p, g, fd, mc, F, hC, hS, hB⟩ := G.ex
  refine ⟨fun pins s σ H Q I w => ?_⟩
  refine PySem.W.methodCall_KW (pl := pl) (thn (PE.run ho pins s σ H (fun v H1 => v = .ref C ∧ tG X W (RelL X.K) ma σ H1 fun vs H2 => spD X.K X.mg ps.length m vs H2 Q (WE W σ)) I ?_) fun u s1 ⟨x, H1, I1, rx, ex, q1⟩ => ?_) ht
  · obtain ⟨r, e, lh, S, Hh, F1⟩ := w
    refine tG_of S Hh ((FinG.bind (R := Rel X.K) F1).imp fun v H1 ⟨r1, l1, x, y1, z1, w1, F2⟩ => ?_)
    split at F2
    · rename_i hi
      refine ⟨isCls_to hi w1, ?_⟩
      refine tG_of (S.mono y1) z1 (FinG.len ha ((FinG.bind (R := RelL X.K) F2).imp fun vs H2 ⟨r2, l2, x2, y2, z2, w2, F3⟩ hlen => ?_))
      exact ⟨by rw [hlen, hl], r2, l2, _, z2, w2, F3⟩
    · exact F2.elim
  · subst ex
    obtain rfl : u = Value.ref C := rx
    refine getsm_ok I1 hC hS fun s2 I2 => ?_
    refine PySem.W.callWith_K (first := []) (h₀ := X.base) I.ok.mod.kin hS.kp (thn (ha.pa.run pos pins s2 σ H1 _ I2 q1) fun us s3 ⟨vs, H2, I3, r, q2⟩ => ⟨I3.kIn, ?_⟩) hst hpl
    exact run_fnS (us := us) (vs := vs) F (b.hr.mono hk) hB (passAt b.tk σ) I3 r q2
/-- a class of the text, read by its name -/
theorem de_cls {C : Addr} {x : Str} {pos : Pos} (hm : X.mg x = some (.ref C)) (hg : Gl X x := by rfl) (hd : (x == ("__debug__" : Str)) = false := by decide) : DE X W (.Name x pos) (conM (.raw (.ref C))) :=
  de_glob (v := .ref C) hm rfl (fun _ _ => .raw _) hg hd
end
end NL
set_option maxRecDepth 100000
set_option maxHeartbeats 1000000
/-! A text with classes: facts, and the law's end where what a def computes knows the classes' places. -/
namespace NL
open PySem PySem.Spec L2
abbrev CA := Str → Addr
def cOf (mg : Str → Option Value) : CA := fun x => match mg x with | some (.ref a) => a | _ => 0
theorem cOf_at {mg : Str → Option Value} {x : Str} {a : Addr} (h : mg x = some (.ref a)) : cOf mg x = a := by unfold cOf; rw [h]
def inCls (st : Stmt) (j : Nat) : Stmt := match st with
  | .ClassDef _ _ _ body _ _ _ _ _ _ _ => body.getD j (.Pass ⟨0, 0, 0, 0⟩)
  | _ => .Pass ⟨0, 0, 0, 0⟩
section
variable {K : PySem.W.Frag} {C : Addr} {x q : Str} {st : Stmt} {f p : Addr} {oc : Value} {od an : Option Addr} {osl : Array (Option Value)} {kV doc pm cdv ct mc : Value} {rest : List Value}
theorem fnCF_mk (a : PySem.W.findIn K (.ref C) x = some (some (.ref f))) (n : PySem.W.isFn K (.ref f) = true) (l : K.lookup f = some ⟨oc, od, .func (PySem.W.fnOf x q (defArgs st) (defBody st) (defScope st) .none kV doc pm an cdv ct), osl⟩) (c : PySem.W.codeIn K cdv q = true) (k : PySem.W.keepIn K (.ref f) = true) : FnCF K C x q st :=
  ⟨f, _, ⟨a, n, k⟩, fun_mk l c k⟩
theorem fnPF_mk (a : PySem.W.findIn K (.ref C) x = some (some (.ref p))) (g : PySem.W.specialIn K (.ref p) "__get__" = some (some (.builtin "property.__get__"))) (t : PySem.W.takesIn K (.ref p) = some true) (r : PySem.W.recIn K p "property" = some (.ref f :: rest))
    (l : K.lookup f = some ⟨oc, od, .func (PySem.W.fnOf x q (defArgs st) (defBody st) (defScope st) .none kV doc pm an cdv ct), osl⟩) (c : PySem.W.codeIn K cdv q = true) (k : PySem.W.keepIn K (.ref f) = true) : FnPF K C x q st :=
  ⟨p, f, _, ⟨a, g, t, rest, r⟩, fun_mk l c k⟩
theorem fnTF_mk (rd : PySem.W.readsIn K C mc = true) (ga : PySem.W.specialIn K (.ref C) "__getattribute__" = some (some (.builtin "type.__getattribute__"))) (a : PySem.W.findCls K (.ref C) mc x = some (.get (.builtin "staticmethod.__get__") (.ref p) .none (.ref C))) (r : PySem.W.recIn K p "staticmethod" = some (.ref f :: rest))
    (l : K.lookup f = some ⟨oc, od, .func (PySem.W.fnOf x q (defArgs st) (defBody st) (defScope st) .none kV doc pm an cdv ct), osl⟩) (c : PySem.W.codeIn K cdv q = true) (k : PySem.W.keepIn K (.ref f) = true) : FnTF K C x q st :=
  ⟨p, f, _, mc, ⟨rd, ga⟩, ⟨a, ⟨rest, r⟩, k⟩, fun_mk l c k⟩
/-- what making an instance needs: the class's record, its __init__ -/
structure FnIF (K : PySem.W.Frag) (C : Addr) (q : Str) (st : Stmt) : Prop where
  ex : ∃ (f : Addr) (fd : FuncData), Mk K C f ∧ Fun K "__init__" q st f fd
theorem fnIF_mk (m : PySem.W.makesIn K C = true) (a : PySem.W.findIn K (.ref C) "__init__" = some (some (.ref f))) (n : PySem.W.isFn K (.ref f) = true) (kc : PySem.W.keepIn K (.ref C) = true)
    (l : K.lookup f = some ⟨oc, od, .func (PySem.W.fnOf "__init__" q (defArgs st) (defBody st) (defScope st) .none kV doc pm an cdv ct), osl⟩) (c : PySem.W.codeIn K cdv q = true) (k : PySem.W.keepIn K (.ref f) = true) : FnIF K C q st :=
  ⟨f, _, ⟨m, a, n, kc⟩, fun_mk l c k⟩
/-- an __init__ with a star parameter and a keyword, made -/
structure FnI2 (P : Program) (w : World) (K : PySem.W.Frag) (mg : Str → Option Value) (base : Heap) (C : Addr) (kn : Str) (k : Nat) (m : FM) : Prop where
  ex : ∃ f : Addr, Mk K C f ∧ InitA P w K mg base k f kn m
theorem fnI2_of {P : Program} {w : World} {mg : Str → Option Value} {base : Heap} {N : List Str} {k : Nat} {m : SM} {p0 pv pk : Str} (F : FnIF K C q st) (S : FnScope N [p0, pk, pv] (defScope st))
    (hbi : ∀ (kV doc pm : Value) (an : Option Addr) (cdv ct : Value) (u z : Value) (us : List Value), bindArgs (PySem.W.fnOf "__init__" q (defArgs st) (defBody st) (defScope st) .none kV doc pm an cdv ct) ⟨u :: us, [(pk, z)]⟩ = (newTuple us >>= fun t => pure [(p0, u), (pk, z), (pv, t)]))
    (hb : ∀ (f : Addr) (cdv : Value) (A : Around) (outer : List Env) (s : Shared) (H : Hp) (E : XK), Bk k (cxOf (L2.CX P w) P w K mg base N q (defScope st) f cdv A outer s H E) (fun cls d _ H => E cls d H) →
      DSs (cxOf (L2.CX P w) P w K mg base N q (defScope st) f cdv A outer s H E) (fun cls d _ H => E cls d H) (defBody st) m) :
    FnI2 P w K mg base C pk (k + 1) (fnM N.length m) := by
  obtain ⟨f, fd, hM, F⟩ := F.ex
  exact ⟨f, hM, initA_of F S hbi hb⟩
end
section
variable {X : Cx} {W : WX}
theorem de_new {k n : Nat} {C : Addr} {x kn : Str} {m : FM} {p pos kp : Pos} {e v : Expr} {es : List Expr} {ma mk : MA} (b : Bk n X W) (G : FnI2 X.prog X.w X.K X.mg X.base C kn k m) (hk : k + 1 ≤ n) (hm : X.mg x = some (.ref C))
    (ha : DA X W (e :: es) ma) (hv : DK X W [⟨some kn, v, kp⟩] mk) (hg : Gl X x := by rfl) (hall : (backToKw pos (keywordEach [⟨some kn, v, kp⟩] X.env)).all (·.1.isSome) = true := by rfl) (hks : (backToKw pos (keywordEach [⟨some kn, v, kp⟩] X.env)).filterMap (·.1) = [kn] := by rfl)
    (hdb : (x == ("__debug__" : Str)) = false := by decide) (he : starEach (e :: es) X.env = (false, eval e X.env) :: starEach es X.env := by rfl)
    (hpl : ((backTo pos (starEach (e :: es) X.env)).any (·.1) || (backToKw pos (keywordEach [⟨some kn, v, kp⟩] X.env)).any (·.1.isNone)) = false := by rfl) :
    DE X W (.Call (.Name x p) (e :: es) [⟨some kn, v, kp⟩] pos) (mkM C m ma mk) := by
  obtain ⟨f, hM, F⟩ := G.ex
  exact de_mkK b hM F hk hm ha hv hg hall hks hdb he hpl
end
/-- the law's end where the defs know the classes -/
theorem law_walkC {l : PySem.W.OpenLaw} {k : Nat} {q : Program} {loose : List Str} {XP : (Str → Option Value) → Heap → Prop} {YP : World → Heap → Prop} {d : DefRec} {K : Params → PySem.W.Frag} {x y : Str} {st : Stmt} {m : CA → FM} {TX : PySem.W.Frag → (Str → Option Value) → Prop}
    (hn : l.most = some 63) (hdf : d.params.defaults = []) (hnm : d.name = y) (hr : Room k callerA) (hY : ∀ (w : World) (h : Heap), YP w h → (K w.params).In h)
    (hbi : ∀ (kV doc pm : Value) (an : Option Addr) (cdv ct : Value) (s : Shared) (u : Value), BindsTo s (PySem.W.fnOf y y (defArgs st) (defBody st) (defScope st) .none kV doc pm an cdv ct) ⟨[u], []⟩ [(x, u)])
    (fF : ∀ {K mg}, TX K mg → FnF K mg y st) (ok : ∀ {P w K mg base}, TX K mg → FnS P w K mg base y st [x] k (m (cOf mg)))
    (hm : ∀ (c : CA) (ns : List Int), ns.length ≤ 63 → ∃ lh', m c [.fl (ns.map D.int)] [] = .ok (.bl true) lh')
    (F : ∀ (w : World) (mg : Str → Option Value) (h : Heap), (K w.params).In h → h.Ns mainGlobals mg → TX (K w.params) mg) :
    PySem.W.WalkO q loose XP YP l.row.toRowW d [] (fun f vs => PySem.call f vs) := by
  refine L2.walk_of (n := 63) (k := k) (x := x) (CX := fun w => L2.CX l.prog w) (sp := fun w => spL (K w.params)) hn (by decide) hdf hr hY ?_ ?_ ?_
  · intro w mg fa h KX G hmg
    have T := F w mg h KX G
    obtain ⟨f, fd, h1, h2⟩ := (fF T).ex
    rw [hnm, h1] at hmg
    cases hmg
    refine ⟨fd, fun s u => ?_, fun base _ _ => ?_⟩
    · obtain ⟨oc, od, kV, doc, pm, an, cdv, ct, osl, rfl, lk, hcd⟩ := h2.ex
      exact hbi kV doc pm an cdv ct s u
    · obtain ⟨f', fd', g1, g2, g3, _⟩ := (ok (P := l.prog) (w := w) (base := base) T).ex
      rw [h1] at g2
      cases g2
      rw [fun_inj h2 g3]
      exact g1.imp fun vs H Q E z => law_sp (hm (cOf mg)) vs H Q E z
  · intro w H a ns hl hO hS
    refine ⟨a, ns, rfl, ?_, hl, fun _ => rfl⟩
    rcases hS with (h | h) | h
    · rcases hO a with z | ⟨o, xs, z⟩
      · rw [h] at z; cases z
      · rw [h] at z; cases z
    · exact .inl h
    · exact .inr h
  · rintro w H s e s' ⟨_, _, _, _, _, _, _, _, _, _, _, _, z⟩
    exact z
end NL
set_option maxRecDepth 100000
set_option maxHeartbeats 1000000
/-! Starred displays; list.index of ints. -/
namespace NL
open PySem PySem.Spec L2
section
variable {X : Cx} {W : WX}
/-- items of a display or an argument list, stars among them -/
def DP (X : Cx) (W : WX) (es : List Expr) (ma : MA) : Prop := PA X es (tG X W (RelL X.K) ma)
theorem dp_nil : DP X W [] nilA := da_nil.pa
theorem dp_cons {e : Expr} {es : List Expr} {ma : M} {mr : MA} (ha : DE X W e ma) (hr : DP X W es mr) (hs : starEach (e :: es) X.env = (false, eval e X.env) :: starEach es X.env := by rfl) : DP X W (e :: es) (consA ma mr) := by
  refine pa_imp (pa_cons ha hr hs) fun s H Q ⟨r, e, lh, S, Hh, F⟩ => ?_
  refine tG_of S Hh ((FinG.bind (R := Rel X.K) F).imp fun v H1 ⟨r1, l1, x, y1, z1, w1, F1⟩ => ?_)
  refine tG_of (S.mono y1) z1 ((FinG.bind (R := RelL X.K) F1).imp fun vs H2 ⟨r2, l2, x2, y2, z2, w2, F2⟩ => ?_)
  exact F2.ok z2 (.cons (w1.mono y2) w2)
/-- what a star opens -/
def opn (lh : LH) (d : D) : Option (List D) := match d with
  | .tup xs => some xs
  | d => sq lh d
theorem opn_to {K r H} {lh : LH} {d : D} {v : V} {xs : List D} (hs : SimH K r H lh) (q : Rel K r H d v) (h : opn lh d = some xs) : ∃ p ys, v = .ref p ∧ (SqT K H p ys ∨ SqL K H p ys) ∧ RelL K r H xs ys := by
  unfold opn at h
  split at h
  · cases h
    cases q with
    | tup e z => exact ⟨_, _, rfl, .inl e, z⟩
  · obtain ⟨a, vs, rfl, h0, rl⟩ := sq_to hs q h
    exact ⟨a, vs, rfl, .inr h0, rl⟩
def starA (m : M) (mr : MA) : MA := fun e lh => (m e lh).bind fun d l => match opn l d with
  | some xs => (mr e l).bind fun ds l2 => .ok (xs ++ ds) l2
  | none => .bad
theorem dp_star {e : Expr} {es : List Expr} {m : M} {mr : MA} {p : Pos} (h : DE X W e m) (hr : DP X W es mr) (hs : starEach (.Starred e p :: es) X.env = (true, eval e X.env) :: starEach es X.env := by rfl) : DP X W (.Starred e p :: es) (starA m mr) := by
  refine pa_imp (StX.pa_star h hr hs) fun s H Q ⟨r, e, lh, S, Hh, F⟩ => ?_
  refine tG_of S Hh ((FinG.bind (R := Rel X.K) F).imp fun v H1 ⟨r1, l1, x, y1, z1, w1, F1⟩ => ?_)
  split at F1
  · rename_i xs exs
    obtain ⟨p, ys, rfl, h0, rl⟩ := opn_to z1 w1 exs
    refine ⟨p, ys, rfl, h0, ?_⟩
    refine tG_of (S.mono y1) z1 ((FinG.bind (R := RelL X.K) F1).imp fun vs H2 ⟨r2, l2, x2, y2, z2, w2, F2⟩ => ?_)
    exact F2.ok z2 ((rl.mono y2).app w2)
  · exact F1.elim
def tupSM (ma : MA) : M := fun e lh => (ma e lh).bind fun ds l => if ds.length ≤ 1000 then .ok (.tup ds) l else .bad
def lstSM (ma : MA) : M := fun e lh => (ma e lh).bind fun ds l => if ds.length ≤ 1000 then .ok (.loc l.length) (l ++ [.lst ds]) else .bad
theorem de_tupS {es : List Expr} {ma : MA} {k : Nat} {pos : Pos} (h : DP X W es ma) : DE X W (.Tuple es k pos) (tupSM ma) := by
  refine pe_imp (pe_tup h) fun s H Q ⟨r, e, lh, S, Hh, F⟩ => ?_
  refine tG_of S Hh ((FinG.bind (R := RelL X.K) F).imp fun vs H1 ⟨r1, l1, x, y1, z1, w1, F1⟩ => ?_)
  split at F1
  · rename_i hz
    refine ⟨by rw [← w1.length]; exact Nat.le_of_lt (small1000 hz), fun p hp => ?_⟩
    exact F1.to (Ext.laid hp) (z1.laidT hp) (.tup (.of upd_same) (w1.mono (Ext.laid hp)))
  · exact F1.elim
theorem de_lstS {es : List Expr} {ma : MA} {pos : Pos} (h : DP X W es ma) : DE X W (.List es pos) (lstSM ma) := by
  refine pe_imp (pe_lst h) fun s H Q ⟨r, e, lh, S, Hh, F⟩ => ?_
  refine tG_of S Hh ((FinG.bind (R := RelL X.K) F).imp fun vs H1 ⟨r1, l1, x, y1, z1, w1, F1⟩ => ?_)
  split at F1
  · rename_i hz
    refine ⟨by rw [← w1.length]; exact Nat.le_of_lt (small1000 hz), fun p hp => ?_⟩
    exact F1.to (Ext.more hp) (z1.laid hp w1) (.loc (laid_new z1))
  · exact F1.elim
/-! ### list.index of ints -/
def fstI (x : Int) : List Int → Option Nat
  | [] => none
  | y :: r => if y = x then some 0 else (fstI x r).map (· + 1)
theorem fstI_at {x : Int} : ∀ {l : List Int} {j : Nat}, fstI x l = some j → l[j]? = some x ∧ ∀ m, m < j → l[m]? ≠ some x
  | [], j, h => by cases h
  | y :: r, j, h => by
    unfold fstI at h
    split at h
    · rename_i e
      cases h
      subst e
      exact ⟨rfl, fun m hm => absurd hm (Nat.not_lt_zero m)⟩
    · rename_i e
      cases q : fstI x r with
      | none => rw [q] at h; cases h
      | some i =>
        rw [q] at h
        cases h
        obtain ⟨a, b⟩ := fstI_at q
        refine ⟨a, fun m hm => ?_⟩
        cases m with
        | zero => simpa using e
        | succ m => exact b m (Nat.lt_of_succ_lt_succ hm)
def indexD : D → List D → LH → Re D := fun o ds lh => match ds with
  | [.int x] => match sq lh o with
    | some xs => (match intL xs with | some ns => (match fstI x ns with | some j => .ok (.int j) lh | none => .bad) | none => .bad)
    | none => .bad
  | _ => .bad
theorem m_index : MtD X "list.index" indexD := by
  refine ⟨_, mt_index, fun E r H lh d ds v vs Q Hh q ql F => ?_⟩
  unfold indexD at F
  split at F
  · rename_i x
    cases ql with
    | cons p pl =>
      cases p
      cases pl
      split at F
      · rename_i xs exs
        obtain ⟨a, ws, rfl, h0, rl⟩ := sq_to Hh q exs
        split at F
        · rename_i ns ens
          have e := intL_to rl ens
          subst e
          split at F
          · rename_i j ej
            obtain ⟨a1, a2⟩ := fstI_at ej
            refine ⟨a, ns.map V.int, .int x, j, .int x, rfl, rfl, h0, rfl, ?_, ?_, ?_, fun m z hm hz => ?_, F.ok Hh (.int _)⟩
            · rw [List.all_map]; exact List.all_eq_true.mpr fun _ _ => rfl
            · rw [List.getElem?_map, a1]; rfl
            · exact beq_self_eq_true x
            · rw [List.getElem?_map] at hz
              cases q2 : ns[m]? with
              | none => rw [q2] at hz; cases hz
              | some y =>
                rw [q2] at hz
                cases hz
                have := a2 m hm
                rw [q2] at this
                show (y == x) = false
                simpa using this
          · exact F.elim
        · exact F.elim
      · exact F.elim
  · exact F.elim
end
end NL
set_option maxRecDepth 100000
set_option maxHeartbeats 1000000
/-! o.f += n, o.f -= n, of ints. -/
namespace NL
open PySem PySem.Spec L2
section
variable {X : Cx} {W : WX}
/-- o.f op= v, of ints: the field read before v, the fields looked at again behind it -/
def augF (C : Addr) (f : Str) (g : Int → Int → Int) (mo mv : M) : SM := fun e lh => toS e (fun o l1 => match o, insAt l1 o with
  | .loc n, some (C1, fs) => if C1 = C then (match fs.lookup f with
    | some (.int i) => toS e (fun d l2 => match d, insAt l2 (.loc n) with
      | .int j, some (C2, fs2) => if C2 = C ∧ fs2.length < 1000 then .nx e (l2.set n (.ins C (putD f (.int (g i j)) fs2))) else .bad
      | _, _ => .bad) (mv e l1)
    | _ => .bad) else .bad
  | _, _ => .bad) (mo e lh)
theorem ds_augF {C : Addr} {o v : Expr} {f : Str} {op : Operator} {g : Int → Int → Int} {mo mv : M} {tpos pos : Pos} (t : ClsF X.K C f) (hop : InOp X op (fun x y H Q => ∃ i j, x = .int i ∧ y = .int j ∧ Q (.int (g i j)) H)) (ho : DE X W o mo) (hv : DE X W v mv) : DS X W (.AugAssign (.Attribute o f tpos) op v pos) (augF C f g mo mv) := by
  refine ps_imp (ps_fldaug ho hv hop) fun T s H ⟨r, e, lh, S, Hh, F⟩ => ?_
  refine tG_of S Hh ((FinS.val S F).imp fun ov H1 ⟨r1, l1, d, a, b, c, F1⟩ => ?_)
  split at F1
  · rename_i n C1 fs hi
    split at F1
    · rename_i hC
      subst hC
      obtain ⟨n', a', dx, gs, en, hn, rfl, ha, hf⟩ := insAt_to b c hi
      cases en
      split at F1
      · rename_i i hz
        obtain ⟨w, hw, rw'⟩ := hf.get.1 _ hz
        cases rw'
        refine ⟨a', _, dx, gs, .int i, rfl, ha, t.c, t.n, hw, ?_⟩
        refine tG_of (S.mono a) b ((FinS.val (S.mono a) F1).imp fun y H2 ⟨r2, l2, d2, a2, b2, c2, F2⟩ => ?_)
        split at F2
        · rename_i j C2 fs2 hi2
          split at F2
          · rename_i hC2
            obtain ⟨rfl, hl⟩ := hC2
            cases c2
            obtain ⟨n2, a3, dx2, gs2, en2, hn2, ev, ha2, hf2⟩ := insAt_to b2 (.loc (a2.pre _ _ hn)) hi2
            cases en2
            cases ev
            refine ⟨i, j, rfl, rfl, dx2, gs2, ha2, by rw [← hf2.len]; exact hl, ?_⟩
            have x : Ext X.K r2 H2 r2 (upd H2 a' (.ins C2 dx2 (putF f (.int (g i j)) gs2))) := Ext.wrO ha2 trivial
            exact F2 r2 _ s x (((S.mono a).mono a2).mono x) (b2.wrO hn2 ha2 trivial ⟨dx2, _, upd_same, RelF.put (.int _) (hf2.mono x)⟩)
          · exact F2.elim
        · exact F2.elim
      · exact F1.elim
    · exact F1.elim
  · exact F1.elim
theorem i_add : InOp X .Add (fun x y H Q => ∃ i j, x = .int i ∧ y = .int j ∧ Q (.int (i + j)) H) := in_add
theorem i_sub : InOp X .Sub (fun x y H Q => ∃ i j, x = .int i ∧ y = .int j ∧ Q (.int (i - j)) H) := in_sub
/-- o[i], o a list, i from its beginning -/
def rGet (K : PySem.W.Frag) : V → V → Hp → VK → Prop := fun o i H Q => ∃ (p : Addr) (xs : List V) (k : Nat) (z : V), o = .ref p ∧ i = .int k ∧ SqL K H p xs ∧ xs[k]? = some z ∧ Q z H
theorem get_at : PGet X (rGet X.K) := fun pins s σ H o i ov iv Q I r1 r2 w => by
  obtain ⟨p, xs, k, z, rfl, rfl, hq, hz, q⟩ := w
  cases r1
  obtain ⟨t, rfl⟩ := r2
  obtain ⟨its, r, pl, hs⟩ := I.list hq
  obtain ⟨u, hu, ru⟩ := r.get hz
  have hl := r.length
  have hk : k < its.length := (List.getElem?_eq_some_iff.mp hu).1
  have hn := line63
  exact wpAny_getItem_list pl.isList (by omega) (by omega) (by simpa using hu) ⟨z, H, I, ru, q⟩
/-- o[i] op= v, of ints in a list -/
def augS (g : Int → Int → Int) (mo mi mv : M) : SM := fun e lh => toS e (fun o l1 => toS e (fun i l2 => match o, i with
  | .loc n, .int k => match lh' l2 n k with
    | some a => toS e (fun y l4 => match y with
      | .int b => setR (.loc n) (.int k) (.int (g a b)) e l4
      | _ => .bad) (mv e l2)
    | none => .bad
  | _, _ => .bad) (mi e l1)) (mo e lh)
where lh' (l : LH) (n : Nat) (k : Int) : Option Int := if 0 ≤ k then (match sq l (.loc n) with | some xs => (match xs[k.toNat]? with | some (.int a) => some a | _ => none) | none => none) else none
theorem augS_get {l : LH} {n : Nat} {k a : Int} (h : augS.lh' l n k = some a) : 0 ≤ k ∧ ∃ xs, sq l (.loc n) = some xs ∧ xs[k.toNat]? = some (.int a) := by
  unfold augS.lh' at h
  split at h
  · rename_i h0
    refine ⟨h0, ?_⟩
    split at h
    · rename_i xs exs
      split at h
      · rename_i a' e
        cases h
        exact ⟨xs, exs, e⟩
      · cases h
    · cases h
  · cases h
theorem ds_augS {o i v : Expr} {op : Operator} {g : Int → Int → Int} {mo mi mv : M} {tpos pos : Pos} (hop : PIp X op (ipI g)) (ho : DE X W o mo) (hi : DE X W i mi) (hv : DE X W v mv)
    (ha : ∀ ov iv new, augStore i ov iv new = (do holding [new, ov, iv] (setItem ov iv new); release [new, ov, iv] []; pure .next) := by intros; rfl) : DS X W (.AugAssign (.Subscript o i tpos) op v pos) (augS g mo mi mv) := by
  refine ps_imp (ps_augS ho hi get_at hv hop set_list ha) fun T s H ⟨r, e, lh, S, Hh, F⟩ => ?_
  refine tG_of S Hh ((FinS.val S F).imp fun ov H1 ⟨r1, l1, o1, a1, b1, c1, F1⟩ => ?_)
  have S1 := S.mono a1
  refine tG_of S1 b1 ((FinS.val S1 F1).imp fun iv H2 ⟨r2, l2, i1, a2, b2, c2, F2⟩ => ?_)
  have S2 := S1.mono a2
  have c1 := c1.mono a2
  split at F2
  · rename_i n k
    split at F2
    · rename_i a hget
      obtain ⟨h0, xs, exs, ex⟩ := augS_get hget
      obtain ⟨p, vs, rfl, hq, rl⟩ := sq_to b2 c1 exs
      obtain ⟨z, hz, rz⟩ := rl.get ex
      cases rz
      cases c2
      obtain ⟨k0, rfl⟩ := Int.eq_ofNat_of_zero_le h0
      refine ⟨p, vs, k0, .int a, rfl, rfl, hq, by simpa using hz, ?_⟩
      refine tG_of S2 b2 ((FinS.val S2 F2).imp fun yv H4 ⟨r4, l4, y1, a4, b4, c4, F4⟩ => ?_)
      have S4 := S2.mono a4
      split at F4
      · rename_i b
        cases c4
        refine ⟨a, b, rfl, rfl, ?_⟩
        have co := c1.mono a4
        unfold setR at F4
        cases co with
        | loc e1 =>
          dsimp only at F4
          split at F4
          · rename_i ys eys
            obtain ⟨us, h1, qs⟩ := b4.get e1 eys
            split at F4
            · rename_i j ej
              refine ⟨_, us, _, j, rfl, rfl, h1, by rw [← qs.length]; exact ej, ?_⟩
              exact F4 r4 _ s (Ext.wr h1) (S4.mono (Ext.wr h1)) (b4.wr e1 h1 (qs.set j (.int _)))
            · exact F4.elim
          · exact F4.elim
      · exact F4.elim
    · exact F2.elim
  · exact F2.elim
end
end NL
set_option maxRecDepth 100000
set_option maxHeartbeats 4000000
/-! sum(rows, []) of lists. -/
namespace NL
open PySem PySem.Spec L2
section
variable {prog : Program} {w : World} {A : Around} {R : Result → Shared → Prop} {I : Addr} {fp wr : List Addr} {n : Nat} {P : Nat → Value → Prop} {St : Nat → Heap → Prop}
def cutR (rows : Nat → List Value) : Nat → Nat → List Value
  | _, 0 => []
  | i, k + 1 => rows i ++ cutR rows (i + 1) k
theorem codeAny_sum_loopL (W : Walks prog w A.in1 I fp wr n P St) (bs : Nat → Addr) (rows : Nat → List Value) (hval : ∀ i v, i < n → P i v → v = .ref (bs i)) (S : Addr) (hSf : S ∉ fp)
    (hbw : ∀ j, j < n → bs j ∉ wr ∧ bs j ≠ S) (hwS : ∀ b ∈ wr, b < S) :
    ∀ (k i : Nat) (s : Shared) (T : Addr) (acc : List Value) (c c' : Nat), n - i = k → i ≤ n → St i s.heap → s.heap.get? S = some { cls := .type "list", dict := none, data := .seq #[.ref T] c, slots := #[] } →
      IsL s.heap T acc.toArray c' → T ∉ wr → T ≠ S → (∀ j, i ≤ j → j < n → ∃ m, IsL s.heap (bs j) (rows j).toArray m) → acc.length + (cutR rows i k).length ≤ sizeLine →
      (∀ h' tk p c'', (∀ b o, b ∉ wr → b ≠ S → s.heap.get? b = some o → h'.get? b = some o) → IsL h' p (acc ++ cutR rows i k).toArray c'' → (k = 0 ∧ p = T ∨ 0 < k ∧ S < p) → R (.ok (.ret (.ref p))) { s with heap := h', toks := tk }) →
      codeAny (model prog w) A (.builtin "sum.loop" ⟨[.ref I, .ref S, rawInt 2, rawInt 0], []⟩) R s := by
  have hSw : S ∉ wr := fun h => hSf (W.sub _ h)
  intro k
  induction k with
  | zero =>
    intro i s T acc c c' hk hi hst hS hT hTw hTS hrows hsz hR
    have hin : i = n := by omega
    subst hin
    refine codeAny_builtin F.entry_sum_loop ?_
    rw [Around.under_plainId F.plain_sum_loop _]
    show wpAny _ A.in1 (seqItems? (.ref S) >>= _) _ _ s
    refine wpAny_bind (wpAny_seqItems hS rfl ?_)
    show wpAny _ A.in1 (tryCatch (pyNext (.ref I)) _ >>= _) _ _ s
    refine wpAny_bind (wpAny_tryCatch (W.done s _ _ hst fun h' tk hk' => ?_))
    refine wpAny_pure (hR h' tk T c' (fun b o hbw _ e => hk' b o hbw e) ?_ (.inl ⟨rfl, rfl⟩))
    show IsL h' T (acc ++ []).toArray c'
    rw [List.append_nil]
    exact hk' T _ hTw hT
  | succ k ih =>
    intro i s T acc c c' hk hi hst hS hT hTw hTS hrows hsz hR
    have hlt : i < n := by omega
    refine codeAny_builtin F.entry_sum_loop ?_
    rw [Around.under_plainId F.plain_sum_loop _]
    show wpAny _ A.in1 (seqItems? (.ref S) >>= _) _ _ s
    refine wpAny_bind (wpAny_seqItems hS rfl ?_)
    show wpAny _ A.in1 (tryCatch (pyNext (.ref I)) _ >>= _) _ _ s
    refine wpAny_bind (wpAny_tryCatch (W.item i s _ _ hlt hst fun v h' tk hP hst' hk' => ?_))
    have hv := hval i v hlt hP
    subst hv
    have hS' := hk' S _ hSw hS
    have hT' : IsL h' T acc.toArray c' := hk' T _ hTw hT
    obtain ⟨m, hm⟩ := hrows i (Nat.le_refl _) hlt
    have hB' : IsL h' (bs i) (rows i).toArray m := hk' _ _ (hbw i hlt).1 hm
    have e1 : acc.toArray ++ (rows i).toArray = (acc ++ rows i).toArray := by simp
    have hsz' : acc.length + ((rows i).length + (cutR rows (i + 1) k).length) ≤ sizeLine := by
      have : (cutR rows i (k + 1)).length = (rows i).length + (cutR rows (i + 1) k).length := by
        show (rows i ++ cutR rows (i + 1) k).length = _
        rw [List.length_append]
      omega
    show wpAny _ A.in1 ((holding [Value.ref (bs i)] (binaryOp .Add (.ref T) (.ref (bs i)))).attempt >>= _) _ _ _
    refine wpAny_bind (wpAny_attempt (wpAny_holding (PySem.P.add_list (s := { s with heap := h', toks := tk }) hT' hB' ?_ (by rw [List.size_toArray, List.size_toArray]; omega))))
    rw [e1]
    have hSp : (h'.push { cls := .type "list", data := .seq (acc ++ rows i).toArray }).get? S = some { cls := .type "list", dict := none, data := .seq #[.ref T] c, slots := #[] } := Heap.get?_push_of_some _ hS'
    have hlS : S < h'.objs.size := Heap.lt_size hS'
    show wpAny _ A.in1 (updateSeq S (fun _ => #[.ref h'.objs.size]) >>= _) _ _ _
    refine wpAny_bind ?_
    refine wpAny_updateSeq hSp rfl ?_
    have hS2 := Heap.get?_update_self (Obj.mapSeq fun _ => #[Value.ref h'.objs.size]) hSp rfl
    refine wpAny_bind (wpAny_letGo ?_)
    refine wpAny_bind ?_
    have old : ∀ b o, b ≠ S → h'.get? b = some o → (((h'.push { cls := .type "list", data := .seq (acc ++ rows i).toArray }).update S (Obj.mapSeq fun _ => #[Value.ref h'.objs.size])).update S (Obj.mapSeq fun _ => #[Value.ref h'.objs.size])).get? b = some o := fun b o hb e =>
      (Heap.get?_update_other _ _ (Ne.symm hb)).trans ((Heap.get?_update_other _ _ (Ne.symm hb)).trans (Heap.get?_push_of_some _ e))
    have hnew : IsL (((h'.push { cls := .type "list", data := .seq (acc ++ rows i).toArray }).update S (Obj.mapSeq fun _ => #[Value.ref h'.objs.size])).update S (Obj.mapSeq fun _ => #[Value.ref h'.objs.size])) h'.objs.size (acc ++ rows i).toArray 0 :=
      (Heap.get?_update_other _ _ (Nat.ne_of_lt hlS)).trans ((Heap.get?_update_other _ _ (Nat.ne_of_lt hlS)).trans (Heap.get?_push_size _ rfl))
    refine wpAny_updateSeq hS2 rfl (wpAny_pure ⟨plainId_quiet F.plain_sum_loop _, ih (i + 1) _ h'.objs.size (acc ++ rows i) _ 0 (by omega) hlt (W.frame _ _ _ hst' fun b hb o e => old b o (fun h => hSf (h ▸ hb)) e) (Heap.get?_update_self _ hS2 rfl) hnew (fun hw => ?_) (Ne.symm (Nat.ne_of_lt hlS)) (fun j hj hjn => ?_) (by rw [List.length_append]; omega) fun h'' tk'' p c'' hk'' hp hor => ?_⟩)
    · exact absurd (hwS _ hw) (Nat.lt_asymm hlS)
    · obtain ⟨m, hm⟩ := hrows j (by omega) hjn
      exact ⟨m, old _ _ (hbw j hjn).2 (hk' _ _ (hbw j hjn).1 hm)⟩
    · refine hR h'' tk'' p c'' (fun b o hbw hbS e => hk'' b o hbw hbS (old b o hbS (hk' b o hbw e))) ?_ (.inr ?_)
      · show IsL h'' p (acc ++ (rows i ++ cutR rows (i + 1) k)).toArray c''
        rw [← List.append_assoc]
        exact hp
      · refine ⟨Nat.succ_pos _, ?_⟩
        rcases hor with ⟨_, rfl⟩ | ⟨_, hor⟩
        · exact hlS
        · exact hor
end
section
variable {prog : Program} {w : World} {A : Around} {E : Value → Shared → Prop} {s : Shared}
theorem args_sum2 (a b : Value) : argsOk "sum" ⟨[a, b], []⟩ := by unfold argsOk; kernel_rfl
theorem call_sumL {l T : Addr} {items : Array Value} {acc : List Value} {c' : Nat} {bs : Nat → Addr} {rows : Nat → List Value} {Q : Value → Shared → Prop} (hh : A.handled = none) (hl : s.heap.IsList l items) (hT : IsL s.heap T acc.toArray c')
    (hval : ∀ (i : Nat) (v : Value), items[i]? = some v → v = .ref (bs i)) (hrows : ∀ j, j < items.size → ∃ m, IsL s.heap (bs j) (rows j).toArray m) (hsz : acc.length + (cutR rows 0 items.size).length ≤ sizeLine)
    (h : ∀ h' tk p c'', (∀ b o, s.heap.get? b = some o → h'.get? b = some o) → IsL h' p (acc ++ cutR rows 0 items.size).toArray c'' → (items.size = 0 ∧ p = T ∨ 0 < items.size ∧ s.heap.objs.size ≤ p) → Q (.ref p) { s with heap := h', toks := tk }) :
    wpAny (model prog w) A (call (.builtin "sum") [.ref l, .ref T]) Q E s := by
  refine call_function_tree F.kind_sum F.plain_sum F.entry_sum (args_sum2 _ _) ?_
  unfold Builtin.«sum»
  simp only [List.length_cons, List.length_nil]
  rw [if_neg (by decide)]
  refine wpAny_bind (wpAny_of_eq (show Builtin.Builtins.bindParams "sum" ["start"] 0 ⟨[.ref T], []⟩ = pure [some (.ref T)] from rfl) ?_)
  have hlt : l < s.heap.objs.size := by obtain ⟨_, e, _⟩ := hl; exact Heap.lt_size e
  have hTlt : T < s.heap.objs.size := Heap.lt_size hT
  refine wpAny_bind (wpAny_pyIter_list hl ?_)
  have hT2 : IsL (s.heap.push { cls := .type "list_iterator", data := .fields #[.ref l, .int 0 0] }) T acc.toArray c' := Heap.get?_push_of_some _ hT
  refine wpAny_bind (wpAny_pure ?_)
  simp only [List.forIn_cons, List.forIn_nil]
  refine wpAny_bind (wpAny_bind (wpAny_bind (wpAny_isInstance (T := "list") (b := false) ⟨_, hT2, rfl⟩ F.sub_list_str ?_)))
  simp only [Bool.false_eq_true, if_false]
  refine wpAny_pure (wpAny_bind (wpAny_bind (wpAny_isInstance (T := "list") (b := false) ⟨_, hT2, rfl⟩ F.sub_list_bytes ?_)))
  simp only [Bool.false_eq_true, if_false]
  refine wpAny_pure (wpAny_bind (wpAny_bind (wpAny_isInstance (T := "list") (b := false) ⟨_, hT2, rfl⟩ F.sub_list_bytearray ?_)))
  simp only [Bool.false_eq_true, if_false]
  refine wpAny_pure (wpAny_pure ?_)
  refine wpAny_bind (wpAny_newObj_type ?_)
  have hs1 : (s.heap.push { cls := .type "list_iterator", data := .fields #[.ref l, .int 0 0] }).objs.size = s.heap.objs.size + 1 := Heap.size_push ..
  have hsI : s.heap.objs.size < (s.heap.push { cls := .type "list_iterator", data := .fields #[.ref l, .int 0 0] }).objs.size := by rw [hs1]; exact Nat.lt_succ_self _
  have hlow : ∀ b, b < s.heap.objs.size → b < (s.heap.push { cls := .type "list_iterator", data := .fields #[.ref l, .int 0 0] }).objs.size := fun b hb => Nat.lt_trans hb hsI
  have W := Walks.list (prog := prog) (w := w) (A := A.in1) hh s.heap.objs.size l (Nat.ne_of_lt hlt) items
  have hbl : ∀ j, j < items.size → bs j < s.heap.objs.size := fun j hj => by
    obtain ⟨m, hm⟩ := hrows j hj
    exact Heap.lt_size hm
  refine wpAny_pure ⟨plainId_quiet F.plain_sum_loop _, codeAny_sum_loopL W bs rows (fun i v _ hv => hval i v hv) (s.heap.push { cls := .type "list_iterator", data := .fields #[.ref l, .int 0 0] }).objs.size ?_ ?_ ?_ items.size 0 _ T acc 0 c' (Nat.sub_zero _) (Nat.zero_le _) ?_ ?_ ?_ ?_ ?_ ?_ hsz fun h' tk p c'' hk hp hor => ?_⟩
  · intro hm
    rcases List.mem_cons.mp hm with e | hm
    · exact Nat.ne_of_lt hsI e.symm
    · rcases List.mem_cons.mp hm with e | hm
      · exact Nat.ne_of_lt (hlow _ hlt) e.symm
      · cases hm
  · intro j hj
    refine ⟨fun hm => ?_, Nat.ne_of_lt (hlow _ (hbl j hj))⟩
    rcases List.mem_cons.mp hm with e | hm
    · exact Nat.ne_of_lt (hbl j hj) e
    · cases hm
  · intro b hb
    rcases List.mem_cons.mp hb with e | hm
    · rw [e]; exact hsI
    · cases hm
  · exact ⟨⟨_, Heap.get?_push_of_some _ (Heap.get?_push_size _ rfl), rfl, rfl⟩, (hl.push _).push _⟩
  · exact Heap.get?_push_size _ rfl
  · exact Heap.get?_push_of_some _ hT2
  · intro hm
    rcases List.mem_cons.mp hm with e | hm
    · exact Nat.ne_of_lt hTlt e
    · cases hm
  · exact Nat.ne_of_lt (hlow _ hTlt)
  · intro j _ hj
    obtain ⟨m, hm⟩ := hrows j hj
    exact ⟨m, Heap.get?_push_of_some _ (Heap.get?_push_of_some _ hm)⟩
  · refine h h' tk p c'' (fun b o e => hk b o (fun hm => ?_) (Nat.ne_of_lt (hlow _ (Heap.lt_size e))) (Heap.get?_push_of_some _ (Heap.get?_push_of_some _ e))) hp ?_
    · rcases List.mem_cons.mp hm with e2 | hm
      · exact Nat.ne_of_lt (Heap.lt_size e) e2
      · cases hm
    · rcases hor with ⟨a, b⟩ | ⟨a, hor⟩
      · exact .inl ⟨a, b⟩
      · exact .inr ⟨a, Nat.le_of_lt (Nat.lt_trans hsI hor)⟩
end
section
variable {X : Cx} {W : WX}
inductive RowsH (H : Hp) : List V → List (List V) → Prop
  | nil : RowsH H [] []
  | cons {a : Addr} {zs : List V} {us : List V} {zss : List (List V)} : H a = some (.lst zs) → RowsH H us zss → RowsH H (.ref a :: us) (zs :: zss)
theorem rows_heap {pins : List (Addr × Obj)} {s : Shared} {σ : L2.St} {H : Hp} (I : Inv X pins σ H s) : ∀ {us : List V} {zss : List (List V)} {its : List Value}, RowsH H us zss → Vals us its →
    ∃ ps : List (Addr × List Value), its = ps.map (fun p => Value.ref p.1) ∧ Vals zss.flatten (ps.map (·.2)).flatten ∧ ∀ p ∈ ps, ∃ m, IsL s.heap p.1 p.2.toArray m
  | _, _, _, .nil, .nil => ⟨[], rfl, .nil, fun _ h => by cases h⟩
  | _, _, _, .cons (a := a) h t, .cons r q => by
    obtain ⟨ps, e1, e2, e3⟩ := rows_heap I t q
    obtain ⟨z, its, n, rv, hl, e⟩ := I.lstM h
    cases r
    subst e1
    refine ⟨(a, its) :: ps, rfl, ?_, fun p hp => ?_⟩
    · show Vals (_ ++ _) (_ ++ _)
      exact rv.append e2
    · rcases List.mem_cons.mp hp with e0 | hp
      · subst e0; exact ⟨n, e⟩
      · exact e3 p hp
theorem cutR_drop (ps : List (Addr × List Value)) : ∀ (k i : Nat), i + k = ps.length → cutR (fun j => (ps[j]?.map (·.2)).getD []) i k = ((ps.drop i).map (·.2)).flatten
  | 0, i, h => by
    rw [List.drop_eq_nil_of_le (by omega)]
    rfl
  | k + 1, i, h => by
    have hi : i < ps.length := by omega
    rw [List.drop_eq_getElem_cons hi]
    show ((ps[i]?.map (·.2)).getD []) ++ cutR _ (i + 1) k = _
    rw [cutR_drop ps k (i + 1) (by omega), List.getElem?_eq_getElem hi]
    rfl
def rSumL : List V → Hp → VK → Prop := fun vs H Q => ∃ (a T : Addr) (us : List V) (zss : List (List V)) (acc : List V), vs = [V.ref a, V.ref T] ∧ H a = some (.lst us) ∧ H T = some (.lst acc) ∧ RowsH H us zss ∧
  acc.length + zss.flatten.length ≤ sizeLine ∧ (us = [] → Q (.ref T) H) ∧ (∀ p, us ≠ [] → H p = none → Q (.ref p) (upd H p (.lst (acc ++ zss.flatten))))
theorem cr_sumL (hc : X.calm = true) : CallR X (.builtin "sum") rSumL := by
  intro pins s σ H vs ws Q I r h
  obtain ⟨a, T, us, zss, acc, rfl, hA, hT, hR, hz, q1, q2⟩ := h
  have hws : ws = [Value.ref a, Value.ref T] := by
    cases r with
    | cons r t => cases t with
      | cons r2 t2 =>
        cases t2
        cases r
        cases r2
        rfl
  subst hws
  obtain ⟨z, its, n, rv, hl, e⟩ := I.lstM hA
  obtain ⟨z2, its2, n2, rv2, hl2, e2⟩ := I.lstM hT
  obtain ⟨ps, rfl, w1, w2⟩ := rows_heap I hR rv
  have hsz : (ps.map (fun p => Value.ref p.1)).toArray.size = ps.length := by simp
  have hcut : cutR (fun j => (ps[j]?.map (·.2)).getD []) 0 ps.length = (ps.map (·.2)).flatten := by
    rw [cutR_drop ps ps.length 0 (by omega), List.drop_zero]
  refine call_sumL (s := s) (bs := fun j => (ps[j]?.map (·.1)).getD 0) (rows := fun j => (ps[j]?.map (·.2)).getD []) (I.ok.hd hc) ⟨_, e, rfl, ⟨n, rfl⟩⟩ e2 (fun i v hv => ?_) (fun j hj => ?_) ?_ fun h' tk p c'' hk hp hor => ?_
  · rw [List.getElem?_toArray, List.getElem?_map] at hv
    cases e0 : ps[i]? with
    | none => rw [e0] at hv; cases hv
    | some p =>
      rw [e0] at hv
      have hv' : some (Value.ref p.1) = some v := hv
      cases hv'
      rfl
  · rw [hsz] at hj
    have e0 := List.getElem?_eq_getElem hj
    obtain ⟨m, hm⟩ := w2 _ (List.getElem_mem hj)
    refine ⟨m, ?_⟩
    show IsL s.heap ((ps[j]?.map (·.1)).getD 0) ((ps[j]?.map (·.2)).getD []).toArray m
    rw [e0]
    exact hm
  · rw [hsz, hcut, ← hl2, ← w1.length]
    exact hz
  · rw [hsz] at hor hp
    rw [hcut] at hp
    rcases hor with ⟨h0, rfl⟩ | ⟨h0, hor⟩
    · have hus : us = [] := List.eq_nil_of_length_eq_zero (by rw [hl, List.length_map]; exact h0)
      exact ⟨.ref _, H, I.kept hk, rfl, q1 hus⟩
    · have hus : us ≠ [] := fun z => by
        subst z
        rw [List.length_map] at hl
        exact absurd hl (Nat.ne_of_lt h0)
      exact ⟨.ref p, upd H p (.lst (acc ++ zss.flatten)), I.laid (t' := tk) hk hor ⟨by rw [List.length_append]; exact hz, _, c'', rv2.append w1, hp⟩, rfl, q2 p hus (I.hok.fresh hor)⟩
def rowsD (lh : LH) : List D → Option (List (List D))
  | [] => some []
  | .loc n :: r => (match lh[n]? with | some (.lst ys) => (rowsD lh r).map (ys :: ·) | _ => none)
  | _ :: _ => none
theorem rowsD_to {r : List Addr} {H : Hp} {lh : LH} (Hh : SimH X.K r H lh) : ∀ {ds : List D} {vs : List V} {yss : List (List D)}, RelL X.K r H ds vs → rowsD lh ds = some yss → ∃ zss, RowsH H vs zss ∧ RelL X.K r H yss.flatten zss.flatten
  | _, _, yss, .nil, h => by cases h; exact ⟨[], .nil, .nil⟩
  | _, _, yss, .cons (d := d) (ds := ds) p q, h => by
    cases p with
    | @loc n a e =>
      have h' : (match lh[n]? with | some (.lst ys) => (rowsD lh ds).map (ys :: ·) | _ => none) = some yss := h
      split at h'
      · rename_i ys hn
        obtain ⟨zs, h0, rl⟩ := Hh.get e hn
        cases e1 : rowsD lh ds with
        | none => rw [e1] at h'; cases h'
        | some zs' =>
          rw [e1] at h'
          cases h'
          obtain ⟨zss, a1, a2⟩ := rowsD_to Hh q e1
          exact ⟨zs :: zss, .cons h0 a1, rl.app a2⟩
      · cases h'
    | _ => cases h
def sumLD : List D → LH → Re D := fun ds lh => match ds with
  | [.loc n, .loc t] => match lh[n]?, lh[t]? with
    | some (.lst xs), some (.lst acc) => match rowsD lh xs with
      | some yss => if acc.length + yss.flatten.length ≤ sizeLine then (if xs = [] then .ok (.loc t) lh else .ok (.loc lh.length) (lh ++ [.lst (acc ++ yss.flatten)])) else .bad
      | none => .bad
    | _, _ => .bad
  | _ => .bad
theorem c_sumL {k : Nat} (o : Bk k X W) : CallD X (.builtin "sum") sumLD := by
  refine ⟨_, cr_sumL o.calm, fun E r H lh ds vs Q Hh ra F => ?_⟩
  unfold sumLD at F
  split at F
  · cases ra with
    | cons p pl =>
      cases pl with
      | cons p2 pl2 =>
        cases pl2
        cases p with
        | loc e1 =>
          cases p2 with
          | loc e2 =>
            split at F
            · rename_i xs acc h1 h2
              obtain ⟨us, g1, rl1⟩ := Hh.get e1 h1
              obtain ⟨as, g2, rl2⟩ := Hh.get e2 h2
              split at F
              · rename_i yss hy
                obtain ⟨zss, a1, a2⟩ := rowsD_to Hh rl1 hy
                split at F
                · rename_i hz
                  refine ⟨_, _, us, zss, as, rfl, g1, g2, a1, by rw [← rl2.length, ← a2.length]; exact hz, fun hu => ?_, fun p hu hp => ?_⟩
                  · rw [if_pos (rl1.nil_iff.mpr hu)] at F
                    exact F.ok Hh (.loc e2)
                  · rw [if_neg (fun z => hu (rl1.nil_iff.mp z))] at F
                    exact F.to (Ext.more hp) (Hh.laid hp (rl2.app a2)) (.loc (laid_new Hh))
                · exact F.elim
              · exact F.elim
            · exact F.elim
  · exact F.elim
end
end NL
set_option maxRecDepth 100000
set_option maxHeartbeats 4000000
/-! tuple * int, also by 0 and 1. -/
namespace NL
open PySem PySem.Spec PyProof.Rows L2
theorem tuple_mul1 (l : Addr) (items : Array Value) (n : Nat) (dd : Option Addr) (sl : Array (Option Value)) (u : Tok) :
    Meets (Builtin.«tuple.__mul__» ⟨[.ref l, .int 1 u], []⟩) (fun _ R s => s.heap.get? l = some { cls := .type "tuple", dict := dd, data := .seq items n, slots := sl } ∧ R (.ok (.ret (Value.ref l))) s) :=
  .of_wp fun prog w A R s h => by
    obtain ⟨hp, g, d, tk, os⟩ := s
    obtain ⟨hl, h⟩ := h
    have f1 := AutoSeq1.idx_int
    have b0 : (decide ((1 : Int) < -(2 ^ 63)) || decide ((1 : Int) ≥ 2 ^ 63)) = false := by decide
    have b1 : (items.isEmpty || (1 : Int) == 1) = true := by rw [show ((1 : Int) == 1) = true from rfl, Bool.or_true]
    wp_walk using wpAny_loadPart' hl
    repeat (first
      | (refine wpAny_ite_false (decide_eq_false (by rw [b0]; exact Bool.false_ne_true)) ?_; wp_walk using wpAny_loadPart' hl)
      | (refine wpAny_ite_true (decide_eq_true b1) ?_; wp_walk using wpAny_loadPart' hl))
    exact ⟨_, rfl, h⟩
theorem tuple_mul0 (l : Addr) (items : Array Value) (n : Nat) (dd : Option Addr) (sl : Array (Option Value)) (u : Tok) (hne : items.isEmpty = false) :
    Meets (Builtin.«tuple.__mul__» ⟨[.ref l, .int 0 u], []⟩) (fun _ R s => s.heap.get? l = some { cls := .type "tuple", dict := dd, data := .seq items n, slots := sl } ∧
      R (.ok (.ret (Value.ref s.heap.objs.size))) { s with heap := s.heap.push { cls := Value.type "tuple", data := Data.seq #[] }, toks := s.toks }) :=
  .of_wp fun prog w A R s h => by
    obtain ⟨hp, g, d, tk, os⟩ := s
    obtain ⟨hl, h⟩ := h
    have f1 := AutoSeq1.idx_int
    have b0 : (decide ((0 : Int) < -(2 ^ 63)) || decide ((0 : Int) ≥ 2 ^ 63)) = false := by decide
    have b1 : (items.isEmpty || (0 : Int) == 1) = false := by rw [hne]; rfl
    have b2 : (decide ((0 : Int) ≤ 0) || items.isEmpty) = true := by rw [decide_eq_true (Int.le_refl 0), Bool.true_or]
    wp_walk using wpAny_loadPart' hl
    repeat (first
      | (refine wpAny_ite_false (decide_eq_false (by rw [b0]; exact Bool.false_ne_true)) ?_; wp_walk using wpAny_loadPart' hl)
      | (refine wpAny_ite_false (decide_eq_false (by rw [b1]; exact Bool.false_ne_true)) ?_; wp_walk using wpAny_loadPart' hl)
      | (refine wpAny_ite_true (decide_eq_true b2) ?_; wp_walk using wpAny_loadPart' hl))
    exact ⟨_, rfl, h⟩
section
variable {X : Cx} {W : WX}
def rRep01 (K : PySem.W.Frag) : R2 := fun x y H Q => ∃ l k xs, x = .ref l ∧ y = .int k ∧ SqT K H l xs ∧ (k = 1 ∧ Q (.ref l) H ∨ k = 0 ∧ xs ≠ [] ∧ ∀ p, H p = none → Q (.ref p) (upd H p (.tup [])))
theorem op_rep01 : OpR X (binaryOp .Mult) (rRep01 X.K) := by
  intro pins s σ H x y v u Q I rx ry h
  obtain ⟨l, k, xs, rfl, rfl, hT, hk⟩ := h
  cases rx
  obtain ⟨t, rfl⟩ := ry
  obtain ⟨its, r, ⟨⟨cls, dd, data, sl⟩, ho, hc, n, hd⟩, hs⟩ := I.tuple hT
  simp only at hc hd
  subst hc hd
  rcases hk with ⟨rfl, q⟩ | ⟨rfl, hne, q⟩
  · exact wpAny_binaryOp_repeat_ref (T := "tuple") (U := "int") (by decide) ⟨_, ho, rfl⟩ (fun s' => typeIs_int s' 1 t) noFill_tuple_mul F.fills_int_mul F.slot_int_rmul repeat_tuple F.slot_int_index.lookup
      (call_meets F.slot_int_rmul (typeIs_int s 1 t) F.entry_int_rmul (F.args_int_rmul_2 _ _) (int_rmul_tuple 1 t l its.toArray n dd sl)
        ⟨ho, rfl, ⟨_, ho, rfl⟩, call_meets F.slot_tuple_mul ⟨_, ho, rfl⟩ F.entry_tuple_mul (F.args_tuple_mul_2 _ _) (tuple_mul1 l its.toArray n dd sl t) ⟨ho, .ref l, H, I, rfl, q⟩⟩)
  · have hi : its.toArray.isEmpty = false := by
      cases its with
      | nil => exact absurd (List.eq_nil_of_length_eq_zero r.length) hne
      | cons a b => rfl
    exact wpAny_binaryOp_repeat_ref (T := "tuple") (U := "int") (by decide) ⟨_, ho, rfl⟩ (fun s' => typeIs_int s' 0 t) noFill_tuple_mul F.fills_int_mul F.slot_int_rmul repeat_tuple F.slot_int_index.lookup
      (call_meets F.slot_int_rmul (typeIs_int s 0 t) F.entry_int_rmul (F.args_int_rmul_2 _ _) (int_rmul_tuple 0 t l its.toArray n dd sl)
        ⟨ho, rfl, ⟨_, ho, rfl⟩, call_meets F.slot_tuple_mul ⟨_, ho, rfl⟩ F.entry_tuple_mul (F.args_tuple_mul_2 _ _) (tuple_mul0 l its.toArray n dd sl t hi)
          ⟨ho, .ref s.heap.objs.size, upd H s.heap.objs.size (.tup []), I.laid (t' := s.toks) (fun b ob q => Heap.get?_push_of_some _ q) (Nat.le_refl _) ⟨Nat.zero_le _, [], .nil, IsTup.new _ _⟩, rfl, q _ (I.hok.fresh (Nat.le_refl _))⟩⟩)
def mulTD : D → D → LH → Re D
  | .tup xs, .int k, lh => if xs ≠ [] ∧ 0 ≤ k ∧ k ≤ 1000 ∧ xs.length ≤ 1000 then .ok (.tup (List.replicate k.toNat xs).flatten) lh else .bad
  | _, _, _ => .bad
theorem o_mulT : OpD X (binaryOp .Mult) mulTD := by
  refine ⟨_, op_rep01.or op_repT, fun E r H lh a b v u Q Hh ra rb F => ?_⟩
  unfold mulTD at F
  split at F
  · rename_i xs k
    cases ra with
    | @tup a1 ds _ e1 q1 =>
      cases rb
      split at F
      · rename_i hc
        obtain ⟨c1, c2, c3, c4⟩ := hc
        have hds : ds ≠ [] := fun z => c1 (q1.nil_iff.mpr z)
        by_cases k0 : k = 0
        · subst k0
          refine .inl ⟨_, _, ds, rfl, rfl, e1, .inr ⟨rfl, hds, fun p hp => ?_⟩⟩
          exact F.to (Ext.laid hp) (Hh.laidT hp) (.tup (.of upd_same) .nil)
        · by_cases k1 : k = 1
          · subst k1
            refine .inl ⟨_, _, ds, rfl, rfl, e1, .inl ⟨rfl, ?_⟩⟩
            refine F.ok Hh ?_
            show Rel _ _ _ (.tup (List.replicate 1 xs).flatten) _
            rw [List.replicate_one, List.flatten_cons, List.flatten_nil, List.append_nil]
            exact .tup e1 q1
          · refine .inr ⟨_, _, ds, rfl, rfl, e1, hds, by omega, c3, by rw [← q1.length]; exact c4, fun p hp => ?_⟩
            have x : Ext X.K r H r (upd H p (.tup (List.replicate k.toNat ds).flatten)) := Ext.laid hp
            exact F.to x (Hh.laidT hp) (.tup (.of upd_same) ((q1.reps _).mono x))
      · exact F.elim
  · exact F.elim
end
end NL
set_option maxRecDepth 100000
set_option maxHeartbeats 4000000
/-! enumerate of a tuple. -/
namespace NL
open PySem PySem.Spec PyProof.Rows L2
def eOb (I : Addr) : Obj := { cls := .type "enumerate", data := .fields #[.none, .bool false, .ref I, rawInt 0, .none, .none] }
def iOb (T : Addr) : Obj := { cls := .type "tuple_iterator", data := .fields #[.ref T, .int 0 0] }
theorem enumT_new (T : Addr) (vs : Array Value) (k : Nat) (dd : Option Addr) (zl : Array (Option Value)) :
    Meets (Builtin.«enumerate.__new__» ⟨[.type "enumerate", .ref T], []⟩) (fun _ R s => s.heap.get? T = some { cls := .type "tuple", dict := dd, data := .seq vs k, slots := zl } ∧
      R (.ok (.ret (.ref (s.heap.push (iOb T)).objs.size))) { s with heap := (s.heap.push (iOb T)).push (eOb s.heap.objs.size) }) :=
  .of_wp fun prog w A R s q => by
    obtain ⟨hp, ga, da, ta, oa⟩ := s
    obtain ⟨hT, q⟩ := q
    have sub := sub_enumerate
    have isT : Heap.IsTuple (Shared.heap ⟨hp, ga, da, ta, oa⟩) T vs := ⟨_, hT, rfl, k, rfl⟩
    wp_walk using AutoSeq1.wpAny_loadPart' hT
    refine wpAny_stack_any fun st => wpAny_pure ?_
    split
    · rename_i cc _ _ _ _ _
      cases (cc == Value.type "enumerate")
      · wp_walk using AutoSeq1.wpAny_loadPart' hT, wpAny_pyIter_tuple isT
        exact ⟨_, rfl, q⟩
      · wp_walk using AutoSeq1.wpAny_loadPart' hT, wpAny_pyIter_tuple isT
        exact ⟨_, rfl, q⟩
    · wp_walk using AutoSeq1.wpAny_loadPart' hT, wpAny_pyIter_tuple isT
      exact ⟨_, rfl, q⟩
section
variable {prog : Program} {w : World} {A : Around} {E : Value → Shared → Prop} {s : Shared}
theorem enumT_call {T : Addr} {vs : Array Value} {Q : Value → Shared → Prop} (hT : s.heap.IsTuple T vs)
    (k : ∀ g, IsEnum g (s.heap.objs.size + 1) s.heap.objs.size 0 .none → g.IsTupleIter s.heap.objs.size T 0 → (∀ b o, s.heap.get? b = some o → g.get? b = some o) → Q (.ref (s.heap.objs.size + 1)) { s with heap := g }) :
    wpAny (model prog w) A (call (.type "enumerate") [.ref T]) Q E s := by
  obtain ⟨⟨cc, dd, da, zl⟩, ht, h1, n, h2⟩ := hT
  replace h1 : cc = .type "tuple" := h1
  replace h2 : da = .seq vs n := h2
  subst h1 h2
  refine callType_new F.called_enumerate (by decide) (F.typeCall_enumerate_1 _) (F.newCall_enumerate_1 _) (fun ob => F.args_object_init_2 ob _) F.entry_enumerate_new (enumT_new T vs n dd zl) ⟨ht, ?_⟩
  have sz : (s.heap.push (iOb T)).objs.size = s.heap.objs.size + 1 := Heap.size_push ..
  show _ ∧ _
  rw [sz]
  have en : IsEnum ((s.heap.push (iOb T)).push (eOb s.heap.objs.size)) (s.heap.objs.size + 1) s.heap.objs.size 0 .none := by
    have := Heap.get?_push_size (s.heap.push (iOb T)) (o := eOb s.heap.objs.size) rfl
    rw [sz] at this
    exact this
  exact ⟨⟨_, en, rfl⟩, k _ en ⟨_, Heap.get?_push_of_some _ (Heap.get?_push_size _ rfl), rfl, rfl⟩ fun b o z => Heap.get?_push_of_some _ (Heap.get?_push_of_some _ z)⟩
end
/-- the tuple at a, each item in a new pair with its number -/
def IteT (K : PySem.W.Frag) (a : Addr) : It :=
  ⟨fun i H => ∃ (us : List V) (z : V), SqT K H a us ∧ us[i]? = some z, fun i H v G => ∃ T z, v = .ref T ∧ H T = none ∧ G = upd H T (.tup [.int (i : Nat), z]) ∧ ∀ us, SqT K H a us → us[i]? = some z, fun i H => ∃ us : List V, SqT K H a us ∧ us.length = i⟩
theorem turn_enumT {P : Program} {w : World} {K : PySem.W.Frag} {ts : List Expr} {kk : Nat} {tp : Pos} (a e it : Addr) :
    Turn P w K (.Tuple ts kk tp) (IteT K a) [e, it] e (fun i h => (∃ old, IsEnum h e it ((i : Nat) : Int) old) ∧ h.IsTupleIter it a i ∧ e ≠ it) where
  mem := by simp
  obj := fun i h z b hb => by
    obtain ⟨⟨old, h1⟩, ⟨o, h2, _, h3⟩, _⟩ := z
    have hb' : b = e ∨ b = it := by simpa using hb
    rcases hb' with rfl | rfl
    · exact ⟨_, h1, fun v q => nomatch q⟩
    · exact ⟨o, h2, fun v q => by rw [h3] at q; cases q⟩
  keep := fun i h g z k => by
    obtain ⟨⟨old, h1⟩, h2, h3⟩ := z
    exact ⟨⟨old, k e (by simp) _ h1⟩, h2.at fun o q => k it (by simp) o q, h3⟩
  item := by
    intro X eP eW eK hc i pins s σ H E I fo z go
    subst eP eW eK
    obtain ⟨⟨old, h1⟩, h2, h3⟩ := z
    obtain ⟨us, y, hq, hy⟩ := go
    obtain ⟨cs, rv, tup, _⟩ := I.tuple hq
    have tupA : s.heap.IsTuple a cs.toArray := tup
    have hai : a ≠ it := by
      rintro rfl
      obtain ⟨o1, p1, p2, _⟩ := tupA
      obtain ⟨o2, r1, r2, _⟩ := h2
      rw [p1] at r1
      cases r1
      rw [p2] at r2
      exact absurd r2 (by decide)
    have hae : e ≠ a := by
      rintro rfl
      obtain ⟨o1, p1, p2, _⟩ := tupA
      have h1' : s.heap.get? e = some _ := h1
      rw [p1] at h1'
      cases h1'
      exact absurd (show Value.type "enumerate" = Value.type "tuple" from p2) (by decide)
    have el : e < s.heap.objs.size := Heap.lt_size h1
    have il : it < s.heap.objs.size := by obtain ⟨_, q, _⟩ := h2; exact Heap.lt_size q
    have hlen := rv.length
    have hlt : i < cs.toArray.size := by
      have := (List.getElem?_eq_some_iff.mp hy).1
      simp
      omega
    have dr := Draws.tuple (prog := X.prog) (w := X.w) (A := X.A.in1) (by exact I.ok.hd hc) it a hai cs.toArray
    refine wpAny_pyNext_enum_itemD dr h1 ⟨h2, tupA⟩ hlt h3 (by simp [h3, hae]) fun u g tk hP hOut hSt hT hsz hk => ?_
    obtain ⟨u', hu', ru⟩ := rv.get hy
    have hu : u' = u := by
      have hP' : cs.toArray[i]? = some u := hP
      rw [List.getElem?_toArray, hu'] at hP'
      cases hP'
      rfl
    subst hu
    refine ⟨_, rfl, wpAny_letOwnedTupleGo_enum (s := { s with heap := g, toks := tk + 1 }) hOut fun g2 he2 sb => ?_⟩
    have hT2 : g2.get? s.heap.objs.size = some { cls := .type "tuple", data := .seq #[.int i tk, u'] } := (sb.2 _ (Nat.ne_of_gt el)).trans hT
    have new : ObjOk X.prog X.w (upd H s.heap.objs.size (.tup [.int (i : Nat), y])) g2 s.heap.objs.size (.tup [.int (i : Nat), y]) :=
      ⟨by show 2 ≤ sizeLine; decide, [.int i tk, u'], .cons ⟨_, rfl⟩ (.cons ru .nil), ⟨_, hT2, rfl, _, rfl⟩⟩
    have J : Inv X pins σ (upd H s.heap.objs.size (.tup [.int (i : Nat), y])) { s with heap := g2, toks := tk + 1 } :=
      I.turnedNew (ch := [e, it]) (fun b o hb q => (sb.2 b (fun z => hb (by simp [z]))).trans (hk b o (fun z => hb (by simp [z])) (fun z => hb (by simp [z])) q)) fo (Nat.le_refl _) new
    refine ⟨.ref s.heap.objs.size, _, J, rfl, ⟨_, y, rfl, I.hok.fresh (Nat.le_refl _), rfl, fun zs hz => by rw [I.tuple_inj hz hq]; exact hy⟩, ⟨⟨u', ?_⟩, hSt.1.at fun o q => (sb.2 it (Ne.symm h3)).trans q, h3⟩, fun b hb => ?_⟩
    · rw [show ((i + 1 : Nat) : Int) = (i : Int) + 1 by omega]
      exact he2
    · have hb' : b = e ∨ b = it := by simpa using hb
      have hbl : b < s.heap.objs.size := by rcases hb' with rfl | rfl <;> assumption
      rw [upd_ne (Nat.ne_of_lt hbl)]
      exact (fo b hb).1
  done := by
    intro X eP eW eK hc i pins s σ H E I fo z go
    subst eP eW eK
    obtain ⟨⟨old, h1⟩, h2, h3⟩ := z
    obtain ⟨us, hq, hx⟩ := go
    obtain ⟨cs, rv, tup, _⟩ := I.tuple hq
    have tupA : s.heap.IsTuple a cs.toArray := tup
    have hai : a ≠ it := by
      rintro rfl
      obtain ⟨o1, p1, p2, _⟩ := tupA
      obtain ⟨o2, r1, r2, _⟩ := h2
      rw [p1] at r1
      cases r1
      rw [p2] at r2
      exact absurd r2 (by decide)
    obtain ⟨f0, f1, f2, f3, f4, f5⟩ := fo it (by simp)
    have hlen := rv.length
    have hn : cs.toArray.size = i := by
      simp
      omega
    have dr := Draws.tuple (prog := X.prog) (w := X.w) (A := X.A.in1) (by exact I.ok.hd hc) it a hai cs.toArray
    exact wpAny_pyNext_enum_endD dr h1 (by rw [hn]; exact ⟨h2, tupA⟩) fun g eb => ⟨rfl, I.turned (t' := s.toks) (fun b o hb q => eb b o hb q) f0 f1 f3 f4 f5⟩
  self := fun A i s Q E z k => by
    obtain ⟨⟨_, h1⟩, _⟩ := z
    exact wpAny_pyIter_enum h1 k
def iEnumA (K : PySem.W.Frag) (ta : TA) : TI := fun σ H R => ta σ H fun vs H1 => ∃ a us, vs = [.ref a] ∧ ((SqT K H1 a us ∧ R (IteT K a) H1) ∨ (SqL K H1 a us ∧ R (Ite K a) H1))
theorem pi_enumT {X : Cx} {e : Expr} {ta : TA} {p pos tp : Pos} {ts : List Expr} {kk : Nat} (hg : Gl X "enumerate") (hm : X.mg "enumerate" = none) (ha : PA X [e] ta) (hs : starEach [e] X.env = [(false, eval e X.env)] := by rfl) :
    PI X (.Tuple ts kk tp) (.Call (.Name "enumerate" p) [e] [] pos) (iEnumA X.K ta) := by
  refine ⟨fun pins s σ H R I z => ?_⟩
  refine Call_ (ld_blt I hg hm boot_enumerate (PyProof.Rows.callWith_type1 (thn (ha.run pos pins s σ H _ I z) fun us s1 ⟨vs, H1, I1, r1, q1⟩ => ?_) hs rfl))
  obtain ⟨a, xs, ex, q1⟩ := q1
  subst ex
  cases r1 with
  | cons r rr =>
    cases rr
    cases r
    have fre : ∀ b, b ∈ [s1.heap.objs.size + 1, s1.heap.objs.size] → FpOk X pins H1 b := fun b hb => by
      have hb' : b = s1.heap.objs.size + 1 ∨ b = s1.heap.objs.size := by simpa using hb
      have hle : s1.heap.objs.size ≤ b := by rcases hb' with rfl | rfl <;> omega
      exact I1.fpOk hle (I1.hok.fresh hle)
    rcases q1 with ⟨hq, q⟩ | ⟨hq, q⟩
    rotate_left
    · obtain ⟨cs, rv, p1, _⟩ := I1.list hq
      refine call_enumerate_list p1.isList fun g he hit hsz hk => wpAny_pyIter_enum he ?_
      have I2 : Inv X pins σ H1 { s1 with heap := g } := I1.kept (t' := s1.toks) hk
      exact ⟨s1.heap.objs.size + 1, [s1.heap.objs.size + 1, s1.heap.objs.size], _, _, H1, rfl, I2, turn_enum a (s1.heap.objs.size + 1) s1.heap.objs.size, ⟨⟨.none, he⟩, hit, Nat.succ_ne_self _⟩, fre, q⟩
    obtain ⟨cs, rv, tup, _⟩ := I1.tuple hq
    have tupA : s1.heap.IsTuple a cs.toArray := tup
    refine enumT_call tupA fun g he hit hk => wpAny_pyIter_enum he ?_
    have I2 : Inv X pins σ H1 { s1 with heap := g } := I1.kept (t' := s1.toks) hk
    exact ⟨s1.heap.objs.size + 1, [s1.heap.objs.size + 1, s1.heap.objs.size], _, _, H1, rfl, I2, turn_enumT a (s1.heap.objs.size + 1) s1.heap.objs.size, ⟨⟨.none, he⟩, hit, Nat.succ_ne_self _⟩, fre, q⟩
def itET (xs : List D) : ItD := ⟨xs.length + 1, fun i _ => if i ≤ xs.length then some (xs[i]?.map fun y => .tup [.int (i : Nat), y]) else none⟩
theorem ok_itET {K : PySem.W.Frag} {r : List Addr} {H : Hp} {a : Addr} {xs : List D} {vs : List V} (e : SqT K H a vs) (rl : RelL K r H xs vs) : IterOk K r H (itET xs) (IteT K a) := fun r' H' lh' x hs i => by
  have h0 := x.tup _ _ e
  have rl := rl.mono x
  show match (if i ≤ xs.length then some (xs[i]?.map fun y => D.tup [.int (i : Nat), y]) else none) with | none => True | some none => _ | some (some d) => _
  by_cases hi : i ≤ xs.length
  · rw [if_pos hi]
    cases q2 : xs[i]? with
    | none =>
      have := List.getElem?_eq_none_iff.mp q2
      exact ⟨vs, h0, by rw [← rl.length]; omega⟩
    | some d =>
      obtain ⟨v, h1, h2⟩ := rl.get q2
      refine ⟨⟨vs, v, h0, h1⟩, fun y H2 hy => ?_⟩
      obtain ⟨T, z, e1, e2, e3, e4⟩ := hy
      subst e1 e3
      have f1 := e4 vs h0
      rw [h1] at f1
      cases f1
      have xx : Ext K r' H' r' (upd H' T (.tup [.int (i : Nat), v])) := Ext.laid e2
      exact ⟨xx, hs.laidT e2, .tup (.of upd_same) (.cons (.int _) (.cons (h2.mono xx) .nil))⟩
  · rw [if_neg hi]
    trivial
section
variable {X : Cx} {W : WX}
/-- enumerate of a list, of a tuple -/
def enAI (ma : MA) : MI := fun e lh => (ma e lh).bind fun ds l => match ds with
  | [.tup xs] => .ok (itET xs) l
  | [d] => match sq l d with | some xs => .ok (itE d xs) l | _ => .bad
  | _ => .bad
theorem di_enumA {a : Expr} {ts : List Expr} {kk : Nat} {ma : MA} {p pos tp : Pos} (ha : DA X W [a] ma) (hm : X.mg "enumerate" = none) (hg : Gl X "enumerate" := by rfl) (hs : starEach [a] X.env = [(false, eval a X.env)] := by rfl) :
    DI X W (.Tuple ts kk tp) (.Call (.Name "enumerate" p) [a] [] pos) (enAI ma) := by
  refine pi_imp (pi_enumT hg hm ha.pa hs) fun s H R ⟨r, e, lh, S, Hh, F⟩ => ?_
  refine tG_of S Hh ((FinG.bind (R := RelL X.K) F).imp fun vs H1 ⟨r1, l1, x, y1, z1, w1, F1⟩ => ?_)
  split at F1
  · cases w1 with
    | cons p q =>
      cases q
      cases p with
      | tup e1 q1 => exact ⟨_, _, rfl, .inl ⟨e1, F1.ok z1 (ok_itET e1 q1)⟩⟩
  · cases w1 with
    | cons p q =>
      cases q
      split at F1
      · rename_i xs exs
        obtain ⟨a0, vs, rfl, h0, _⟩ := sq_to z1 p exs
        exact ⟨_, vs, rfl, .inr ⟨h0, F1.ok z1 (ok_itE p)⟩⟩
      · exact F1.elim
  · exact F1.elim
end
end NL
set_option maxRecDepth 100000
set_option maxHeartbeats 1000000
/-! Defs with keyword-only parameters that have defaults. -/
namespace NL
open PySem PySem.Spec L2
/-- a def with keyword-only defaults: what it computes of all its parameters -/
structure FnD (P : Program) (w : World) (K : PySem.W.Frag) (mg : Str → Option Value) (base : Heap) (x : Str) (st : Stmt) (ps : List Str) (k : Nat) (m : FM) (kws : List (Str × V)) : Prop where
  ex : ∃ (f : Addr) (fd : FuncData), FnOk P w K mg base (L2.CX P w) k f fd ps (spD K mg ps.length m) ∧ mg x = some (.ref f) ∧ FunD K x x (defArgs st) (defBody st) (defScope st) [] kws f fd
structure FnDF (K : PySem.W.Frag) (mg : Str → Option Value) (x : Str) (st : Stmt) (kws : List (Str × V)) : Prop where
  ex : ∃ (f : Addr) (fd : FuncData), mg x = some (.ref f) ∧ FunD K x x (defArgs st) (defBody st) (defScope st) [] kws f fd
theorem plainF {K : PySem.W.Frag} {x q : Str} {st : Stmt} {kws : List (Str × V)} {f : Addr} {fd : FuncData} (D : FunD K x q (defArgs st) (defBody st) (defScope st) [] kws f fd) : Fun K x q st f fd := by
  obtain ⟨c1, c2, dV, kV, c3, c4, c5, c6, c7, c8, e, l, c, d, _⟩ := D.ex
  rcases d with ⟨_, z⟩ | ⟨z, _⟩
  · rw [z] at e
    exact ⟨⟨c1, c2, kV, c3, c4, c5, c6, c7, c8, e, l, c⟩, D.kp⟩
  · exact absurd rfl z
section
variable {P : Program} {w : World} {K : PySem.W.Frag} {mg : Str → Option Value} {base : Heap} {x : Str} {st : Stmt} {N ps : List Str} {k : Nat} {m : SM} {kws : List (Str × V)}
theorem fnD_of (F : FnDF K mg x st kws) (S : FnScope N ps (defScope st))
    (hb : ∀ (f : Addr) (cdv : Value) (A : Around) (outer : List Env) (s : Shared) (H : Hp) (E : XK), Bk k (cxOf (L2.CX P w) P w K mg base N x (defScope st) f cdv A outer s H E) (fun cls d _ H => E cls d H) →
      DSs (cxOf (L2.CX P w) P w K mg base N x (defScope st) f cdv A outer s H E) (fun cls d _ H => E cls d H) (defBody st) m) : FnD P w K mg base x st ps (k + 1) (fnM N.length m) kws := by
  obtain ⟨f, fd, hm, D⟩ := F.ex
  exact ⟨f, fd, fnOk_of (plainF D) S (hb f), hm, D⟩
theorem fnDF_mk {h : Heap} {f D : Addr} {oc : Value} {od an : Option Addr} {osl : Array (Option Value)} {doc pm cdv ct : Value} (X : K.In h) (G : h.Ns mainGlobals mg) (a : PySem.W.nsIn K mainGlobals x = some (some (.ref f)))
    (l : K.lookup f = some ⟨oc, od, .func (PySem.W.fnOf x x (defArgs st) (defBody st) (defScope st) .none (.ref D) doc pm an cdv ct), osl⟩) (c : PySem.W.codeIn K cdv x = true) (kp : PySem.W.keepIn K (.ref f) = true)
    (hk : ∀ q ∈ kws, ∃ u, PySem.W.nsIn K D q.1 = some (some u) ∧ RelV q.2 u) : FnDF K mg x st kws :=
  ⟨f, _, PySem.W.mg_of X G a, ⟨oc, od, .none, .ref D, doc, pm, an, cdv, ct, osl, rfl, l, c, .inl ⟨rfl, rfl⟩, .inr ⟨D, rfl, hk⟩⟩, kp⟩
end
section
variable {X : Cx} {W : WX}
/-- a def by what it computes, however it binds -/
structure FnB (P : Program) (w : World) (K : PySem.W.Frag) (mg : Str → Option Value) (base : Heap) (x : Str) (st : Stmt) (ps : List Str) (k : Nat) (m : FM) : Prop where
  ex : ∃ (f : Addr) (fd : FuncData), FnOk P w K mg base (L2.CX P w) k f fd ps (spD K mg ps.length m) ∧ mg x = some (.ref f) ∧ Fun K x x st f fd
theorem FnD.b {P : Program} {w : World} {K : PySem.W.Frag} {mg : Str → Option Value} {base : Heap} {x : Str} {st : Stmt} {ps : List Str} {k : Nat} {m : FM} {kws : List (Str × V)} (G : FnD P w K mg base x st ps k m kws) : FnB P w K mg base x st ps k m :=
  let ⟨f, fd, h1, h2, h3⟩ := G.ex
  ⟨f, fd, h1, h2, plainF h3⟩
/-- f(e, ..) whose keyword-only parameters all lack -/
def dfM (m : FM) (dds : List D) (ma : MA) : M := fun e lh => (ma e lh).bind fun ds l => m (ds ++ dds) l
theorem de_fnD {k n : Nat} {x : Str} {st : Stmt} {ps : List Str} {m : FM} {kws : List (Str × V)} {p pos : Pos} {e : Expr} {es : List Expr} {ma : MA} (dds : List D) (o : Bk n X W) (G : FnD X.prog X.w X.K X.mg X.base x st ps k m kws) (hk : k ≤ n) (ha : DA X W (e :: es) ma)
    (hr : ∀ r H, RelL X.K r H dds (kws.map (·.2))) (hne : kws ≠ [])
    (hbi : ∀ (D : Addr) (doc pm : Value) (an : Option Addr) (cdv ct : Value) (us ks : List Value), us.length = (e :: es).length → ks.length = kws.length →
      KwChain D ((kws.map (·.1)).zip ks) (bindArgs (PySem.W.fnOf x x (defArgs st) (defBody st) (defScope st) .none (.ref D) doc pm an cdv ct) ⟨us, []⟩) (ps.zip (us ++ ks)))
    (hl : (e :: es).length + kws.length = ps.length := by rfl) (hg : Gl X x := by rfl)
    (hdb : (x == ("__debug__" : Str)) = false := by decide) (he : starEach (e :: es) X.env = (false, eval e X.env) :: starEach es X.env := by rfl) (hpl : (backTo pos (starEach es X.env)).any (·.1) = false := by rfl) : DE X W (.Call (.Name x p) (e :: es) [] pos) (dfM m dds ma) := by
  obtain ⟨f, fd, h1, h2, h3⟩ := G.ex
  obtain ⟨ds0, hv, hb⟩ := h3.binds0 (ps := ps) (e :: es).length hne hl hbi
  refine pe_imp (pe_callSD (E := WE W) h1 (o.hr.mono hk) hg h2 h3.kp hb hv (fun σ => passAt o.tk σ) ha.pa hdb he hpl) fun s H Q ⟨r, e, lh, S, Hh, F⟩ => ?_
  refine tG_of S Hh (FinG.len ha ((FinG.bind (R := RelL X.K) F).imp fun vs H1 ⟨r1, l1, x, y1, z1, w1, F1⟩ hlen => ?_))
  refine ⟨?_, r1, l1, x ++ dds, z1, w1.app (hr r1 H1), F1⟩
  rw [List.length_append, List.length_map, hlen]
  exact hl
theorem de_fnBK {k n n1 : Nat} {x : Str} {st : Stmt} {ps : List Str} {m : FM} {p pos : Pos} {e : Expr} {es : List Expr} {kws : List Keyword} {ma mk : MA} (ix : List Nat) (ks : List Str) (o : Bk n X W) (G : FnB X.prog X.w X.K X.mg X.base x st ps k m) (hk : k ≤ n) (ha : DA X W (e :: es) ma) (hkw : DK X W kws mk)
    (hbi : ∀ (kV doc pm : Value) (an : Option Addr) (cdv ct : Value) (us ws : List Value), us.length = (e :: es).length → ws.length = kws.length → bindArgs (PySem.W.fnOf x x (defArgs st) (defBody st) (defScope st) .none kV doc pm an cdv ct) ⟨us, ks.zip ws⟩ = pure (ps.zip (pick ix (us ++ ws))))
    (hix : ∀ i ∈ ix, i < (e :: es).length + kws.length := by decide) (hil : ix.length = ps.length := by rfl)
    (hg : Gl X x := by rfl) (hall : (backToKw pos (keywordEach kws X.env)).all (·.1.isSome) = true := by rfl) (hks : (backToKw pos (keywordEach kws X.env)).filterMap (·.1) = ks := by rfl)
    (hdb : (x == ("__debug__" : Str)) = false := by decide) (he : starEach (e :: es) X.env = (false, eval e X.env) :: starEach es X.env := by rfl)
    (hpl : ((backTo pos (starEach (e :: es) X.env)).any (·.1) || (backToKw pos (keywordEach kws X.env)).any (·.1.isNone)) = false := by rfl) :
    DE X W (.Call (.Name x p) (e :: es) kws pos) (kwM m ix ma mk) := by
  obtain ⟨f, fd, h1, h2, h3⟩ := G.ex
  refine ⟨fun pins s σ H Q I ⟨r, ev, lh, S, Hh, F⟩ => ?_⟩
  refine wpAny_Call_Name_kw (ld_glob I hg h2 ?_ hdb)
  refine PySem.W.callWith_KW (h₀ := X.base) I.ok.mod.kin h3.kp hall (thn (ha.pa.run pos pins s σ H _ I (tG_of S Hh (FinG.len ha (Q := fun vs H1 => ∃ r1 l1 ds, Ext X.K r H r1 H1 ∧ SimH X.K r1 H1 l1 ∧ RelL X.K r1 H1 ds vs ∧ vs.length = (e :: es).length ∧ FinG X.K X.mg (fun c dd H' => W c dd σ H') (Rel X.K) r1 H1 Q ((mk ev l1).bind fun es l2 => m (pick ix (ds ++ es)) l2)) ((FinG.bind (R := RelL X.K) F).imp fun vs H1 ⟨r1, l1, x, y1, z1, w1, F1⟩ hlen => ⟨r1, l1, x, y1, z1, w1, hlen, F1⟩)))) fun us s1 ⟨vs, H1, I1, rv, r1, l1, ds, y1, z1, w1, hlen, F1⟩ => ?_) hpl he
  have F1 := FinG.bind (R := RelL X.K) F1
  have hz : ∀ {t : Re (List D)}, (∀ ds l, t = .ok ds l → ds.length = kws.length) → FinG X.K X.mg (fun c dd H' => W c dd σ H') (RelL X.K) r1 H1 (fun v H1_1 => ∃ r1_1 lh1 x, Ext X.K r1 H1 r1_1 H1_1 ∧ SimH X.K r1_1 H1_1 lh1 ∧ RelL X.K r1_1 H1_1 x v ∧ FinG X.K X.mg (fun c dd H' => W c dd σ H') (Rel X.K) r1_1 H1_1 Q (m (pick ix (ds ++ x)) lh1)) t →
      FinG X.K X.mg (fun c dd H' => W c dd σ H') (RelL X.K) r1 H1 (fun zs H2 => zs.length = kws.length ∧ spD X.K X.mg ps.length m (pick ix (vs ++ zs)) H2 Q (WE W σ)) t := by
    intro t ht hF
    cases t with
    | ok es' l =>
      have hl := ht es' l rfl
      intro r' H' zs a b c
      obtain ⟨r2, l2, x2, y2, z2, w2, F2⟩ := hF r' H' zs a b c
      refine ⟨by rw [← c.length]; exact hl, ?_, r2, l2, pick ix (ds ++ x2), z2, pick_rel ((w1.mono y2).app w2) ix, F2⟩
      rw [pick_len, hil]
      intro i hi
      rw [List.length_append, hlen, ← c.length, hl]
      exact hix i hi
    | er x l => exact hF
    | bad => exact hF
  refine thn (hkw.pk.run pos pins s1 σ H1 _ I1 (tG_of (S.mono y1) z1 (hz (fun ds l e => hkw.len _ _ _ _ e) F1))) fun ws s2 ⟨zs, H2, I2, rz, hl2, hsp⟩ => ⟨I2.kIn, ?_⟩
  rw [hks]
  refine run_fnKS h1 (o.hr.mono hk) ?_ (passAt o.tk σ) I2 (pick_vals (rv.append rz) ix) hsp
  obtain ⟨oc, od, kV, doc, pm, an, cdv, ct, osl, rfl, lk, hcd⟩ := h3.ex
  exact .of_eq (hbi kV doc pm an cdv ct us ws (rv.length.symm.trans hlen) (rz.length.symm.trans hl2))
theorem de_fnBK0 {k n : Nat} {x : Str} {st : Stmt} {ps : List Str} {m : FM} {p pos : Pos} {kws : List Keyword} {mk : MA} (ix : List Nat) (ks : List Str) (o : Bk n X W) (G : FnB X.prog X.w X.K X.mg X.base x st ps k m) (hk : k ≤ n) (hkw : DK X W kws mk)
    (hbi : ∀ (kV doc pm : Value) (an : Option Addr) (cdv ct : Value) (ws : List Value), ws.length = kws.length → bindArgs (PySem.W.fnOf x x (defArgs st) (defBody st) (defScope st) .none kV doc pm an cdv ct) ⟨[], ks.zip ws⟩ = pure (ps.zip (pick ix ws)))
    (hix : ∀ i ∈ ix, i < kws.length := by decide) (hil : ix.length = ps.length := by rfl)
    (hg : Gl X x := by rfl) (hall : (backToKw pos (keywordEach kws X.env)).all (·.1.isSome) = true := by rfl) (hks : (backToKw pos (keywordEach kws X.env)).filterMap (·.1) = ks := by rfl)
    (hdb : (x == ("__debug__" : Str)) = false := by decide)
    (hpl : ((backTo pos (starEach [] X.env)).any (·.1) || (backToKw pos (keywordEach kws X.env)).any (·.1.isNone)) = false := by rfl) :
    DE X W (.Call (.Name x p) [] kws pos) (kwM0 m ix mk) := by
  obtain ⟨f, fd, h1, h2, h3⟩ := G.ex
  refine ⟨fun pins s σ H Q I ⟨r, ev, lh, S, Hh, F⟩ => ?_⟩
  refine wpAny_Call_Name_kw (ld_glob I hg h2 ?_ hdb)
  have F1 := FinG.bind (R := RelL X.K) F
  have hz : ∀ {t : Re (List D)}, (∀ ds l, t = .ok ds l → ds.length = kws.length) → FinG X.K X.mg (fun c dd H' => W c dd σ H') (RelL X.K) r H (fun v H1_1 => ∃ r1_1 lh1 x, Ext X.K r H r1_1 H1_1 ∧ SimH X.K r1_1 H1_1 lh1 ∧ RelL X.K r1_1 H1_1 x v ∧ FinG X.K X.mg (fun c dd H' => W c dd σ H') (Rel X.K) r1_1 H1_1 Q (m (pick ix x) lh1)) t →
      FinG X.K X.mg (fun c dd H' => W c dd σ H') (RelL X.K) r H (fun zs H2 => zs.length = kws.length ∧ spD X.K X.mg ps.length m (pick ix zs) H2 Q (WE W σ)) t := by
    intro t ht hF
    cases t with
    | ok es' l =>
      have hl := ht es' l rfl
      intro r' H' zs a b c
      obtain ⟨r2, l2, x2, y2, z2, w2, F2⟩ := hF r' H' zs a b c
      refine ⟨by rw [← c.length]; exact hl, ?_, r2, l2, pick ix x2, z2, pick_rel w2 ix, F2⟩
      rw [pick_len, hil]
      intro i hi
      rw [← c.length, hl]
      exact hix i hi
    | er x l => exact hF
    | bad => exact hF
  refine PySem.W.callWith_KW0 (h₀ := X.base) I.ok.mod.kin h3.kp hall (thn (hkw.pk.run pos pins s σ H _ I (tG_of S Hh (hz (fun ds l e => hkw.len _ _ _ _ e) F1))) fun ws s2 ⟨zs, H2, I2, rz, hl2, hsp⟩ => ⟨I2.kIn, ?_⟩) hpl
  rw [hks]
  refine run_fnKS h1 (o.hr.mono hk) ?_ (passAt o.tk σ) I2 (pick_vals rz ix) hsp
  obtain ⟨oc, od, kV, doc, pm, an, cdv, ct, osl, rfl, lk, hcd⟩ := h3.ex
  exact .of_eq (hbi kV doc pm an cdv ct ws (rz.length.symm.trans hl2))
end
end NL
set_option maxRecDepth 100000
namespace NP
open PySem PySem.Spec L2 NL
def l_bag : FM := fnM 3 (
  seqS (asS (conM (.int 10018)) (nmG 1))
  (seqS (forS (seqI (slM (varM 0) (noM) (soM (conM (.int 63))))) (nmG 2) (asS (opM modD (callM intD (consA (opM addD (opM addD (opM mulD (varM 1) (conM (.int 47353))) (opM modD (callM intD (consA (varM 2) (nilA))) (conM (.int 2147483579)))) (conM (.int 17))) (nilA))) (conM (.int 2147483629))) (nmG 1)))
  (rtS (lstM (consA (callM listD (consA (slM (varM 0) (noM) (soM (conM (.int 63)))) (nilA))) (consA (conM (.int 0)) (consA (conM (.int 0)) (consA (varM 1) (consA (conM (.int 0)) (nilA))))))))))
def l_draw : FM := fnM 5 (
  seqS (asS (opM addD (opM ixD (varM 0) (conM (.int 4))) (conM (.int 1))) (subG (varM 0) (conM (.int 4))))
  (seqS (ifS (andT (blT (opM eqD (opM ixD (varM 0) (conM (.int 2))) (conM (.int 0)))) (blT (opM ltD (opM ixD (varM 0) (conM (.int 1))) (callM lenD (consA (opM ixD (varM 0) (conM (.int 0))) (nilA)))))) (seqS (asS (opM ixD (opM ixD (varM 0) (conM (.int 0))) (opM ixD (varM 0) (conM (.int 1)))) (nmG 2))
  (seqS (asS (opM addD (opM ixD (varM 0) (conM (.int 1))) (conM (.int 1))) (subG (varM 0) (conM (.int 1))))
  (ifS (blT (opM geD (varM 2) (opM powD (conM (.int 10)) (conM (.int 18))))) (asS (varM 2) (subG (varM 0) (conM (.int 2)))) (asS (opM modD (callM intD (consA (opM addD (opM addD (opM mulD (opM ixD (varM 0) (conM (.int 3))) (conM (.int 40013))) (opM mulD (opM modD (callM intD (consA (varM 2) (nilA))) (conM (.int 2147483563))) (conM (.int 6967)))) (conM (.int 53))) (nilA))) (conM (.int 2147483587))) (subG (varM 0) (conM (.int 3))))))) (nxS))
  (seqS (ifS (blT (opM gtD (opM ixD (varM 0) (conM (.int 2))) (conM (.int 0)))) (seqS (asS (opM modD (callM intD (consA (opM ixD (varM 0) (conM (.int 2))) (nilA))) (varM 1)) (nmG 3))
  (seqS (asS (opM fdivD (opM ixD (varM 0) (conM (.int 2))) (varM 1)) (subG (varM 0) (conM (.int 2))))
  (rtS (varM 3)))) (nxS))
  (seqS (asS (callM intD (consA (opM ixD (varM 0) (conM (.int 3))) (nilA))) (nmG 4))
  (seqS (asS (opM modD (callM intD (consA (opM addD (opM addD (opM addD (opM powD (varM 4) (conM (.int 3))) (opM mulD (varM 4) (conM (.int 30029)))) (opM mulD (opM ixD (varM 0) (conM (.int 4))) (conM (.int 1299827)))) (conM (.int 70001))) (nilA))) (conM (.int 2147483587))) (subG (varM 0) (conM (.int 3))))
  (rtS (opM modD (callM intD (consA (opM addD (opM fdivD (opM ixD (varM 0) (conM (.int 3))) (conM (.int 71))) (opM mulD (opM modD (callM intD (consA (opM ixD (varM 0) (conM (.int 3))) (nilA))) (conM (.int 7907))) (conM (.int 61)))) (nilA))) (varM 1))))))))
def is_letter : FM := fnM 1 (
  rtS (andM (callM isiD (consA (varM 0) (consA (conM (.raw (.ty "str"))) (nilA)))) (andM (opM eqD (callM lenD (consA (varM 0) (nilA))) (conM (.int 1))) (opM inD (varM 0) (conM (.str (PySem.Str.ofString "abc")))))))
def are_letters : FM := fnM 2 (
  seqS (ifS (orT (notT (truM (callM isiD (consA (varM 0) (consA (conM (.raw (.ty "str"))) (nilA)))))) (orT (blT (opM eqD (varM 0) (conM (.str (PySem.Str.ofString ""))))) (notT (truM (callM allD (consA (lcM (seqI (varM 0)) (nmG 1) (yesT) (apM NP.is_letter (consA (varM 1) (nilA))) [1]) (nilA))))))) (rtS (conM (.bl false))) (nxS))
  (rtS (opM eqD (mtM "str" joinD (conM (.str (PySem.Str.ofString ""))) (consA (srtM (varM 0)) (nilA))) (varM 0))))
def is_listed : FM := fnM 1 (
  rtS (callM isiD (consA (varM 0) (consA (tupM (consA (conM (.raw (.ty "list"))) (consA (conM (.raw (.ty "tuple"))) (nilA)))) (nilA)))))
def is_number : FM := fnM 1 (
  rtS (andM (callM isiD (consA (varM 0) (consA (conM (.raw (.ty "int"))) (nilA)))) (notM (callM isiD (consA (varM 0) (consA (conM (.raw (.ty "bool"))) (nilA)))))))
def is_between : FM := fnM 3 (
  rtS (andM (apM NP.is_number (consA (varM 0) (nilA))) (chM leD leD (varM 1) (varM 0) (varM 2))))
def is_part : FM := fnM 1 (
  seqS (ifS (orT (notT (truM (callM isiD (consA (varM 0) (consA (conM (.raw (.ty "tuple"))) (nilA)))))) (orT (blT (opM eqD (varM 0) (tupM (nilA)))) (notT (truM (callM isiD (consA (opM ixD (varM 0) (conM (.int 0))) (consA (conM (.raw (.ty "str"))) (nilA)))))))) (rtS (conM (.bl false))) (nxS))
  (seqS (ifS (blT (opM inD (opM ixD (varM 0) (conM (.int 0))) (conM (.tup [(.str (PySem.Str.ofString "quiet")), (.str (PySem.Str.ofString "first")), (.str (PySem.Str.ofString "late")), (.str (PySem.Str.ofString "hold")), (.str (PySem.Str.ofString "both")), (.str (PySem.Str.ofString "again"))])))) (rtS (andM (opM eqD (callM lenD (consA (varM 0) (nilA))) (conM (.int 2))) (apM NP.is_between (consA (opM ixD (varM 0) (conM (.int 1))) (consA (conM (.int 1)) (consA (conM (.int 9)) (nilA))))))) (nxS))
  (seqS (ifS (blT (opM eqD (opM ixD (varM 0) (conM (.int 0))) (conM (.str (PySem.Str.ofString "pick"))))) (rtS (andM (opM eqD (callM lenD (consA (varM 0) (nilA))) (conM (.int 2))) (apM NP.are_letters (consA (opM ixD (varM 0) (conM (.int 1))) (nilA))))) (nxS))
  (seqS (ifS (blT (opM eqD (opM ixD (varM 0) (conM (.int 0))) (conM (.str (PySem.Str.ofString "turn"))))) (rtS (andM (opM eqD (callM lenD (consA (varM 0) (nilA))) (conM (.int 3))) (andM (apM NP.is_letter (consA (opM ixD (varM 0) (conM (.int 1))) (nilA))) (andM (apM NP.is_letter (consA (opM ixD (varM 0) (conM (.int 2))) (nilA))) (opM neD (opM ixD (varM 0) (conM (.int 1))) (opM ixD (varM 0) (conM (.int 2)))))))) (nxS))
  (rtS (opM eqD (varM 0) (tupM (consA (conM (.str (PySem.Str.ofString "change"))) (nilA)))))))))
def is_line : FM := fnM 2 (
  rtS (andM (apM NP.is_listed (consA (varM 0) (nilA))) (andM (opM leD (callM lenD (consA (varM 0) (nilA))) (conM (.int 4))) (callM allD (consA (lcM (seqI (varM 0)) (nmG 1) (yesT) (apM NP.is_part (consA (varM 1) (nilA))) [1]) (nilA))))))
def is_timed : FM := fnM 1 (
  rtS (opM inD (opM ixD (varM 0) (conM (.int 0))) (conM (.tup [(.str (PySem.Str.ofString "quiet")), (.str (PySem.Str.ofString "first")), (.str (PySem.Str.ofString "late")), (.str (PySem.Str.ofString "hold")), (.str (PySem.Str.ofString "both")), (.str (PySem.Str.ofString "again"))]))))
def Net___init__ (c : CA) : FM := fnM 7 (
  seqS (forS (enAI (consA (varM 2) (nilA))) (tupG 2 (consG (nmG 3) (consG (nmG 4) (nilG)))) (ifS (notT (truM (apM NP.is_line (consA (varM 4) (nilA))))) (badS) (nxS)))
  (seqS (ifS (blT (opM gtD (callM lenD (consA (varM 2) (nilA))) (conM (.int 4)))) (badS) (nxS))
  (seqS (ifS (blT (opM eqD (callM lenD (consA (varM 2) (nilA))) (conM (.int 0)))) (badS) (nxS))
  (seqS (asS (lcM (seqI (varM 2)) (nmG 4) (yesT) (callM listD (consA (varM 4) (nilA))) [4]) (nmG 5))
  (seqS (ifS (blT (opM gtD (callM lenD (consA (lcM2 (seqI (varM 5)) (nmG 4) (yesT) (seqI (varM 4)) (nmG 6) (truM (apM NP.is_timed (consA (varM 6) (nilA)))) (varM 6) [4, 6] [6]) (nilA))) (conM (.int 6)))) (badS) (nxS))
  (seqS (ifS (notT (truM (apM NP.are_letters (consA (varM 1) (nilA))))) (badS) (nxS))
  (seqS (stF (c "Net") "line_list" (varM 0) (varM 5))
  (seqS (stF (c "Net") "own_letters" (varM 0) (varM 1))
  (seqS (stF (c "Net") "part_list" (varM 0) (lcM2 (seqI (varM 5)) (nmG 4) (yesT) (seqI (varM 4)) (nmG 6) (yesT) (varM 6) [4, 6] [6]))
  (stF (c "Net") "homes" (varM 0) (lcM2 (enAI (consA (varM 5) (nilA))) (tupG 2 (consG (nmG 3) (consG (nmG 4) (nilG)))) (yesT) (seqI (varM 4)) (nmG 6) (yesT) (varM 3) [3, 4, 6] [6])))))))))))
def l_net (c : CA) : FM := fnM 3 (
  seqS (asS (lcM (seqI (opM ixD (varM 0) (conM (.int 1)))) (nmG 2) (yesT) (callM listD (consA (varM 2) (nilA))) [2]) (nmG 1))
  (seqS (ifS (blT (opM eqD (callM lenD (consA (varM 1) (nilA))) (conM (.int 1)))) (rtS (mkM (c "Net") (NP.Net___init__ c) (consA (opM ixD (varM 1) (conM (.int 0))) (nilA)) (consA (opM ixD (varM 0) (conM (.int 0))) (nilA)))) (nxS))
  (seqS (ifS (blT (opM eqD (callM lenD (consA (varM 1) (nilA))) (conM (.int 2)))) (rtS (mkM (c "Net") (NP.Net___init__ c) (consA (opM ixD (varM 1) (conM (.int 0))) (consA (opM ixD (varM 1) (conM (.int 1))) (nilA))) (consA (opM ixD (varM 0) (conM (.int 0))) (nilA)))) (nxS))
  (seqS (ifS (blT (opM eqD (callM lenD (consA (varM 1) (nilA))) (conM (.int 3)))) (rtS (mkM (c "Net") (NP.Net___init__ c) (consA (opM ixD (varM 1) (conM (.int 0))) (consA (opM ixD (varM 1) (conM (.int 1))) (consA (opM ixD (varM 1) (conM (.int 2))) (nilA)))) (consA (opM ixD (varM 0) (conM (.int 0))) (nilA)))) (nxS))
  (rtS (mkM (c "Net") (NP.Net___init__ c) (consA (opM ixD (varM 1) (conM (.int 0))) (consA (opM ixD (varM 1) (conM (.int 1))) (consA (opM ixD (varM 1) (conM (.int 2))) (consA (opM ixD (varM 1) (conM (.int 3))) (nilA))))) (consA (opM ixD (varM 0) (conM (.int 0))) (nilA))))))))
def l_of : FM := fnM 2 (
  rtS (opM ixD (varM 1) (apM NP.l_draw (consA (varM 0) (consA (callM lenD (consA (varM 1) (nilA))) (nilA))))))
def l_parts : FM := fnM 1 (
  rtS (callM sumLD (consA (opM ixD (varM 0) (conM (.int 1))) (consA (lstM (nilA)) (nilA)))))
def l_anew : FM := fnM 11 (
  seqS (asS (tupM (consA (callM lenD (consA (apM NP.l_parts (consA (varM 0) (nilA))) (nilA))) (consA (callM listD (consA (opM ixD (varM 1) (conM (.int 1))) (nilA))) (nilA)))) (tupG 2 (consG (nmG 4) (consG (nmG 5) (nilG)))))
  (seqS (asS (lcM (rngI (consA (callM lenD (consA (varM 5) (nilA))) (nilA))) (nmG 7) (yesT) (orM (opM geD (varM 7) (varM 4)) (andM (opM ixD (opM ixD (varM 2) (varM 7)) (conM (.int 0))) (opM ninD (varM 7) (varM 3)))) [7]) (nmG 6))
  (seqS (forS (rngI (consA (varM 4) (nilA))) (nmG 7) (ifS (notT (truM (opM ixD (varM 6) (varM 7)))) (asS (ifM (blT (opM inD (varM 7) (varM 3))) (conM (.int 0)) (conM .non)) (subG (varM 5) (varM 7))) (nxS)))
  (seqS (asS (lcM (seqI (opM ixD (varM 1) (conM (.int 2)))) (nmG 10) (yesT) (callM tupleD (consA (lcM (seqI (varM 10)) (nmG 7) (truM (opM ixD (varM 6) (varM 7))) (varM 7) [7]) (nilA))) [10]) (nmG 8))
  (seqS (asS (callM tupleD (consA (callM sortD (consA (opM addD (callM listD (consA (opM ixD (varM 8) (conM (.int 0))) (nilA))) (varM 3)) (nilA))) (nilA))) (nmG 9))
  (rtS (tupM (consA (varM 2) (consA (callM tupleD (consA (varM 5) (nilA))) (consA (opM addD (tupM (consA (varM 9) (nilA))) (callM tupleD (consA (lcM (seqI (slM (varM 8) (soM (conM (.int 1))) (noM))) (nmG 10) (blT (opM neD (varM 10) (tupM (nilA)))) (varM 10) [10]) (nilA)))) (nilA)))))))))))
def l_timed : FM := fnM 0 (
  rtS (lstM (consA (conM (.str (PySem.Str.ofString "quiet"))) (consA (conM (.str (PySem.Str.ofString "first"))) (consA (conM (.str (PySem.Str.ofString "late"))) (consA (conM (.str (PySem.Str.ofString "hold"))) (consA (conM (.str (PySem.Str.ofString "both"))) (consA (conM (.str (PySem.Str.ofString "again"))) (nilA)))))))))
def l_wait : FM := fnM 1 (
  rtS (ifM (blT (opM inD (opM ixD (varM 0) (conM (.int 0))) (apM0 NP.l_timed))) (opM ixD (varM 0) (conM (.int 1))) (conM (.int 0))))
def l_due_places : FM := fnM 4 (
  seqS (asS (apM NP.l_parts (consA (varM 0) (nilA))) (nmG 2))
  (rtS (lcM (seqI (opM ixD (opM ixD (varM 1) (conM (.int 2))) (conM (.int 0)))) (nmG 3) (andT (blT (opM ltD (varM 3) (callM lenD (consA (varM 2) (nilA))))) (blT (opM eqD (apM NP.l_wait (consA (opM ixD (varM 2) (varM 3)) (nilA))) (opM ixD (opM ixD (varM 1) (conM (.int 1))) (varM 3))))) (varM 3) [3])))
def l_came : FM := fnM 5 (
  seqS (parS 3 4 (consA (opM ixD (varM 0) (conM (.int 0))) (consA (opM ixD (varM 1) (conM (.int 0))) (nilA))))
  (seqS (ifS (blT (opM eqD (varM 3) (conM (.str (PySem.Str.ofString "pick"))))) (rtS (tupM (consA (varM 1) (consA (ifM (blT (opM inD (opM ixD (varM 2) (conM (.int 0))) (opM ixD (varM 0) (conM (.int 1))))) (varM 2) (conM .non)) (consA (conM (.bl false)) (nilA)))))) (nxS))
  (seqS (ifS (blT (opM eqD (varM 3) (conM (.str (PySem.Str.ofString "turn"))))) (rtS (tupM (consA (varM 1) (consA (ifM (blT (opM eqD (opM ixD (varM 2) (conM (.int 0))) (opM ixD (varM 0) (conM (.int 1))))) (tupM (consA (opM ixD (varM 0) (conM (.int 2))) (consA (opM ixD (varM 2) (conM (.int 1))) (nilA)))) (varM 2)) (consA (conM (.bl false)) (nilA)))))) (nxS))
  (seqS (ifS (blT (opM eqD (varM 3) (conM (.str (PySem.Str.ofString "change"))))) (rtS (ifM (blT (opM eqD (opM ixD (varM 1) (conM (.int 1))) (opM ixD (varM 2) (conM (.int 0))))) (tupM (consA (varM 1) (consA (conM .non) (consA (conM (.bl false)) (nilA))))) (tupM (consA (tupM (consA (conM (.bl false)) (consA (opM ixD (varM 2) (conM (.int 0))) (nilA)))) (consA (varM 2) (consA (conM (.bl false)) (nilA))))))) (nxS))
  (seqS (ifS (blT (opM inD (varM 3) (lstM (consA (conM (.str (PySem.Str.ofString "quiet"))) (consA (conM (.str (PySem.Str.ofString "again"))) (nilA)))))) (rtS (tupM (consA (tupM (consA (conM (.bl true)) (consA (varM 2) (nilA)))) (consA (ifM (blT (opM eqD (varM 3) (conM (.str (PySem.Str.ofString "again"))))) (varM 2) (conM .non)) (consA (conM (.bl true)) (nilA)))))) (nxS))
  (seqS (ifS (blT (opM inD (varM 3) (lstM (consA (conM (.str (PySem.Str.ofString "late"))) (consA (conM (.str (PySem.Str.ofString "hold"))) (nilA)))))) (rtS (tupM (consA (tupM (consA (conM (.bl true)) (consA (ifM (andT (truM (varM 4)) (blT (opM eqD (varM 3) (conM (.str (PySem.Str.ofString "hold")))))) (opM ixD (varM 1) (conM (.int 1))) (varM 2)) (nilA)))) (consA (conM .non) (consA (notM (varM 4)) (nilA)))))) (nxS))
  (seqS (ifS (truM (varM 4)) (rtS (tupM (consA (tupM (consA (conM (.bl true)) (consA (ifM (blT (opM eqD (varM 3) (conM (.str (PySem.Str.ofString "both"))))) (varM 2) (conM .non)) (nilA)))) (consA (conM .non) (consA (conM (.bl false)) (nilA)))))) (nxS))
  (rtS (tupM (consA (tupM (consA (conM (.bl true)) (consA (conM .non) (nilA)))) (consA (varM 2) (consA (conM (.bl true)) (nilA)))))))))))))
def l_homes : FM := fnM 3 (
  seqS (asS (lstM (nilA)) (nmG 1))
  (seqS (forS (rngI (consA (callM lenD (consA (opM ixD (varM 0) (conM (.int 1))) (nilA))) (nilA))) (nmG 2) (asS (opM addD (varM 1) (opM mulD (lstM (consA (varM 2) (nilA))) (callM lenD (consA (opM ixD (opM ixD (varM 0) (conM (.int 1))) (varM 2)) (nilA))))) (nmG 1)))
  (rtS (varM 1))))
def l_down : FM := fnM 10 (
  seqS (parS 4 5 (consA (apM NP.l_homes (consA (varM 0) (nilA))) (consA (apM NP.l_parts (consA (varM 0) (nilA))) (nilA))))
  (seqS (parS 6 7 (consA (callM listD (consA (varM 1) (nilA))) (consA (lstM (nilA)) (nilA))))
  (seqS (asS (ifM (blT (opM ltD (varM 2) (callM lenD (consA (varM 4) (nilA))))) (opM ixD (varM 4) (varM 2)) (conM (.int 0))) (nmG 8))
  (seqS (whS fuel0 (andT (blT (opM isntD (varM 3) (conM .non))) (andT (blT (opM ltD (varM 2) (callM lenD (consA (varM 5) (nilA))))) (blT (opM eqD (opM ixD (varM 4) (varM 2)) (varM 8))))) (seqS (asS (apM NP.l_came (consA (opM ixD (varM 5) (varM 2)) (consA (opM ixD (varM 6) (varM 2)) (consA (varM 3) (nilA))))) (tupG 3 (consG (subG (varM 6) (varM 2)) (consG (nmG 3) (consG (nmG 9) (nilG))))))
  (seqS (asS (opM addD (varM 7) (opM mulD (lstM (consA (varM 2) (nilA))) (callM intD (consA (varM 9) (nilA))))) (nmG 7))
  (asS (opM addD (varM 2) (conM (.int 1))) (nmG 2)))))
  (rtS (tupM (consA (callM tupleD (consA (varM 6) (nilA))) (consA (varM 7) (consA (ifM (blT (opM isD (varM 3) (conM .non))) (lstM (nilA)) (lstM (consA (tupM (consA (opM ixD (varM 3) (conM (.int 0))) (consA (opM ixD (varM 3) (conM (.int 1))) (consA (varM 8) (nilA))))) (nilA)))) (nilA))))))))))
def l_rang : FM := fnM 2 (
  seqS (ifS (blT (opM eqD (opM ixD (varM 0) (conM (.int 0))) (conM (.str (PySem.Str.ofString "again"))))) (rtS (tupM (consA (varM 1) (consA (opM ixD (varM 1) (conM (.int 1))) (consA (conM (.bl true)) (nilA)))))) (nxS))
  (seqS (ifS (andT (blT (opM eqD (opM ixD (varM 0) (conM (.int 0))) (conM (.str (PySem.Str.ofString "both"))))) (blT (opM isntD (opM ixD (varM 1) (conM (.int 1))) (conM .non)))) (rtS (tupM (consA (tupM (consA (conM (.bl true)) (consA (conM .non) (nilA)))) (consA (opM ixD (varM 1) (conM (.int 1))) (consA (conM (.bl true)) (nilA)))))) (nxS))
  (rtS (tupM (consA (tupM (consA (conM (.bl false)) (consA (conM .non) (nilA)))) (consA (opM ixD (varM 1) (conM (.int 1))) (consA (conM (.bl false)) (nilA))))))))
def l_fire : FM := fnM 12 (
  seqS (parS 3 4 (consA (apM NP.l_parts (consA (varM 0) (nilA))) (consA (apM NP.l_homes (consA (varM 0) (nilA))) (nilA))))
  (seqS (asS (apM NP.l_rang (consA (opM ixD (varM 3) (varM 2)) (consA (opM ixD (varM 1) (varM 2)) (nilA)))) (tupG 3 (consG (nmG 5) (consG (nmG 6) (consG (nmG 7) (nilG))))))
  (seqS (asS (opM addD (opM addD (slM (varM 1) (noM) (soM (varM 2))) (tupM (consA (varM 5) (nilA)))) (slM (varM 1) (soM (opM addD (varM 2) (conM (.int 1)))) (noM))) (nmG 8))
  (seqS (asS (opM mulD (lstM (consA (varM 2) (nilA))) (callM intD (consA (varM 7) (nilA)))) (nmG 9))
  (seqS (ifS (andT (blT (opM isntD (varM 6) (conM .non))) (andT (blT (opM ltD (opM addD (varM 2) (conM (.int 1))) (callM lenD (consA (varM 3) (nilA))))) (blT (opM eqD (opM ixD (varM 4) (opM addD (varM 2) (conM (.int 1)))) (opM ixD (varM 4) (varM 2)))))) (seqS (asS (apM NP.l_down (consA (varM 0) (consA (varM 8) (consA (opM addD (varM 2) (conM (.int 1))) (consA (varM 6) (nilA)))))) (tupG 3 (consG (nmG 8) (consG (nmG 10) (consG (nmG 11) (nilG))))))
  (rtS (tupM (consA (varM 8) (consA (opM addD (varM 9) (varM 10)) (consA (varM 11) (nilA))))))) (nxS))
  (rtS (tupM (consA (varM 8) (consA (varM 9) (consA (ifM (blT (opM isD (varM 6) (conM .non))) (lstM (nilA)) (lstM (consA (tupM (consA (opM ixD (varM 6) (conM (.int 0))) (consA (opM ixD (varM 6) (conM (.int 1))) (consA (opM ixD (varM 4) (varM 2)) (nilA))))) (nilA)))) (nilA)))))))))))
def l_older_state : FM := fnM 6 (
  seqS (asS (varM 0) (tupG 3 (consG (nmG 1) (consG (nmG 2) (consG (nmG 3) (nilG))))))
  (seqS (ifS (blT (opM neD (opM ixD (varM 3) (conM (.int 0))) (tupM (nilA)))) (rtS (tupM (consA (varM 1) (consA (varM 2) (consA (opM addD (tupM (consA (tupM (nilA)) (nilA))) (varM 3)) (nilA)))))) (nxS))
  (seqS (ifS (blT (opM eqD (callM lenD (consA (varM 3) (nilA))) (conM (.int 1)))) (rtS (varM 0)) (nxS))
  (seqS (asS (callM listD (consA (varM 2) (nilA))) (nmG 4))
  (seqS (forS (seqI (opM ixD (varM 3) (opM subD (callM lenD (consA (varM 3) (nilA))) (conM (.int 1))))) (nmG 5) (asS (opM addD (opM ixD (varM 4) (varM 5)) (conM (.int 1))) (subG (varM 4) (varM 5))))
  (rtS (tupM (consA (varM 1) (consA (callM tupleD (consA (varM 4) (nilA))) (consA (opM addD (tupM (consA (opM ixD (varM 3) (opM subD (callM lenD (consA (varM 3) (nilA))) (conM (.int 1)))) (nilA))) (slM (varM 3) (soM (conM (.int 1))) (soM (opM subD (callM lenD (consA (varM 3) (nilA))) (conM (.int 1)))))) (nilA)))))))))))
def l_pass : FM := fnM 7 (
  seqS (parS 2 3 (consA (apM NP.l_older_state (consA (varM 1) (nilA))) (consA (lstM (nilA)) (nilA))))
  (seqS (forS (rngI (consA (opM addD (callM lenD (consA (apM NP.l_parts (consA (varM 0) (nilA))) (nilA))) (conM (.int 1))) (nilA))) (nmG 4) (seqS (asS (apM NP.l_due_places (consA (varM 0) (consA (varM 2) (nilA)))) (nmG 5))
  (ifS (blT (opM neD (varM 5) (lstM (nilA)))) (seqS (asS (apM NP.l_fire (consA (varM 0) (consA (opM ixD (varM 2) (conM (.int 0))) (consA (opM ixD (varM 5) (conM (.int 0))) (nilA))))) (nmG 6))
  (parS 2 3 (consA (apM NP.l_anew (consA (varM 0) (consA (varM 2) (consA (opM ixD (varM 6) (conM (.int 0))) (consA (opM ixD (varM 6) (conM (.int 1))) (nilA)))))) (consA (opM addD (varM 3) (opM ixD (varM 6) (conM (.int 2)))) (nilA))))) (nxS))))
  (rtS (tupM (consA (varM 2) (consA (varM 3) (nilA)))))))
def b_l_same (rec : FM) : SM :=
  seqS (ifS (orT (blT (opM isD (varM 1) (conM .non))) (blT (opM isD (varM 0) (conM .non)))) (rtS (andM (opM isD (varM 1) (conM .non)) (opM isD (varM 0) (conM .non)))) (nxS))
  (seqS (ifS (truM (callM isiD (consA (varM 1) (consA (tupM (consA (conM (.raw (.ty "list"))) (consA (conM (.raw (.ty "tuple"))) (nilA)))) (nilA))))) (seqS (ifS (orT (blT (opM neD (callM isiD (consA (varM 0) (consA (conM (.raw (.ty "list"))) (nilA)))) (callM isiD (consA (varM 1) (consA (conM (.raw (.ty "list"))) (nilA)))))) (blT (opM neD (callM isiD (consA (varM 0) (consA (conM (.raw (.ty "tuple"))) (nilA)))) (callM isiD (consA (varM 1) (consA (conM (.raw (.ty "tuple"))) (nilA))))))) (rtS (conM (.bl false))) (nxS))
  (rtS (andM (opM eqD (callM lenD (consA (varM 0) (nilA))) (callM lenD (consA (varM 1) (nilA)))) (callM allD (consA (lcM (zipI (consA (varM 0) (consA (varM 1) (nilA)))) (tupG 2 (consG (nmG 2) (consG (nmG 3) (nilG)))) (yesT) (apM rec (consA (varM 2) (consA (varM 3) (nilA)))) [2, 3]) (nilA)))))) (nxS))
  (seqS (ifS (orT (blT (opM neD (callM isiD (consA (varM 0) (consA (conM (.raw (.ty "bool"))) (nilA)))) (callM isiD (consA (varM 1) (consA (conM (.raw (.ty "bool"))) (nilA)))))) (blT (opM neD (callM isiD (consA (varM 0) (consA (conM (.raw (.ty "int"))) (nilA)))) (callM isiD (consA (varM 1) (consA (conM (.raw (.ty "int"))) (nilA))))))) (rtS (conM (.bl false))) (nxS))
  (rtS (andM (opM eqD (callM isiD (consA (varM 0) (consA (conM (.raw (.ty "str"))) (nilA)))) (callM isiD (consA (varM 1) (consA (conM (.raw (.ty "str"))) (nilA))))) (opM eqD (varM 0) (varM 1))))))
def l_same : Nat → FM
  | 0 => fun _ _ => .bad
  | k + 1 => fnM 4 (b_l_same (l_same k))
def l_enter : FM := fnM 9 (
  seqS (parS3 3 4 5 (consA (apM NP.l_homes (consA (varM 0) (nilA))) (consA (lstM (nilA)) (consA (lstM (nilA)) (nilA)))))
  (seqS (forS (rngI (consA (callM lenD (consA (opM ixD (varM 0) (conM (.int 1))) (nilA))) (nilA))) (nmG 6) (ifS (blT (opM eqD (opM ixD (opM ixD (varM 0) (conM (.int 1))) (varM 6)) (lstM (nilA)))) (asS (opM addD (varM 5) (lstM (consA (tupM (consA (opM ixD (varM 2) (conM (.int 0))) (consA (opM ixD (varM 2) (conM (.int 1))) (consA (varM 6) (nilA))))) (nilA)))) (nmG 5)) (seqS (asS (apM NP.l_down (consA (varM 0) (consA (varM 1) (consA (mtM "list" indexD (varM 3) (consA (varM 6) (nilA))) (consA (varM 2) (nilA)))))) (tupG 3 (consG (nmG 1) (consG (nmG 7) (consG (nmG 8) (nilG))))))
  (parS 4 5 (consA (opM addD (varM 4) (varM 7)) (consA (opM addD (varM 5) (varM 8)) (nilA)))))))
  (rtS (tupM (consA (varM 1) (consA (varM 4) (consA (varM 5) (nilA))))))))
def l_send : FM := fnM 5 (
  seqS (asS (apM NP.l_enter (consA (varM 0) (consA (opM ixD (varM 1) (conM (.int 0))) (consA (tupM (consA (varM 2) (consA (varM 3) (nilA)))) (nilA))))) (nmG 4))
  (rtS (tupM (consA (apM NP.l_anew (consA (varM 0) (consA (varM 1) (consA (opM ixD (varM 4) (conM (.int 0))) (consA (opM ixD (varM 4) (conM (.int 1))) (nilA)))))) (consA (opM ixD (varM 4) (conM (.int 2))) (nilA))))))
def l_mixed : FM := fnM 4 (
  seqS (parS 2 3 (consA (callM listD (consA (varM 1) (nilA))) (consA (lstM (nilA)) (nilA))))
  (seqS (whS fuel0 (blT (opM neD (varM 2) (lstM (nilA)))) (exS (mtM "list" appD (varM 3) (consA (mtM "list" popD (varM 2) (consA (apM NP.l_draw (consA (varM 0) (consA (callM lenD (consA (varM 2) (nilA))) (nilA)))) (nilA))) (nilA)))))
  (rtS (varM 3))))
def l_some_part : FM := fnM 4 (
  seqS (asS (apM NP.l_draw (consA (varM 0) (consA (conM (.int 9)) (nilA)))) (nmG 2))
  (seqS (ifS (blT (opM ltD (varM 2) (conM (.int 6)))) (rtS (tupM (consA (opM ixD (apM0 NP.l_timed) (varM 2)) (consA (opM addD (conM (.int 1)) (apM NP.l_draw (consA (varM 0) (consA (varM 1) (nilA))))) (nilA))))) (nxS))
  (seqS (ifS (blT (opM eqD (varM 2) (conM (.int 6)))) (rtS (tupM (consA (conM (.str (PySem.Str.ofString "change"))) (nilA)))) (nxS))
  (seqS (ifS (blT (opM eqD (varM 2) (conM (.int 7)))) (rtS (tupM (consA (conM (.str (PySem.Str.ofString "pick"))) (consA (apM NP.l_of (consA (varM 0) (consA (lstM (consA (conM (.str (PySem.Str.ofString "a"))) (consA (conM (.str (PySem.Str.ofString "b"))) (consA (conM (.str (PySem.Str.ofString "c"))) (consA (conM (.str (PySem.Str.ofString "ab"))) (consA (conM (.str (PySem.Str.ofString "ac"))) (consA (conM (.str (PySem.Str.ofString "bc"))) (consA (conM (.str (PySem.Str.ofString "abc"))) (nilA))))))))) (nilA)))) (nilA))))) (nxS))
  (seqS (asS (apM NP.l_mixed (consA (varM 0) (consA (lstM (consA (conM (.str (PySem.Str.ofString "a"))) (consA (conM (.str (PySem.Str.ofString "b"))) (consA (conM (.str (PySem.Str.ofString "c"))) (nilA))))) (nilA)))) (nmG 3))
  (rtS (tupM (consA (conM (.str (PySem.Str.ofString "turn"))) (consA (opM ixD (varM 3) (conM (.int 0))) (consA (opM ixD (varM 3) (conM (.int 1))) (nilA)))))))))))
def l_some_net : FM := fnM 11 (
  seqS (parS3 4 5 6 (consA (apM NP.l_of (consA (varM 0) (consA (lstM (consA (conM (.str (PySem.Str.ofString "a"))) (consA (conM (.str (PySem.Str.ofString "b"))) (consA (conM (.str (PySem.Str.ofString "ab"))) (consA (conM (.str (PySem.Str.ofString "ac"))) (consA (conM (.str (PySem.Str.ofString "abc"))) (nilA))))))) (nilA)))) (consA (lstM (nilA)) (consA (varM 3) (nilA)))))
  (seqS (forS (rngI (consA (opM addD (conM (.int 1)) (apM NP.l_draw (consA (varM 0) (consA (varM 2) (nilA))))) (nilA))) (nmG 7) (seqS (asS (lstM (nilA)) (nmG 8))
  (seqS (forS (rngI (consA (apM NP.l_draw (consA (varM 0) (consA (conM (.int 5)) (nilA)))) (nilA))) (nmG 9) (seqS (asS (apM NP.l_some_part (consA (varM 0) (consA (varM 1) (nilA)))) (nmG 10))
  (ifS (orT (blT (opM eqD (apM NP.l_wait (consA (varM 10) (nilA))) (conM (.int 0)))) (blT (opM gtD (varM 6) (conM (.int 0))))) (seqS (exS (mtM "list" appD (varM 8) (consA (varM 10) (nilA))))
  (asS (opM subD (varM 6) (callM intD (consA (opM gtD (apM NP.l_wait (consA (varM 10) (nilA))) (conM (.int 0))) (nilA)))) (nmG 6))) (nxS))))
  (exS (mtM "list" appD (varM 5) (consA (varM 8) (nilA)))))))
  (rtS (tupM (consA (varM 4) (consA (varM 5) (nilA)))))))
def l_first : FM := fnM 2 (
  seqS (asS (callM lenD (consA (apM NP.l_parts (consA (varM 0) (nilA))) (nilA))) (nmG 1))
  (rtS (tupM (consA (opM mulTD (tupM (consA (tupM (consA (conM (.bl false)) (consA (conM .non) (nilA)))) (nilA))) (varM 1)) (consA (opM mulTD (tupM (consA (conM .non) (nilA))) (varM 1)) (consA (tupM (consA (tupM (nilA)) (nilA))) (nilA)))))))
def l_move : FM := fnM 4 (
  rtS (ifM (blT (opM eqD (varM 2) (conM (.str (PySem.Str.ofString ""))))) (apM NP.l_pass (consA (varM 0) (consA (varM 1) (nilA)))) (apM NP.l_send (consA (varM 0) (consA (varM 1) (consA (varM 2) (consA (varM 3) (nilA))))))))
def l_tries : FM := fnM 2 (
  rtS (opM addD (lstM (consA (conM (.str (PySem.Str.ofString ""))) (nilA))) (lcM (seqI (opM ixD (varM 0) (conM (.int 0)))) (nmG 1) (yesT) (varM 1) [1])))
def l_walk : FM := fnM 7 (
  seqS (parS 3 4 (consA (lstM (consA (apM NP.l_first (consA (varM 1) (nilA))) (nilA))) (consA (lstM (nilA)) (nilA))))
  (seqS (forS (rngI (consA (varM 2) (nilA))) (nmG 5) (seqS (asS (ifM (blT (opM gtD (apM NP.l_draw (consA (varM 0) (consA (conM (.int 3)) (nilA)))) (conM (.int 0)))) (conM (.str (PySem.Str.ofString ""))) (apM NP.l_of (consA (varM 0) (consA (slM (apM NP.l_tries (consA (varM 1) (nilA))) (soM (conM (.int 1))) (noM)) (nilA))))) (nmG 6))
  (seqS (exS (mtM "list" appD (varM 3) (consA (opM ixD (apM NP.l_move (consA (varM 1) (consA (opM ixD (varM 3) (varM 5)) (consA (varM 6) (consA (conM (.int 0)) (nilA)))))) (conM (.int 0))) (nilA))))
  (exS (mtM "list" appD (varM 4) (consA (varM 6) (nilA)))))))
  (rtS (tupM (consA (varM 3) (consA (varM 4) (nilA)))))))
def aged : FM := fnM 6 (
  seqS (asS (varM 0) (tupG 3 (consG (nmG 1) (consG (nmG 2) (consG (nmG 3) (nilG))))))
  (seqS (ifS (blT (opM neD (opM ixD (varM 3) (conM (.int 0))) (tupM (nilA)))) (rtS (tupM (consA (varM 1) (consA (varM 2) (consA (tupSM (consA (tupM (nilA)) (starA (varM 3) (nilA)))) (nilA)))))) (nxS))
  (seqS (ifS (blT (opM eqD (callM lenD (consA (varM 3) (nilA))) (conM (.int 1)))) (rtS (varM 0)) (nxS))
  (seqS (asS (callM listD (consA (varM 2) (nilA))) (nmG 4))
  (seqS (forS (seqI (opM ixD (varM 3) (negM (conM (.int 1))))) (nmG 5) (augS (fun a b => a + b) (varM 4) (varM 5) (conM (.int 1))))
  (rtS (tupM (consA (varM 1) (consA (callM tupleD (consA (varM 4) (nilA))) (consA (opM addD (tupM (consA (opM ixD (varM 3) (negM (conM (.int 1)))) (nilA))) (slM (varM 3) (soM (conM (.int 1))) (soM (negM (conM (.int 1)))))) (nilA)))))))))))
def Net___len__ (c : CA) : FM := fnM 1 (
  rtS (callM lenD (consA (fldM (c "Net") "part_list" (varM 0)) (nilA))))
def wait_of : FM := fnM 1 (
  rtS (ifM (truM (apM NP.is_timed (consA (varM 0) (nilA)))) (opM ixD (varM 0) (conM (.int 1))) (conM .non)))
def due_place (c : CA) : FM := fnM 3 (
  seqS (forS (seqI (opM ixD (opM ixD (varM 1) (conM (.int 2))) (conM (.int 0)))) (nmG 2) (ifS (andT (blT (opM ltD (varM 2) (lenOM (c "Net") (NP.Net___len__ c) (varM 0)))) (blT (opM eqD (opM ixD (opM ixD (varM 1) (conM (.int 1))) (varM 2)) (apM NP.wait_of (consA (opM ixD (fldM (c "Net") "part_list" (varM 0)) (varM 2)) (nilA)))))) (rtS (varM 2)) (nxS)))
  (rtS (conM .non)))
def Net_place_of (c : CA) : FM := fnM 4 (
  rtS (opM addD (callM sumD (consA (lcM (seqI (slM (fldM (c "Net") "line_list" (varM 0)) (noM) (soM (varM 1)))) (nmG 3) (yesT) (callM lenD (consA (varM 3) (nilA))) [3]) (nilA))) (varM 2)))
def timed_came : FM := fnM 4 (
  seqS (ifS (blT (opM eqD (varM 0) (conM (.str (PySem.Str.ofString "quiet"))))) (rtS (tupM (consA (tupM (consA (conM (.bl true)) (consA (varM 3) (nilA)))) (consA (conM .non) (consA (conM (.bl true)) (nilA)))))) (nxS))
  (seqS (ifS (blT (opM eqD (varM 0) (conM (.str (PySem.Str.ofString "again"))))) (rtS (tupM (consA (tupM (consA (conM (.bl true)) (consA (varM 3) (nilA)))) (consA (varM 3) (consA (conM (.bl true)) (nilA)))))) (nxS))
  (seqS (ifS (blT (opM eqD (varM 0) (conM (.str (PySem.Str.ofString "late"))))) (rtS (tupM (consA (tupM (consA (conM (.bl true)) (consA (varM 3) (nilA)))) (consA (conM .non) (consA (notM (varM 1)) (nilA)))))) (nxS))
  (seqS (ifS (blT (opM eqD (varM 0) (conM (.str (PySem.Str.ofString "hold"))))) (rtS (ifM (truM (varM 1)) (tupM (consA (varM 2) (consA (conM .non) (consA (conM (.bl false)) (nilA))))) (tupM (consA (tupM (consA (conM (.bl true)) (consA (varM 3) (nilA)))) (consA (conM .non) (consA (conM (.bl true)) (nilA))))))) (nxS))
  (seqS (ifS (notT (truM (varM 1))) (rtS (tupM (consA (tupM (consA (conM (.bl true)) (consA (conM .non) (nilA)))) (consA (varM 3) (consA (conM (.bl true)) (nilA)))))) (nxS))
  (rtS (ifM (blT (opM eqD (varM 0) (conM (.str (PySem.Str.ofString "both"))))) (tupM (consA (tupM (consA (conM (.bl true)) (consA (varM 3) (nilA)))) (consA (conM .non) (consA (conM (.bl false)) (nilA))))) (tupM (consA (varM 2) (consA (conM .non) (consA (conM (.bl false)) (nilA))))))))))))
def came : FM := fnM 5 (
  seqS (parS 3 4 (consA (opM ixD (varM 0) (conM (.int 0))) (consA (opM ixD (varM 1) (conM (.int 0))) (nilA))))
  (seqS (ifS (blT (opM inD (varM 3) (conM (.tup [(.str (PySem.Str.ofString "quiet")), (.str (PySem.Str.ofString "first")), (.str (PySem.Str.ofString "late")), (.str (PySem.Str.ofString "hold")), (.str (PySem.Str.ofString "both")), (.str (PySem.Str.ofString "again"))])))) (rtS (apM NP.timed_came (consA (varM 3) (consA (varM 4) (consA (varM 1) (consA (varM 2) (nilA))))))) (nxS))
  (seqS (ifS (blT (opM eqD (varM 3) (conM (.str (PySem.Str.ofString "change"))))) (rtS (ifM (blT (opM eqD (opM ixD (varM 1) (conM (.int 1))) (opM ixD (varM 2) (conM (.int 0))))) (tupM (consA (varM 1) (consA (conM .non) (consA (conM (.bl false)) (nilA))))) (tupM (consA (tupM (consA (conM (.bl false)) (consA (opM ixD (varM 2) (conM (.int 0))) (nilA)))) (consA (varM 2) (consA (conM (.bl false)) (nilA))))))) (nxS))
  (seqS (ifS (blT (opM eqD (varM 3) (conM (.str (PySem.Str.ofString "pick"))))) (rtS (tupM (consA (varM 1) (consA (ifM (blT (opM inD (opM ixD (varM 2) (conM (.int 0))) (opM ixD (varM 0) (conM (.int 1))))) (varM 2) (conM .non)) (consA (conM (.bl false)) (nilA)))))) (nxS))
  (rtS (tupM (consA (varM 1) (consA (ifM (blT (opM eqD (opM ixD (varM 2) (conM (.int 0))) (opM ixD (varM 0) (conM (.int 1))))) (tupM (consA (opM ixD (varM 0) (conM (.int 2))) (consA (opM ixD (varM 2) (conM (.int 1))) (nilA)))) (varM 2)) (consA (conM (.bl false)) (nilA))))))))))
def came_at (c : CA) : FM := fnM 4 (
  rtS (apM NP.came (consA (opM ixD (fldM (c "Net") "part_list" (varM 0)) (varM 2)) (consA (opM ixD (varM 1) (varM 2)) (consA (varM 3) (nilA))))))
def put_in (c : CA) : FM := fnM 10 (
  seqS (parS 5 6 (consA (callM listD (consA (varM 1) (nilA))) (consA (lstM (nilA)) (nilA))))
  (seqS (asS (lcM (rngI (consA (lenOM (c "Net") (NP.Net___len__ c) (varM 0)) (nilA))) (nmG 8) (blT (opM eqD (opM ixD (fldM (c "Net") "homes" (varM 0)) (varM 8)) (varM 2))) (varM 8) [8]) (nmG 7))
  (seqS (forS (seqI (slM (varM 7) (soM (varM 3)) (noM))) (nmG 8) (ifS (blT (opM isntD (varM 4) (conM .non))) (seqS (asS (apM (NP.came_at c) (consA (varM 0) (consA (varM 5) (consA (varM 8) (consA (varM 4) (nilA)))))) (tupG 3 (consG (subG (varM 5) (varM 8)) (consG (nmG 4) (consG (nmG 9) (nilG))))))
  (asS (opM addD (varM 6) (opM mulD (lstM (consA (varM 8) (nilA))) (callM intD (consA (varM 9) (nilA))))) (nmG 6))) (nxS)))
  (rtS (tupM (consA (callM tupleD (consA (varM 5) (nilA))) (consA (varM 6) (consA (varM 4) (nilA)))))))))
def rang : FM := fnM 4 (
  seqS (parS 2 3 (consA (opM ixD (varM 0) (conM (.int 0))) (consA (opM ixD (varM 1) (conM (.int 1))) (nilA))))
  (seqS (ifS (blT (opM eqD (varM 2) (conM (.str (PySem.Str.ofString "again"))))) (rtS (tupM (consA (tupM (consA (conM (.bl true)) (consA (varM 3) (nilA)))) (consA (varM 3) (consA (conM (.bl true)) (nilA)))))) (nxS))
  (seqS (ifS (andT (blT (opM eqD (varM 2) (conM (.str (PySem.Str.ofString "both"))))) (blT (opM isntD (varM 3) (conM .non)))) (rtS (tupM (consA (tupM (consA (conM (.bl true)) (consA (conM .non) (nilA)))) (consA (varM 3) (consA (conM (.bl true)) (nilA)))))) (nxS))
  (rtS (tupM (consA (conM (.tup [(.bl false), .non])) (consA (varM 3) (consA (conM (.bl false)) (nilA)))))))))
def fired (c : CA) : FM := fnM 11 (
  seqS (asS (opM ixD (fldM (c "Net") "homes" (varM 0)) (varM 2)) (nmG 3))
  (seqS (asS (apM NP.rang (consA (opM ixD (fldM (c "Net") "part_list" (varM 0)) (varM 2)) (consA (opM ixD (varM 1) (varM 2)) (nilA)))) (tupG 3 (consG (nmG 4) (consG (nmG 5) (consG (nmG 6) (nilG))))))
  (seqS (asS (opM addD (opM addD (slM (varM 1) (noM) (soM (varM 2))) (tupM (consA (varM 4) (nilA)))) (slM (varM 1) (soM (opM addD (varM 2) (conM (.int 1)))) (noM))) (nmG 7))
  (seqS (asS (apM (NP.put_in c) (consA (varM 0) (consA (varM 7) (consA (varM 3) (consA (opM addD (opM subD (varM 2) (methM (c "Net") "place_of" (NP.Net_place_of c) (varM 0) (consA (varM 3) (consA (conM (.int 0)) (nilA))))) (conM (.int 1))) (consA (varM 5) (nilA))))))) (tupG 3 (consG (nmG 7) (consG (nmG 8) (consG (nmG 9) (nilG))))))
  (seqS (asS (ifM (blT (opM isD (varM 9) (conM .non))) (lstM (nilA)) (lstM (consA (tupSM (starA (varM 9) (consA (varM 3) (nilA)))) (nilA)))) (nmG 10))
  (rtS (tupM (consA (varM 7) (consA (opM addD (opM mulD (lstM (consA (varM 2) (nilA))) (callM intD (consA (varM 6) (nilA)))) (varM 8)) (consA (varM 10) (nilA)))))))))))
def restarted (c : CA) : FM := fnM 12 (
  seqS (parS 4 5 (consA (opM ixD (varM 1) (conM (.int 1))) (consA (opM ixD (varM 1) (conM (.int 2))) (nilA))))
  (seqS (asS (lcM (rngI (consA (callM lenD (consA (varM 4) (nilA))) (nilA))) (nmG 9) (yesT) (orM (opM geD (varM 9) (lenOM (c "Net") (NP.Net___len__ c) (varM 0))) (andM (opM ixD (opM ixD (varM 2) (varM 9)) (conM (.int 0))) (opM ninD (varM 9) (varM 3)))) [9]) (nmG 6))
  (seqS (asS (lcM (seqI (varM 5)) (nmG 11) (yesT) (callM tupleD (consA (lcM (seqI (varM 11)) (nmG 9) (truM (opM ixD (varM 6) (varM 9))) (varM 9) [9]) (nilA))) [11]) (nmG 7))
  (seqS (asS (callM listD (consA (varM 4) (nilA))) (nmG 8))
  (seqS (forS (rngI (consA (lenOM (c "Net") (NP.Net___len__ c) (varM 0)) (nilA))) (nmG 9) (ifS (notT (truM (opM ixD (varM 6) (varM 9)))) (asS (ifM (blT (opM inD (varM 9) (varM 3))) (conM (.int 0)) (conM .non)) (subG (varM 8) (varM 9))) (nxS)))
  (seqS (asS (lcM (seqI (slM (varM 7) (soM (conM (.int 1))) (noM))) (nmG 11) (blT (opM neD (varM 11) (tupM (nilA)))) (varM 11) [11]) (nmG 10))
  (rtS (tupM (consA (varM 2) (consA (callM tupleD (consA (varM 8) (nilA))) (consA (tupSM (consA (callM tupleD (consA (callM sortD (consA (opM addD (callM listD (consA (opM ixD (varM 7) (conM (.int 0))) (nilA))) (varM 3)) (nilA))) (nilA))) (starA (varM 10) (nilA)))) (nilA))))))))))))
def settled (c : CA) : FM := fnM 7 (
  seqS (parS 2 3 (consA (lstM (nilA)) (consA (apM (NP.due_place c) (consA (varM 0) (consA (varM 1) (nilA)))) (nilA))))
  (seqS (whS fuel0 (blT (opM isntD (varM 3) (conM .non))) (seqS (asS (apM (NP.fired c) (consA (varM 0) (consA (opM ixD (varM 1) (conM (.int 0))) (consA (varM 3) (nilA))))) (tupG 3 (consG (nmG 4) (consG (nmG 5) (consG (nmG 6) (nilG))))))
  (seqS (asS (apM (NP.restarted c) (consA (varM 0) (consA (varM 1) (consA (varM 4) (consA (varM 5) (nilA)))))) (nmG 1))
  (seqS (exS (mtM "list" extD (varM 2) (consA (varM 6) (nilA))))
  (asS (apM (NP.due_place c) (consA (varM 0) (consA (varM 1) (nilA)))) (nmG 3))))))
  (rtS (tupM (consA (varM 1) (consA (varM 2) (nilA)))))))
def passed (c : CA) : FM := fnM 2 (
  rtS (apM (NP.settled c) (consA (varM 0) (consA (apM NP.aged (consA (varM 1) (nilA))) (nilA)))))
def entered (c : CA) : FM := fnM 8 (
  seqS (parS 3 4 (consA (lstM (nilA)) (consA (lstM (nilA)) (nilA))))
  (seqS (forS (rngI (consA (callM lenD (consA (fldM (c "Net") "line_list" (varM 0)) (nilA))) (nilA))) (nmG 5) (seqS (asS (apM (NP.put_in c) (consA (varM 0) (consA (varM 1) (consA (varM 5) (consA (conM (.int 0)) (consA (varM 2) (nilA))))))) (tupG 3 (consG (nmG 1) (consG (nmG 6) (consG (nmG 7) (nilG))))))
  (seqS (asS (opM addD (varM 3) (varM 6)) (nmG 3))
  (ifS (blT (opM isntD (varM 7) (conM .non))) (exS (mtM "list" appD (varM 4) (consA (tupSM (starA (varM 7) (consA (varM 5) (nilA)))) (nilA)))) (nxS)))))
  (rtS (tupM (consA (varM 1) (consA (varM 3) (consA (varM 4) (nilA))))))))
def sent (c : CA) : FM := fnM 7 (
  seqS (asS (apM (NP.entered c) (consA (varM 0) (consA (opM ixD (varM 1) (conM (.int 0))) (consA (tupM (consA (varM 2) (consA (varM 3) (nilA)))) (nilA))))) (tupG 3 (consG (nmG 4) (consG (nmG 5) (consG (nmG 6) (nilG))))))
  (rtS (tupM (consA (apM (NP.restarted c) (consA (varM 0) (consA (varM 1) (consA (varM 4) (consA (varM 5) (nilA)))))) (consA (varM 6) (nilA))))))
def law (c : CA) : FM := fnM 12 (
  seqS (asS (apM NP.l_bag (consA (varM 0) (nilA))) (nmG 1))
  (seqS (asS (apM NP.l_some_net (consA (varM 1) (consA (conM (.int 3)) (consA (conM (.int 4)) (consA (conM (.int 6)) (nilA)))))) (nmG 2))
  (seqS (parS 3 4 (consA (apM (NP.l_net c) (consA (varM 2) (nilA))) (consA (opM ixD (apM NP.l_walk (consA (varM 1) (consA (varM 2) (consA (conM (.int 20)) (nilA))))) (conM (.int 0))) (nilA))))
  (seqS (forS (seqI (varM 4)) (nmG 5) (seqS (parS 6 7 (consA (apM NP.l_of (consA (varM 1) (consA (lcM (seqI (opM ixD (varM 2) (conM (.int 0)))) (nmG 11) (yesT) (varM 11) [11]) (nilA)))) (consA (apM NP.l_draw (consA (varM 1) (consA (conM (.int 2)) (nilA)))) (nilA))))
  (seqS (asS (apM NP.l_send (consA (varM 2) (consA (varM 5) (consA (varM 6) (consA (varM 7) (nilA)))))) (nmG 8))
  (seqS (asS (lstM (consA (kwM (NP.sent c) [0, 1, 2, 3] (consA (varM 3) (consA (varM 5) (consA (varM 6) (nilA)))) (consA (varM 7) (nilA))) (consA (kwM0 (NP.sent c) [2, 1, 0, 3] (consA (varM 6) (consA (varM 5) (consA (varM 3) (consA (varM 7) (nilA)))))) (nilA)))) (nmG 9))
  (seqS (ifS (orT (notT (truM (apM (NP.l_same 24) (consA (varM 9) (consA (lstM (consA (varM 8) (consA (varM 8) (nilA)))) (nilA)))))) (notT (truM (apM (NP.l_same 24) (consA (dfM (NP.sent c) [(.int 0)] (consA (varM 3) (consA (varM 5) (consA (varM 6) (nilA))))) (consA (apM NP.l_send (consA (varM 2) (consA (varM 5) (consA (varM 6) (consA (conM (.int 0)) (nilA)))))) (nilA))))))) (rtS (conM (.bl false))) (nxS))
  (seqS (asS (apM NP.l_pass (consA (varM 2) (consA (opM ixD (varM 8) (conM (.int 0))) (nilA)))) (nmG 10))
  (ifS (notT (truM (apM (NP.l_same 24) (consA (apM (NP.passed c) (consA (varM 3) (consA (opM ixD (varM 8) (conM (.int 0))) (nilA)))) (consA (varM 10) (nilA)))))) (rtS (conM (.bl false))) (nxS))))))))
  (rtS (conM (.bl true)))))))
end NP
set_option maxRecDepth 100000
set_option maxHeartbeats 1000000
namespace NL
open PySem PySem.Spec L2
/-! ### what the combinators do -/
section
variable (e : LE) (lh : LH)
@[simp] theorem conM_ap (d : D) : conM d e lh = .ok d lh := rfl
theorem varM_ap (i : Nat) {d : D} (h : e[i]? = some (some d)) : varM i e lh = .ok d lh := by unfold varM; rw [h]
@[simp] theorem varM_0 (d : D) (r : LE) : varM 0 (some d :: r) lh = .ok d lh := rfl
@[simp] theorem varM_s (i : Nat) (o : Option D) (r : LE) : varM (i + 1) (o :: r) lh = varM i r lh := by unfold varM; simp
@[simp] theorem opM_ap (f : D → D → LH → Re D) (ma mb : M) : opM f ma mb e lh = (ma e lh).bind fun a l1 => (mb e l1).bind fun b l2 => f a b l2 := rfl
@[simp] theorem blT_ap (m : M) : blT m e lh = (m e lh).bind fun d l => match d with | .bl k => .ok k l | _ => .bad := rfl
@[simp] theorem truM_ap (m : M) : truM m e lh = (m e lh).bind fun d l => match truD l d with | some k => .ok k l | none => .bad := rfl
@[simp] theorem andT_ap (t u : MT) : andT t u e lh = (t e lh).bind fun k l => if k = true then u e l else .ok false l := rfl
@[simp] theorem orT_ap (t u : MT) : orT t u e lh = (t e lh).bind fun k l => if k = true then .ok true l else u e l := rfl
@[simp] theorem notT_ap (t : MT) : notT t e lh = (t e lh).bind fun k l => .ok (!k) l := rfl
@[simp] theorem andM_ap (ma mb : M) : andM ma mb e lh = (ma e lh).bind fun d l => match truD l d with | some k => if k = true then mb e l else .ok d l | none => .bad := rfl
@[simp] theorem orM_ap (ma mb : M) : orM ma mb e lh = (ma e lh).bind fun d l => match truD l d with | some k => if k = true then .ok d l else mb e l | none => .bad := rfl
@[simp] theorem notM_ap (ma : M) : notM ma e lh = (ma e lh).bind fun d l => match truD l d with | some k => .ok (.bl (!k)) l | none => .bad := rfl
@[simp] theorem ifM_ap (t : MT) (ma mb : M) : ifM t ma mb e lh = (t e lh).bind fun k l => if k = true then ma e l else mb e l := rfl
@[simp] theorem chM_ap (f g : D → D → LH → Re D) (ma mb mc : M) : chM f g ma mb mc e lh = (ma e lh).bind fun a l1 => (mb e l1).bind fun b l2 => (f a b l2).bind fun z l3 => match z with
  | .bl k => if k = true then (mc e l3).bind fun c l4 => g b c l4 else .ok (.bl false) l3
  | _ => .bad := rfl
@[simp] theorem nilA_ap : nilA e lh = .ok [] lh := rfl
@[simp] theorem consA_ap (ma : M) (mr : MA) : consA ma mr e lh = (ma e lh).bind fun d l => (mr e l).bind fun ds l2 => .ok (d :: ds) l2 := rfl
@[simp] theorem tupM_ap (ma : MA) : tupM ma e lh = (ma e lh).bind fun ds l => .ok (.tup ds) l := rfl
@[simp] theorem lstM_ap (ma : MA) : lstM ma e lh = (ma e lh).bind fun ds l => .ok (.loc l.length) (l ++ [.lst ds]) := rfl
@[simp] theorem callM_ap (g : List D → LH → Re D) (ma : MA) : callM g ma e lh = (ma e lh).bind fun ds l => g ds l := rfl
@[simp] theorem apM_ap (g : FM) (ma : MA) : apM g ma e lh = (ma e lh).bind fun ds l => g ds l := rfl
@[simp] theorem apM0_ap (g : FM) : apM0 g e lh = g [] lh := rfl
@[simp] theorem kwM_ap (m : FM) (ix : List Nat) (ma mk : MA) : kwM m ix ma mk e lh = (ma e lh).bind fun ds l => (mk e l).bind fun es l2 => m (pick ix (ds ++ es)) l2 := rfl
@[simp] theorem kwM0_ap (m : FM) (ix : List Nat) (mk : MA) : kwM0 m ix mk e lh = (mk e lh).bind fun es l2 => m (pick ix es) l2 := rfl
@[simp] theorem mtM_ap (T : String) (f : D → List D → LH → Re D) (mo : M) (ma : MA) : mtM T f mo ma e lh = (mo e lh).bind fun o l1 => if tyOk T o l1 = true then (ma e l1).bind fun ds l2 => f o ds l2 else .bad := rfl
@[simp] theorem noM_ap : noM e lh = .ok none lh := rfl
@[simp] theorem soM_ap (m : M) : soM m e lh = (m e lh).bind fun d l => match d with | .int i => .ok (some i) l | _ => .bad := rfl
@[simp] theorem slM_ap (ma : M) (ml mh : MO) : slM ma ml mh e lh = (ma e lh).bind fun d l => (ml e l).bind fun lo l2 => (mh e l2).bind fun hi l3 => slD d lo hi l3 := rfl
@[simp] theorem yesT_ap : yesT e lh = .ok true lh := rfl
@[simp] theorem seqS_ap (m1 m2 : SM) : seqS m1 m2 e lh = (m1 e lh).bd m2 := rfl
@[simp] theorem nxS_ap : nxS e lh = .nx e lh := rfl
@[simp] theorem bkS_ap : bkS e lh = .bk e lh := rfl
@[simp] theorem ctS_ap : ctS e lh = .ct e lh := rfl
@[simp] theorem rtN_ap : rtN e lh = .rt .non lh := rfl
@[simp] theorem exS_ap (m : M) : exS m e lh = toS e (fun _ l => .nx e l) (m e lh) := rfl
@[simp] theorem rtS_ap (m : M) : rtS m e lh = toS e (fun d l => .rt d l) (m e lh) := rfl
@[simp] theorem ifS_ap (t : MT) (m1 m2 : SM) : ifS t m1 m2 e lh = toSB e (fun k l => if k = true then m1 e l else m2 e l) (t e lh) := rfl
@[simp] theorem asS_ap (m : M) (g : TM) : asS m g e lh = toS e (fun d l => g d e l) (m e lh) := rfl
@[simp] theorem nmG_ap (i : Nat) (d : D) : nmG i d e lh = .nx (e.set i (some d)) lh := rfl
@[simp] theorem subG_ap (mo mi : M) (d : D) : subG mo mi d e lh = toS e (fun o l1 => toS e (fun i l2 => setR o i d e l2) (mi e l1)) (mo e lh) := rfl
@[simp] theorem nilG_ap : nilG [] e lh = .nx e lh := rfl
@[simp] theorem consG_ap (g : TM) (gs : TMs) (d : D) (r : List D) : consG g gs (d :: r) e lh = (g d e lh).bd (gs r) := rfl
theorem tupG_tup (n : Nat) (gs : TMs) (ds : List D) : tupG n gs (.tup ds) e lh = if ds.length = n then gs ds e lh else .bad := rfl
@[simp] theorem toSA_ok (f : List D → LH → RS) (d : List D) : toSA e f (.ok d lh) = f d lh := rfl
@[simp] theorem toSA_er (f : List D → LH → RS) (x : Ex) : toSA e f (.er x lh) = .er x e lh := rfl
@[simp] theorem toSA_bad (f : List D → LH → RS) : toSA e f .bad = .bad := rfl
@[simp] theorem parS_ap (i j : Nat) (ma : MA) : parS i j ma e lh = toSA e (fun ds l => match ds with | [a, b] => .nx ((e.set i (some a)).set j (some b)) l | _ => .bad) (ma e lh) := rfl
@[simp] theorem forS_ap (mi : MI) (g : TM) (body : SM) : forS mi g body e lh = toSI e (fun it l => forN it.nx g body it.fuel 0 e l) (mi e lh) := rfl
@[simp] theorem seqI_ap (m : M) : seqI m e lh = (m e lh).bind fun d l => match d with
  | .tup xs => .ok (itT xs) l
  | .str z => .ok (itS z) l
  | d => match sq l d with | some xs => .ok (itL d xs) l | none => .bad := rfl
@[simp] theorem fnM_ap (n : Nat) (m : SM) (ds : List D) : fnM n m ds lh = finM (m (stD n ds) lh) := rfl
@[simp] theorem stD_0 (n : Nat) : stD n [] = List.replicate n none := by unfold stD; simp
@[simp] theorem stD_s (n : Nat) (d : D) (ds : List D) : stD (n + 1) (d :: ds) = some d :: stD n ds := by unfold stD; simp
end
/-! ### data -/
section
variable (lh : LH)
@[simp] theorem addD_int (i j : Int) : addD (.int i) (.int j) lh = .ok (.int (i + j)) lh := rfl
@[simp] theorem subD_int (i j : Int) : subD (.int i) (.int j) lh = .ok (.int (i - j)) lh := rfl
@[simp] theorem ltD_int (i j : Int) : ltD (.int i) (.int j) lh = .ok (.bl (decide (i < j))) lh := rfl
@[simp] theorem leD_int (i j : Int) : leD (.int i) (.int j) lh = .ok (.bl (decide (i ≤ j))) lh := rfl
@[simp] theorem gtD_int (i j : Int) : gtD (.int i) (.int j) lh = .ok (.bl (decide (j < i))) lh := rfl
@[simp] theorem geD_int (i j : Int) : geD (.int i) (.int j) lh = .ok (.bl (decide (j ≤ i))) lh := rfl
theorem modD_int (i j : Int) (h : 0 < j) : modD (.int i) (.int j) lh = .ok (.int (i % j)) lh := by
  show (if 0 < j then _ else _) = _
  rw [if_pos h]
theorem fdivD_int (i j : Int) (h : 0 < j ∧ j < 1073741824) : fdivD (.int i) (.int j) lh = .ok (.int (i / j)) lh := by
  show (if CDiv i j then _ else _) = _
  rw [if_pos (show CDiv i j from h)]
theorem mulD_int (i j : Int) (h : CMul i j) : mulD (.int i) (.int j) lh = .ok (.int (i * j)) lh := by
  show (if CMul i j then _ else _) = _
  rw [if_pos h]
theorem powD_int (i j : Int) (h : CPow i j) : powD (.int i) (.int j) lh = .ok (.int (i ^ j.toNat)) lh := by
  show (if CPow i j then _ else _) = _
  rw [if_pos h]
@[simp] theorem intD_int (i : Int) : intD [.int i] lh = .ok (.int i) lh := rfl
@[simp] theorem intD_bl (k : Bool) : intD [.bl k] lh = .ok (.int (if k then 1 else 0)) lh := rfl
@[simp] theorem isD_non (d : D) (h : ∀ v, d ≠ .raw v) : isD d .non lh = .ok (.bl (isNon d)) lh := by
  cases d <;> first | rfl | exact absurd rfl (h _)
@[simp] theorem isntD_non (d : D) (h : ∀ v, d ≠ .raw v) : isntD d .non lh = .ok (.bl (!isNon d)) lh := by
  cases d <;> first | rfl | exact absurd rfl (h _)
@[simp] theorem isNon_non : isNon .non = true := rfl
@[simp] theorem isNon_bl (b) : isNon (.bl b) = false := rfl
@[simp] theorem isNon_int (b) : isNon (.int b) = false := rfl
@[simp] theorem isNon_str (b) : isNon (.str b) = false := rfl
@[simp] theorem isNon_tup (b) : isNon (.tup b) = false := rfl
@[simp] theorem isNon_loc (b) : isNon (.loc b) = false := rfl
@[simp] theorem isNon_fl (b) : isNon (.fl b) = false := rfl
@[simp] theorem truD_bl (b : Bool) : truD lh (.bl b) = some b := rfl
@[simp] theorem truD_non : truD lh .non = some false := rfl
@[simp] theorem truD_int (i : Int) : truD lh (.int i) = some (i != 0) := rfl
/-! ### data read off -/
@[simp] theorem rd_non (n : Nat) : rd lh n .non = some .none := by cases n <;> rfl
@[simp] theorem rd_bl (n : Nat) (b : Bool) : rd lh n (.bl b) = some (.bool b) := by cases n <;> rfl
@[simp] theorem rd_int (n : Nat) (b : Int) : rd lh n (.int b) = some (.int b) := by cases n <;> rfl
@[simp] theorem rd_str (n : Nat) (b : Str) : rd lh n (.str b) = some (.str b) := by cases n <;> rfl
theorem rd_tup (n : Nat) (ds : List D) : rd lh (n + 1) (.tup ds) = (ds.mapM (rd lh n)).map .tuple := rfl
theorem rd_fl (n : Nat) (ds : List D) : rd lh (n + 1) (.fl ds) = (ds.mapM (rd lh n)).map .list := rfl
theorem rd_loc (n k : Nat) (xs : List D) (h : lh[k]? = some (.lst xs)) : rd lh (n + 1) (.loc k) = (xs.mapM (rd lh n)).map .list := by
  show (match lh[k]? with | some (.lst xs) => (xs.mapM (rd lh n)).map PyData.list | _ => none) = _
  rw [h]
@[simp] theorem shaped_int (i : Int) : SeqAt.shaped (.int i) = true := by simp [SeqAt.shaped, PyData.canLay0, PyData.depth]
@[simp] theorem shaped_bl (i : Bool) : SeqAt.shaped (.bool i) = true := by simp [SeqAt.shaped, PyData.canLay0, PyData.depth]
@[simp] theorem shaped_non : SeqAt.shaped .none = true := by simp [SeqAt.shaped, PyData.canLay0, PyData.depth]
@[simp] theorem eqD_int (i j : Int) : eqD (.int i) (.int j) lh = .ok (.bl (i == j)) lh := by simp [eqD, eqR, PyData.eqv]
@[simp] theorem eqD_bl (i j : Bool) : eqD (.bl i) (.bl j) lh = .ok (.bl (i == j)) lh := by simp [eqD, eqR, PyData.eqv]
@[simp] theorem eqD_str (i j : Str) : eqD (.str i) (.str j) lh = .ok (.bl (decide (i = j))) lh := rfl
@[simp] theorem neD_int (i j : Int) : neD (.int i) (.int j) lh = .ok (.bl (!(i == j))) lh := by simp [neD, eqR, PyData.eqv]
@[simp] theorem neD_bl (i j : Bool) : neD (.bl i) (.bl j) lh = .ok (.bl (!(i == j))) lh := by simp [neD, eqR, PyData.eqv]
@[simp] theorem neD_str (i j : Str) : neD (.str i) (.str j) lh = .ok (.bl (!decide (i = j))) lh := rfl
/-! ### subscripts -/
theorem ixD_tup {ds : List D} {i : Int} {d : D} (h : atI ds i = some d) : ixD (.tup ds) (.int i) lh = .ok d lh := by
  show (match atI ds i with | some d => Re.ok d lh | none => .bad) = _
  rw [h]
theorem ixD_loc {n : Nat} {ds : List D} {i : Int} {d : D} (h0 : lh[n]? = some (.lst ds)) (h : atI ds i = some d) : ixD (.loc n) (.int i) lh = .ok d lh := by
  show (match sq lh (.loc n) with | some ds => (match atI ds i with | some d => Re.ok d lh | none => .bad) | none => .bad) = _
  rw [sq_loc, h0]
  dsimp only
  rw [h]
@[simp] theorem atI_0 {a : Type} (x : a) (r : List a) : atI (x :: r) (0 : Int) = some x := atI_nat (j := 0) rfl
@[simp] theorem atI_1 {a : Type} (x y : a) (r : List a) : atI (x :: y :: r) (1 : Int) = some y := atI_nat (j := 1) rfl
@[simp] theorem atI_2 {a : Type} (x y z : a) (r : List a) : atI (x :: y :: z :: r) (2 : Int) = some z := atI_nat (j := 2) rfl
@[simp] theorem atI_3 {a : Type} (x y z u : a) (r : List a) : atI (x :: y :: z :: u :: r) (3 : Int) = some u := atI_nat (j := 3) rfl
@[simp] theorem atI_4 {a : Type} (x y z u v : a) (r : List a) : atI (x :: y :: z :: u :: v :: r) (4 : Int) = some v := atI_nat (j := 4) rfl
theorem atI_pos {a : Type} (xs : List a) (i : Nat) (h : i < xs.length) : atI xs (i : Int) = some xs[i] := atI_nat (List.getElem?_eq_getElem h)
@[simp] theorem ixD_tup' (ds : List D) (i : Int) : ixD (D.tup ds) (D.int i) lh = match atI ds i with | some d => Re.ok d lh | none => .bad := rfl
@[simp] theorem ixD_loc' (n : Nat) (i : Int) : ixD (.loc n) (.int i) lh = match lh[n]? with | some (.lst ds) => (match atI ds i with | some d => .ok d lh | none => .bad) | _ => .bad := by
  show (match sq lh (.loc n) with | some ds => (match atI ds i with | some d => Re.ok d lh | none => .bad) | none => .bad) = _
  rw [sq_loc]
  cases lh[n]? with
  | none => rfl
  | some o => cases o <;> rfl
@[simp] theorem ixD_fl' (ds : List D) (i : Int) : ixD (D.fl ds) (D.int i) lh = match atI ds i with | some d => Re.ok d lh | none => .bad := rfl
@[simp] theorem lenD_loc (n : Nat) : lenD [.loc n] lh = match lh[n]? with | some (.lst ds) => .ok (.int ds.length) lh | _ => .bad := by
  show (match sq lh (.loc n) with | some xs => Re.ok (D.int xs.length) lh | none => .bad) = _
  rw [sq_loc]
  cases lh[n]? with
  | none => rfl
  | some o => cases o <;> rfl
@[simp] theorem lenD_tup (ds : List D) : lenD [.tup ds] lh = .ok (.int ds.length) lh := rfl
@[simp] theorem setR_loc (n : Nat) (k : Int) (d : D) (e : LE) : setR (.loc n) (.int k) d e lh = match lh[n]? with
    | some (.lst xs) => (match ixN xs.length k with | some j => .nx e (lh.set n (.lst (xs.set j d))) | none => .bad)
    | _ => .bad := by
  show (match lh[n]? with
    | some (Ob.lst xs) => (match ixN xs.length k with | some j => RS.nx e (lh.set n (.lst (xs.set j d))) | none => .bad)
    | _ => RS.bad) = _
  cases lh[n]? with
  | none => rfl
  | some o => cases o <;> rfl
@[simp] theorem ixN_0 (n : Nat) : ixN (n + 1) 0 = some 0 := by unfold ixN; rw [if_pos (by omega), if_pos (by omega)]; rfl
theorem ixN_lt (n : Nat) (i : Nat) (h : i < n) : ixN n i = some i := by unfold ixN; rw [if_pos (by omega), if_pos (by omega)]; simp
end
end NL
namespace NP
open PySem PySem.Spec L2 NL
/-! ### the bag of numbers -/
def bagO (c : Nat) (i : Nat) (r z k : Int) : Ob := .lst [.loc c, .int i, .int r, .int z, .int k]
structure Bag (lh : LH) (b : Nat) : Prop where
  ex : ∃ (c i : Nat) (r z k : Int) (cells : List Int), lh[b]? = some (bagO c i r z k) ∧ b = c + 1 ∧ lh[c]? = some (.lst (cells.map D.int)) ∧ 0 ≤ r ∧ 0 ≤ z ∧ z < 2147483629
theorem ixN5_4 : ixN 5 4 = some 4 := by decide
theorem ixN5_3 : ixN 5 3 = some 3 := by decide
theorem ixN5_2 : ixN 5 2 = some 2 := by decide
theorem ixN5_1 : ixN 5 1 = some 1 := by decide
theorem cpow18 : CPow 10 18 := by decide
theorem draw_mix (c cell z : Int) (hz : 0 ≤ z ∧ z < 2147483629) : CMul z 40013 ∧ CMul (cell % 2147483563) 6967 := by
  have h1 := Int.emod_nonneg cell (show (2147483563 : Int) ≠ 0 by decide)
  have h2 := Int.emod_lt_of_pos cell (show (0 : Int) < 2147483563 by decide)
  exact ⟨.inr (by decide), .inr (by decide)⟩

def drawEnd : SM :=
  (seqS (ifS (blT (opM gtD (opM ixD (varM 0) (conM (.int 2))) (conM (.int 0)))) (seqS (asS (opM modD (callM intD (consA (opM ixD (varM 0) (conM (.int 2))) (nilA))) (varM 1)) (nmG 3))
  (seqS (asS (opM fdivD (opM ixD (varM 0) (conM (.int 2))) (varM 1)) (subG (varM 0) (conM (.int 2))))
  (rtS (varM 3)))) (nxS))
  (seqS (asS (callM intD (consA (opM ixD (varM 0) (conM (.int 3))) (nilA))) (nmG 4))
  (seqS (asS (opM modD (callM intD (consA (opM addD (opM addD (opM addD (opM powD (varM 4) (conM (.int 3))) (opM mulD (varM 4) (conM (.int 30029)))) (opM mulD (opM ixD (varM 0) (conM (.int 4))) (conM (.int 1299827)))) (conM (.int 70001))) (nilA))) (conM (.int 2147483587))) (subG (varM 0) (conM (.int 3))))
  (rtS (opM modD (callM intD (consA (opM addD (opM fdivD (opM ixD (varM 0) (conM (.int 3))) (conM (.int 71))) (opM mulD (opM modD (callM intD (consA (opM ixD (varM 0) (conM (.int 3))) (nilA))) (conM (.int 7907))) (conM (.int 61)))) (nilA))) (varM 1))))))
def drawMid : SM :=
  (ifS (andT (blT (opM eqD (opM ixD (varM 0) (conM (.int 2))) (conM (.int 0)))) (blT (opM ltD (opM ixD (varM 0) (conM (.int 1))) (callM lenD (consA (opM ixD (varM 0) (conM (.int 0))) (nilA)))))) (seqS (asS (opM ixD (opM ixD (varM 0) (conM (.int 0))) (opM ixD (varM 0) (conM (.int 1)))) (nmG 2))
  (seqS (asS (opM addD (opM ixD (varM 0) (conM (.int 1))) (conM (.int 1))) (subG (varM 0) (conM (.int 1))))
  (ifS (blT (opM geD (varM 2) (opM powD (conM (.int 10)) (conM (.int 18))))) (asS (varM 2) (subG (varM 0) (conM (.int 2)))) (asS (opM modD (callM intD (consA (opM addD (opM addD (opM mulD (opM ixD (varM 0) (conM (.int 3))) (conM (.int 40013))) (opM mulD (opM modD (callM intD (consA (varM 2) (nilA))) (conM (.int 2147483563))) (conM (.int 6967)))) (conM (.int 53))) (nilA))) (conM (.int 2147483587))) (subG (varM 0) (conM (.int 3))))))) (nxS))
theorem ix_of {lh : LH} {b : Nat} {ds : List D} (h : lh[b]? = some (.lst ds)) (i : Int) : ixD (.loc b) (.int i) lh = match atI ds i with | some d => .ok d lh | none => .bad := by
  rw [ixD_loc', h]
theorem set_of {lh : LH} {b : Nat} {ds : List D} (h : lh[b]? = some (.lst ds)) (i : Int) (d : D) (e : LE) : setR (.loc b) (.int i) d e lh = match ixN ds.length i with | some j => .nx e (lh.set b (.lst (ds.set j d))) | none => .bad := by
  rw [setR_loc, h]
theorem mod_small (z m : Int) (h : 0 < m) (hm : m ≤ 2147483629) : 0 ≤ z % m ∧ z % m < 2147483629 :=
  ⟨Int.emod_nonneg _ (by omega), by have := Int.emod_lt_of_pos z h; omega⟩
theorem drawEnd_ok (lh : LH) (b c : Nat) (n : Int) (h0 : 0 < n) (h1 : n < 1073741824) (x : Option D) (i' : Nat) (r' z' k : Int) (hr : 0 ≤ r') (hz0 : 0 ≤ z') (hz1 : z' < 2147483629) (hb : lh[b]? = some (.lst [.loc c, .int i', .int r', .int z', .int k])) :
    ∃ q r'' z'' : Int, 0 ≤ q ∧ q < n ∧ 0 ≤ r'' ∧ 0 ≤ z'' ∧ z'' < 2147483629 ∧ drawEnd [some (.loc b), some (.int n), x, none, none] lh = .rt (.int q) (lh.set b (.lst [.loc c, .int i', .int r'', .int z'', .int k])) := by
  have hbl : b < lh.length := (List.getElem?_eq_some_iff.mp hb).1
  have hs : ∀ ob : Ob, (lh.set b ob)[b]? = some ob := fun ob => List.getElem?_set_self hbl
  by_cases hrp : 0 < r'
  · refine ⟨r' % n, r' / n, z', Int.emod_nonneg _ (by omega), Int.emod_lt_of_pos _ h0, Int.ediv_nonneg hr (by omega), hz0, hz1, ?_⟩
    simp [drawEnd, hb, hrp, modD_int _ _ _ h0, fdivD_int _ _ _ ⟨h0, h1⟩, ixN5_2]
  · have hr' : ¬ 0 < r' := hrp
    generalize hZ : (z' ^ 3 + z' * 30029 + k * 1299827 + 70001) % 2147483587 = Z
    have hz := mod_small (z' ^ 3 + z' * 30029 + k * 1299827 + 70001) 2147483587 (by omega) (by omega)
    rw [hZ] at hz
    refine ⟨(Z / 71 + Z % 7907 * 61) % n, r', Z, Int.emod_nonneg _ (by omega), Int.emod_lt_of_pos _ h0, hr, hz.1, hz.2, ?_⟩
    simp [hZ, drawEnd, hb, hs, hr', ixN5_3, powD_int _ _ _ (show CPow z' 3 from ⟨by omega, by omega, by omega⟩), mulD_int _ _ _ (show CMul z' 30029 from .inr (by omega)), mulD_int _ _ _ (show CMul k 1299827 from .inr (by omega)), mulD_int _ _ _ (show CMul _ 61 from .inr (by omega)), modD_int _ _ 2147483587 (by omega), modD_int _ _ 7907 (by omega), fdivD_int _ _ 71 ⟨by omega, by omega⟩, modD_int _ _ _ h0]

/-! ### how the heap may go on -/
structure Ge (p : Nat → Prop) (lh lh' : LH) : Prop where
  len : lh.length ≤ lh'.length
  same : ∀ n, n < lh.length → ¬ p n → lh'[n]? = lh[n]?
abbrev Gr : LH → LH → Prop := Ge fun _ => False
abbrev Fr (b : Nat) : LH → LH → Prop := Ge fun n => n = b
theorem Ge.refl {p} {lh : LH} : Ge p lh lh := ⟨Nat.le_refl _, fun _ _ _ => rfl⟩
theorem Ge.trans {p} {a b c : LH} (h : Ge p a b) (h' : Ge p b c) : Ge p a c := ⟨Nat.le_trans h.len h'.len, fun n hn hp => (h'.same n (Nat.lt_of_lt_of_le hn h.len) hp).trans (h.same n hn hp)⟩
theorem Ge.app {p} (lh t : LH) : Ge p lh (lh ++ t) := ⟨by simp, fun n hn _ => List.getElem?_append_left hn⟩
theorem Ge.weak {p} {a b : LH} (h : Gr a b) : Ge p a b := ⟨h.len, fun n hn _ => h.same n hn id⟩
theorem Fr.set (lh : LH) (b : Nat) (ob : Ob) : Fr b lh (lh.set b ob) := ⟨by simp, fun n _ hp => List.getElem?_set_ne fun h => hp h.symm⟩
theorem Ge.get {p} {a b : LH} (h : Ge p a b) {n : Nat} {o : Ob} (e : a[n]? = some o) (hp : ¬ p n) : b[n]? = some o :=
  (h.same n (List.getElem?_eq_some_iff.mp e).1 hp).trans e
theorem Bag.lt {lh : LH} {b : Nat} (h : Bag lh b) : b < lh.length := by
  obtain ⟨c, i, r, z, k, cells, hb, _⟩ := h.ex
  exact (List.getElem?_eq_some_iff.mp hb).1
theorem Bag.gr {lh lh' : LH} {b : Nat} (h : Bag lh b) (g : Gr lh lh') : Bag lh' b := by
  obtain ⟨c, i, r, z, k, cells, hb, hbc, hc, q⟩ := h.ex
  exact ⟨c, i, r, z, k, cells, g.get hb id, hbc, g.get hc id, q⟩
theorem Bag.set {lh : LH} {b n : Nat} {o : Ob} (h : Bag lh b) (h1 : n ≠ b) (h2 : n + 1 ≠ b) : Bag (lh.set n o) b := by
  obtain ⟨c, i, r, z, k, cells, hb, hbc, hc, q⟩ := h.ex
  exact ⟨c, i, r, z, k, cells, by rw [List.getElem?_set_ne h1, hb], hbc, by rw [List.getElem?_set_ne (by omega), hc], q⟩
theorem Bag.app {lh : LH} {b : Nat} (h : Bag lh b) (t : LH) : Bag (lh ++ t) b := h.gr (Ge.app lh t)
set_option maxHeartbeats 4000000
theorem l_draw_ok {lh : LH} {b : Nat} {n : Int} (hB : Bag lh b) (h0 : 0 < n) (h1 : n < 1073741824) :
    ∃ q lh', 0 ≤ q ∧ q < n ∧ l_draw [.loc b, .int n] lh = .ok (.int q) lh' ∧ Fr b lh lh' ∧ Bag lh' b := by
  obtain ⟨c, i, r, z, k, cells, hb, hbc, hc, hr, hz0, hz1⟩ := hB.ex
  have hbl : b < lh.length := (List.getElem?_eq_some_iff.mp hb).1
  unfold bagO at hb
  have hs : ∀ ob : Ob, (lh.set b ob)[b]? = some ob := fun ob => List.getElem?_set_self hbl
  have hcs : ∀ ob : Ob, (lh.set b ob)[c]? = some (.lst (cells.map D.int)) := fun ob => (List.getElem?_set_ne (by omega)).trans hc
  have fin : ∀ (x : Option D) (i' : Nat) (r' z' : Int), 0 ≤ r' → 0 ≤ z' → z' < 2147483629 → 
      ∃ q lh', 0 ≤ q ∧ q < n ∧ finM (drawEnd [some (.loc b), some (.int n), x, none, none] (lh.set b (.lst [.loc c, .int i', .int r', .int z', .int (k + 1)]))) = .ok (.int q) lh' ∧ Fr b lh lh' ∧ Bag lh' b := by
    intro x i' r' z' hr' hz0' hz1'
    obtain ⟨q, r2, z2, a1, a2, a3, a4, a5, a6⟩ := drawEnd_ok (lh.set b (.lst [.loc c, .int i', .int r', .int z', .int (k + 1)])) b c n h0 h1 x i' r' z' (k + 1) hr' hz0' hz1' (hs _)
    rw [List.set_set] at a6
    exact ⟨q, _, a1, a2, by rw [a6]; rfl, .set _ _ _, ⟨c, i', r2, z2, k + 1, cells, hs _, hbc, hcs _, a3, a4, a5⟩⟩
  have e0 : l_draw = fnM 5 (seqS (asS (opM addD (opM ixD (varM 0) (conM (.int 4))) (conM (.int 1))) (subG (varM 0) (conM (.int 4)))) (seqS drawMid drawEnd)) := rfl
  rw [e0]
  by_cases hc1 : r = 0 ∧ i < cells.length
  · obtain ⟨hr0, hi⟩ := hc1
    subst hr0
    have hat : atI (cells.map D.int) (i : Int) = some (D.int cells[i]) := atI_nat (by rw [List.getElem?_map, List.getElem?_eq_getElem hi]; rfl)
    by_cases hbig : (1000000000000000000 : Int) ≤ cells[i]
    · obtain ⟨q, l', a⟩ := fin (some (D.int cells[i])) (i + 1) cells[i] z (by omega) hz0 hz1
      refine ⟨q, l', a.1, a.2.1, ?_, a.2.2.2⟩
      rw [← a.2.2.1]
      simp [drawMid, hb, hs, hcs, hi, hat, hbig, ixN5_4, ixN5_1, ixN5_2, powD_int _ _ _ cpow18]
    · have hm := mod_small (z * 40013 + cells[i] % 2147483563 * 6967 + 53) 2147483587 (by omega) (by omega)
      obtain ⟨q, l', a⟩ := fin (some (D.int cells[i])) (i + 1) 0 ((z * 40013 + cells[i] % 2147483563 * 6967 + 53) % 2147483587) (by omega) hm.1 hm.2
      refine ⟨q, l', a.1, a.2.1, ?_, a.2.2.2⟩
      rw [← a.2.2.1]
      simp [drawMid, hb, hs, hcs, hi, hat, hbig, ixN5_4, ixN5_1, ixN5_2, ixN5_3, powD_int _ _ _ cpow18, mulD_int _ z 40013 (.inr (by omega)), mulD_int _ _ 6967 (.inr (by omega)), modD_int _ _ 2147483587 (by omega), modD_int _ _ 2147483563 (by omega)]
  · obtain ⟨q, l', a⟩ := fin none i r z hr hz0 hz1
    refine ⟨q, l', a.1, a.2.1, ?_, a.2.2.2⟩
    rw [← a.2.2.1]
    by_cases hr0 : r = 0
    · have hi : ¬ i < cells.length := fun h => hc1 ⟨hr0, h⟩
      simp [drawMid, hb, hs, hcs, hi, hr0, ixN5_4]
    · simp [drawMid, hb, hs, hcs, hr0, ixN5_4]
theorem l_of_ok {lh : LH} {b n : Nat} {ds : List D} (hB : Bag lh b) (hb : n ≠ b) (hn : lh[n]? = some (.lst ds)) (h0 : 0 < ds.length) (h1 : ds.length < 1000000) :
    ∃ d lh', d ∈ ds ∧ l_of [.loc b, .loc n] lh = .ok d lh' ∧ Fr b lh lh' ∧ Bag lh' b := by
  obtain ⟨q, l', a, c, e, f, g⟩ := l_draw_ok (n := (ds.length : Int)) hB (by omega) (by omega)
  obtain ⟨j, rfl⟩ := Int.eq_ofNat_of_zero_le a
  have hj : j < ds.length := by omega
  refine ⟨ds[j], l', List.getElem_mem hj, ?_, f, g⟩
  unfold l_of
  simp [hn, e, f.get hn hb, atI_pos ds j hj]
end NP
set_option maxRecDepth 100000
set_option maxHeartbeats 4000000
namespace NL
open PySem PySem.Spec L2
/-! ### loops -/
theorem forN_inv {nx : Nat → LH → Option (Option D)} {g : TM} {body : SM} (I : Nat → LE → LH → Prop) (n : Nat)
    (hstep : ∀ i e lh, i < n → I i e lh → ∃ d e' lh', nx i lh = some (some d) ∧ ((g d e lh).bd body = .nx e' lh' ∨ (g d e lh).bd body = .ct e' lh') ∧ I (i + 1) e' lh')
    (hend : ∀ e lh, I n e lh → nx n lh = some none) :
    ∀ f i e lh, i ≤ n → n < f + i → I i e lh → ∃ e' lh', forN nx g body f i e lh = .nx e' lh' ∧ I n e' lh'
  | 0, i, e, lh, h1, h2, h => by omega
  | f + 1, i, e, lh, h1, h2, h => by
    by_cases hi : i = n
    · subst hi
      refine ⟨e, lh, ?_, h⟩
      unfold forN
      rw [hend e lh h]
    · obtain ⟨d, e', lh', a, b, c⟩ := hstep i e lh (by omega) h
      obtain ⟨e2, l2, p, q⟩ := forN_inv I n hstep hend f (i + 1) e' lh' (by omega) (by omega) c
      refine ⟨e2, l2, ?_, q⟩
      unfold forN
      rw [a]
      show ((g d e lh).bd body).lp (forN nx g body f (i + 1)) = _
      rcases b with b | b <;> rw [b] <;> exact p
/-- a comprehension that keeps every item: what stands in its list at step i -/
theorem lcN_inv {nx : Nat → LH → Option (Option D)} {g : TM} {t : MT} {m : M} {n0 : Nat} {e : LE} (I : Nat → List D → LH → Prop) (n : Nat) (hn : n ≤ sizeLine)
    (hstep : ∀ i ys lh, i < n → I i ys lh → lh[n0]? = some (.lst ys) → ys.length = i → ∃ d e1 l1 l2 y l3, nx i lh = some (some d) ∧ g d e lh = .nx e1 l1 ∧ t e1 l1 = .ok true l2 ∧ m e1 l2 = .ok y l3 ∧ l3[n0]? = some (.lst ys) ∧ I (i + 1) (ys ++ [y]) (l3.set n0 (.lst (ys ++ [y]))))
    (hend : ∀ ys lh, I n ys lh → lh[n0]? = some (.lst ys) → nx n lh = some none) :
    ∀ f i ys lh, i ≤ n → n < f + i → ys.length = i → lh[n0]? = some (.lst ys) → I i ys lh → ∃ zs lh', lcN nx g t m n0 e f i lh = .ok (.loc n0) lh' ∧ zs.length = n ∧ lh'[n0]? = some (.lst zs) ∧ I n zs lh'
  | 0, i, ys, lh, h1, h2, h3, h4, h => by omega
  | f + 1, i, ys, lh, h1, h2, h3, h4, h => by
    by_cases hi : i = n
    · subst hi
      refine ⟨ys, lh, ?_, h3, h4, h⟩
      unfold lcN
      rw [hend ys lh h h4]
    · obtain ⟨d, e1, l1, l2, y, l3, a1, a2, a3, a4, a5, a6⟩ := hstep i ys lh (by omega) h h4 h3
      have hl : n0 < l3.length := (List.getElem?_eq_some_iff.mp a5).1
      obtain ⟨zs, l', p1, p2, p3, p4⟩ := lcN_inv I n hn hstep hend f (i + 1) (ys ++ [y]) (l3.set n0 (.lst (ys ++ [y]))) (by omega) (by omega) (by simp [h3]) (List.getElem?_set_self hl) a6
      refine ⟨zs, l', ?_, p2, p3, p4⟩
      unfold lcN
      rw [a1]
      simp only [a2, a3, a4, a5]
      rw [if_pos (by omega)]
      exact p1
end NL
set_option maxRecDepth 100000
set_option maxHeartbeats 4000000
namespace NL
open PySem PySem.Spec L2
inductive Sm (lh : LH) : Nat → D → D → Prop
  | non (n : Nat) : Sm lh n .non .non
  | bl (n : Nat) (b : Bool) : Sm lh n (.bl b) (.bl b)
  | int (n : Nat) (i : Int) : Sm lh n (.int i) (.int i)
  | str (n : Nat) (s : Str) : Sm lh n (.str s) (.str s)
  | tup (n : Nat) (ds es : List D) : ds.length = es.length → ds.length ≤ sizeLine → (∀ (i : Nat) (d e : D), ds[i]? = some d → es[i]? = some e → Sm lh n d e) → Sm lh (n + 1) (.tup ds) (.tup es)
  | lst (n : Nat) (x y : D) (ds es : List D) : sq lh x = some ds → sq lh y = some es → ds.length = es.length → ds.length ≤ sizeLine → (∀ (i : Nat) (d e : D), ds[i]? = some d → es[i]? = some e → Sm lh n d e) → Sm lh (n + 1) x y
@[simp] theorem isiD_1 (d : D) (n : String) (lh : LH) : isiD [d, .raw (.ty n)] lh = match tyOf lh d with | some t => if n ∈ tyNames then .ok (.bl (isT t n)) lh else .bad | none => .bad := rfl
@[simp] theorem isiD_s (d : D) (cs : List D) (lh : LH) : isiD [d, .tup cs] lh = match tyOf lh d, clsN cs with | some t, some ns => .ok (.bl (ns.any fun n => isT t n)) lh | _, _ => .bad := rfl
@[simp] theorem tyOf_non (lh : LH) : tyOf lh .non = some "NoneType" := rfl
@[simp] theorem tyOf_bl (lh : LH) (b) : tyOf lh (.bl b) = some "bool" := rfl
@[simp] theorem tyOf_int (lh : LH) (b) : tyOf lh (.int b) = some "int" := rfl
@[simp] theorem tyOf_str (lh : LH) (b) : tyOf lh (.str b) = some "str" := rfl
@[simp] theorem tyOf_tup (lh : LH) (b) : tyOf lh (.tup b) = some "tuple" := rfl
theorem tyOf_sq {lh : LH} {d : D} {xs : List D} (h : sq lh d = some xs) : tyOf lh d = some "list" := by
  cases d with
  | loc n =>
    have h' : (match lh[n]? with | some (.lst xs) => some xs | _ => none) = some xs := h
    show (match lh[n]? with | some (.lst _) => some "list" | _ => none) = _
    cases q : lh[n]? with
    | none => rw [q] at h'; cases h'
    | some o => cases o <;> first | rfl | (rw [q] at h'; cases h')
  | fl xs => rfl
  | _ => cases h
@[simp] theorem clsN_nil : clsN [] = some [] := rfl
@[simp] theorem clsN_lt : clsN [.raw (.ty "list"), .raw (.ty "tuple")] = some ["list", "tuple"] := by decide
theorem sq_nonT {lh : LH} {d : D} {xs : List D} (h : sq lh d = some xs) : (∀ v, d ≠ .raw v) ∧ isNon d = false ∧ (∀ ys, d ≠ .tup ys) := by
  cases d with
  | loc n => exact ⟨fun _ h => (nomatch h), rfl, fun _ h => (nomatch h)⟩
  | fl ys => exact ⟨fun _ h => (nomatch h), rfl, fun _ h => (nomatch h)⟩
  | _ => cases h
theorem lenD_sq {lh : LH} {d : D} {xs : List D} (h : sq lh d = some xs) : lenD [d] lh = .ok (.int xs.length) lh := by
  cases d with
  | loc n =>
    show (match sq lh (.loc n) with | some xs => Re.ok (D.int xs.length) lh | none => .bad) = _
    rw [h]
  | fl ys => cases h; rfl
  | _ => cases h
theorem zipI_tup (ma : MA) (e : LE) (lh l : LH) (xs ys : List D) (h : ma e lh = .ok [.tup xs, .tup ys] l) : zipI ma e lh = .ok (itZT xs ys) l := by
  unfold zipI; rw [h]; rfl
theorem zipI_sq (ma : MA) (e : LE) (lh l : LH) (x y : D) (xs ys : List D) (h : ma e lh = .ok [x, y] l) (hx : sq l x = some xs) (hy : sq l y = some ys) : zipI ma e lh = .ok (itZ x y xs) l := by
  unfold zipI; rw [h]
  show (match [x, y] with
  | [.tup xs, .tup ys] => Re.ok (itZT xs ys) l
  | [d, d'] => match sq l d, sq l d' with | some xs, some _ => .ok (itZ d d' xs) l | _, _ => .bad
  | _ => .bad) = _
  have h1 := (sq_nonT hx).2.2
  split
  · rename_i h; cases h; exact absurd rfl (h1 _)
  · rename_i h; cases h
    rw [hx, hy]
  · rename_i h3; exact absurd rfl (h3 _ _)
theorem bls_rep (n : Nat) : bls (List.replicate n (.bl true)) = some (List.replicate n true) := by
  induction n with
  | zero => rfl
  | succ n ih =>
    show (bls (List.replicate n (.bl true))).map (true :: ·) = _
    rw [ih]; rfl
end NL
namespace NP
open PySem PySem.Spec L2 NL
theorem sq_ge {p : Nat → Prop} {lh l1 : LH} {d : D} {xs : List D} (h : sq lh d = some xs) (g : Ge p lh l1) (hp : ∀ n, d = .loc n → ¬ p n) : sq l1 d = some xs := by
  cases d with
  | loc n =>
    have h' : (match lh[n]? with | some (.lst xs) => some xs | _ => none) = some xs := h
    show (match l1[n]? with | some (.lst xs) => some xs | _ => none) = some xs
    cases q : lh[n]? with
    | none => rw [q] at h'; cases h'
    | some o => rw [g.get q (hp n rfl), ← q]; exact h'
  | fl ys => exact h
  | _ => cases h
theorem sq_gr {lh l1 : LH} {d : D} {xs : List D} (h : sq lh d = some xs) (g : Gr lh l1) : sq l1 d = some xs := sq_ge h g fun _ _ => id
/-- all(...) over the pairs of two rows that are the same -/
theorem pairs_ok {rec : FM} {lh l1 : LH} {e : LE} {it : ItD} (xs ys : List D) (hl : xs.length = ys.length) (hz : xs.length ≤ sizeLine) (he : ∃ a b c d, e = [a, b, c, d]) (g : Gr lh l1)
    (hit : it.fuel = xs.length + 1) (hnx : ∀ i l, Gr lh l → it.nx i l = some (pr2 xs[i]? ys[i]?))
    (hrec : ∀ (i : Nat) (d e : D), xs[i]? = some d → ys[i]? = some e → ∀ l1, Gr lh l1 → ∃ l2, rec [d, e] l1 = .ok (.bl true) l2 ∧ Gr l1 l2) :
    ∃ l2, (lcN it.nx (tupG 2 (consG (nmG 2) (consG (nmG 3) (nilG)))) (yesT) (apM rec (consA (varM 2) (consA (varM 3) (nilA)))) l1.length (wipeD e [2, 3]) it.fuel 0 (l1 ++ [.lst []])) = .ok (.loc l1.length) l2 ∧ allD [.loc l1.length] l2 = .ok (.bl true) l2 ∧ Gr l1 l2 := by
  obtain ⟨a, b, c, d, rfl⟩ := he
  obtain ⟨zs, l2, p1, p2, p3, p4⟩ := lcN_inv (nx := it.nx) (g := tupG 2 (consG (nmG 2) (consG (nmG 3) (nilG)))) (t := yesT) (m := apM rec (consA (varM 2) (consA (varM 3) (nilA)))) (n0 := l1.length) (e := wipeD [a, b, c, d] [2, 3])
    (fun i zs l => zs = List.replicate i (.bl true) ∧ Gr l1 l) xs.length hz
    (fun i zs l hi I h0 hlz => by
      obtain ⟨I1, I2⟩ := I
      obtain ⟨l3, q1, q2⟩ := hrec i _ _ (List.getElem?_eq_getElem hi) (List.getElem?_eq_getElem (hl ▸ hi)) l (g.trans I2)
      have hlen : l1.length < l.length := (List.getElem?_eq_some_iff.mp h0).1
      refine ⟨.tup [xs[i], ys[i]'(hl ▸ hi)], [a, b, some xs[i], some (ys[i]'(hl ▸ hi))], l, l, .bl true, l3, ?_, ?_, rfl, ?_, ?_, ?_, ?_⟩
      · rw [hnx i l (g.trans I2), List.getElem?_eq_getElem hi, List.getElem?_eq_getElem (hl ▸ hi)]; rfl
      · rfl
      · show (rec [xs[i], ys[i]'(hl ▸ hi)] l) = _
        exact q1
      · exact q2.get h0 id
      · rw [I1, ← List.replicate_succ']
      · refine ⟨?_, fun n hn hp => ?_⟩
        · have := q2.len; simp; omega
        · rw [List.getElem?_set_ne (by omega)]
          exact (I2.trans q2).same n hn hp)
    (fun zs l I h0 => by rw [hnx _ l (g.trans I.2), List.getElem?_eq_none (Nat.le_refl _)]; rfl)
    it.fuel 0 [] (l1 ++ [.lst []]) (by omega) (by omega) rfl (by simp) ⟨rfl, .app _ _⟩
  refine ⟨l2, p1, ?_, p4.2⟩
  show (match sq l2 (.loc l1.length) with | some xs => (match bls xs with | some bs => Re.ok (D.bl (bs.all id)) l2 | none => .bad) | none => .bad) = _
  rw [sq_loc, p3]
  dsimp only
  rw [p4.1, bls_rep]
  simp
theorem same_ok {lh : LH} {n : Nat} {x y : D} (h : Sm lh n x y) : ∀ f, n < f → ∀ l1, Gr lh l1 → ∃ l2, l_same f [x, y] l1 = .ok (.bl true) l2 ∧ Gr l1 l2 := by
  induction h with
  | non n =>
    intro f hf l1 g
    obtain ⟨f, rfl⟩ : ∃ k, f = k + 1 := ⟨f - 1, by omega⟩
    exact ⟨l1, by simp [l_same, b_l_same], .refl⟩
  | bl n b =>
    intro f hf l1 g
    obtain ⟨f, rfl⟩ : ∃ k, f = k + 1 := ⟨f - 1, by omega⟩
    exact ⟨l1, by simp [l_same, b_l_same, isT, tyNames], .refl⟩
  | int n b =>
    intro f hf l1 g
    obtain ⟨f, rfl⟩ : ∃ k, f = k + 1 := ⟨f - 1, by omega⟩
    exact ⟨l1, by simp [l_same, b_l_same, isT, tyNames], .refl⟩
  | str n b =>
    intro f hf l1 g
    obtain ⟨f, rfl⟩ : ∃ k, f = k + 1 := ⟨f - 1, by omega⟩
    exact ⟨l1, by simp [l_same, b_l_same, isT, tyNames], .refl⟩
  | tup n xs ys hl hz _ ih =>
    intro f hf l1 g
    obtain ⟨f, rfl⟩ : ∃ k, f = k + 1 := ⟨f - 1, by omega⟩
    obtain ⟨l2, p1, p0, p2⟩ := pairs_ok (rec := l_same f) (it := itZT xs ys) (e := [some (.tup xs), some (.tup ys), none, none]) xs ys hl hz ⟨_, _, _, _, rfl⟩ g rfl (fun i l _ => rfl) (fun i d e a b l c => ih i d e a b f (by omega) l c)
    refine ⟨l2, ?_, p2⟩
    have hzi := zipI_tup (consA (varM 0) (consA (varM 1) (nilA))) [some (.tup xs), some (.tup ys), none, none] l1 l1 xs ys (by simp)
    simp [l_same, b_l_same, isT, tyNames, hl, lcM, hzi, p1, p0]
  | lst n x y xs ys hx hy hl hz _ ih =>
    intro f hf l1 g
    obtain ⟨f, rfl⟩ : ∃ k, f = k + 1 := ⟨f - 1, by omega⟩
    have hx1 := sq_gr hx g
    have hy1 := sq_gr hy g
    obtain ⟨l2, p1, p0, p2⟩ := pairs_ok (rec := l_same f) (it := itZ x y xs) (e := [some x, some y, none, none]) xs ys hl hz ⟨_, _, _, _, rfl⟩ g rfl (fun i l c => by
      show (match sq l x, sq l y with | some ys, some zs => some (pr2 ys[i]? zs[i]?) | _, _ => none) = _
      rw [sq_gr hx c, sq_gr hy c]) (fun i d e a b l c => ih i d e a b f (by omega) l c)
    refine ⟨l2, ?_, p2⟩
    have hzi := zipI_sq (consA (varM 0) (consA (varM 1) (nilA))) [some x, some y, none, none] l1 l1 x y xs ys (by simp) hx1 hy1
    have nx := sq_nonT hx
    have ny := sq_nonT hy
    simp [l_same, b_l_same, isT, tyNames, hl, lcM, hzi, tyOf_sq hx1, tyOf_sq hy1, lenD_sq hx1, lenD_sq hy1, isD_non _ _ nx.1, isD_non _ _ ny.1, nx.2.1, ny.2.1, p1, p0]
end NP
set_option maxRecDepth 100000
set_option maxHeartbeats 4000000
namespace NP
open PySem PySem.Spec L2 NL
theorem sIx_cut (ns : List D) (h : ns.length ≤ 63) : cutL ns none (some 63) = ns := cutL_all (by simp [HT.sIx]; omega)
theorem l_bag_ok (ns : List Int) (h : ns.length ≤ 63) (lh : LH) : ∃ b lh', l_bag [.fl (ns.map D.int)] lh = .ok (.loc b) lh' ∧ Gr lh lh' ∧ Bag lh' b ∧ lh.length ≤ b := by
  have hcut : cutL (ns.map D.int) none (some 63) = ns.map D.int := sIx_cut _ (by simpa using h)
  obtain ⟨e', l', p, q⟩ := forN_inv (nx := (itL (.loc lh.length) (ns.map D.int)).nx) (g := nmG 2) (body := asS (opM modD (callM intD (consA (opM addD (opM addD (opM mulD (varM 1) (conM (.int 47353))) (opM modD (callM intD (consA (varM 2) (nilA))) (conM (.int 2147483579)))) (conM (.int 17))) (nilA))) (conM (.int 2147483629))) (nmG 1))
    (fun i e l => l = lh ++ [.lst (ns.map D.int)] ∧ ∃ z x, e = [some (.fl (ns.map D.int)), some (.int z), x] ∧ 0 ≤ z ∧ z < 2147483629) ns.length
    (fun i e l hi I => by
      obtain ⟨rfl, z, x, rfl, hz0, hz1⟩ := I
      have hm := mod_small (z * 47353 + ns[i] % 2147483579 + 17) 2147483629 (by omega) (by omega)
      refine ⟨.int ns[i], [some (.fl (ns.map D.int)), some (.int ((z * 47353 + ns[i] % 2147483579 + 17) % 2147483629)), some (.int ns[i])], lh ++ [.lst (ns.map D.int)], ?_, .inl ?_, rfl, _, _, rfl, hm.1, hm.2⟩
      · simp [itL, hi]
      · simp [mulD_int _ z 47353 (.inr (by omega)), modD_int _ _ 2147483579 (by omega), modD_int _ _ 2147483629 (by omega)])
    (fun e l I => by
      obtain ⟨rfl, _⟩ := I
      simp [itL])
    (ns.length + 1) 0 [some (.fl (ns.map D.int)), some (.int 10018), none] (lh ++ [.lst (ns.map D.int)]) (by omega) (by omega) ⟨rfl, _, _, rfl, by omega, by omega⟩
  obtain ⟨rfl, z, x, rfl, hz0, hz1⟩ := q
  refine ⟨lh.length + 3, lh ++ [.lst (ns.map D.int), .lst (ns.map D.int), .lst (ns.map D.int), bagO (lh.length + 2) 0 0 z 0], ?_, .app _ _, ⟨lh.length + 2, 0, 0, z, 0, ns, by simp, by omega, by simp, by omega, hz0, hz1⟩, by omega⟩
  have hfu : (itL (.loc lh.length) (ns.map D.int)).fuel = ns.length + 1 := by simp [itL]
  have hsl : ∀ l : LH, slD (.fl (ns.map D.int)) none (some 63) l = .ok (.loc l.length) (l ++ [.lst (ns.map D.int)]) := fun l => by
    show Re.ok (D.loc l.length) (l ++ [Ob.lst (cutL (ns.map D.int) none (some 63))]) = _
    rw [hcut]
  have hli : ∀ (l : LH) k, l[k]? = some (.lst (ns.map D.int)) → listD [.loc k] l = .ok (.loc l.length) (l ++ [.lst (ns.map D.int)]) := fun l k h => by
    show (match sq l (.loc k) with | some xs => Re.ok (D.loc l.length) (l ++ [Ob.lst xs]) | none => .bad) = _
    rw [sq_loc, h]
  unfold l_bag
  simp [hsl, hfu]
  rw [p]
  simp [hsl, hli, bagO]
/-! ### the same, row by row -/
def SmL (lh : LH) (n : Nat) : List D → List D → Prop
  | [], [] => True
  | d :: ds, e :: es => Sm lh n d e ∧ SmL lh n ds es
  | _, _ => False
@[simp] theorem SmL_nil (lh n) : SmL lh n [] [] = True := rfl
@[simp] theorem SmL_cons (lh n) (d e : D) (ds es : List D) : SmL lh n (d :: ds) (e :: es) = (Sm lh n d e ∧ SmL lh n ds es) := rfl
theorem SmL.to {lh : LH} {n : Nat} : ∀ {ds es : List D}, SmL lh n ds es → ds.length = es.length ∧ ∀ (i : Nat) (d e : D), ds[i]? = some d → es[i]? = some e → Sm lh n d e
  | [], [], _ => ⟨rfl, fun i d e h => by simp at h⟩
  | d :: ds, e :: es, h => by
    have ih := h.2.to
    refine ⟨by simp [ih.1], fun i x y hx hy => ?_⟩
    cases i with
    | zero => simp at hx hy; subst hx hy; exact h.1
    | succ i => simp at hx hy; exact ih.2 i x y hx hy
  | [], _ :: _, h => h.elim
  | _ :: _, [], h => h.elim
theorem Sm.tupL {lh : LH} {n : Nat} {ds es : List D} (hz : ds.length ≤ 1000) (h : SmL lh n ds es) : Sm lh (n + 1) (.tup ds) (.tup es) :=
  .tup n ds es h.to.1 (by unfold sizeLine; omega) h.to.2
theorem Sm.lstL {lh : LH} {n : Nat} {x y : D} {ds es : List D} (hx : sq lh x = some ds) (hy : sq lh y = some es) (hz : ds.length ≤ 1000) (h : SmL lh n ds es) : Sm lh (n + 1) x y :=
  .lst n x y ds es hx hy h.to.1 (by unfold sizeLine; omega) h.to.2
mutual
/-- plain data, no deeper than n -/
def pd : Nat → D → Bool
  | _, .non | _, .bl _ | _, .int _ | _, .str _ => true
  | n + 1, .tup ds => decide (ds.length ≤ 1000) && pdL n ds
  | _, _ => false
def pdL : Nat → List D → Bool
  | _, [] => true
  | n, d :: ds => pd n d && pdL n ds
end
mutual
theorem Sm.pd {lh : LH} : ∀ {n : Nat} {d : D}, pd n d = true → Sm lh n d d
  | n, .non, _ => .non n
  | n, .bl b, _ => .bl n b
  | n, .int b, _ => .int n b
  | n, .str b, _ => .str n b
  | n + 1, .tup ds, h => by
    have h' : (decide (ds.length ≤ 1000) && pdL n ds) = true := by simpa [NP.pd] using h
    rw [Bool.and_eq_true] at h'
    exact Sm.tupL (of_decide_eq_true h'.1) (SmL.pd h'.2)
  | 0, .tup ds, h => by simp [NP.pd] at h
  | 0, .loc k, h => by simp [NP.pd] at h
  | n + 1, .loc k, h => by simp [NP.pd] at h
  | 0, .raw k, h => by simp [NP.pd] at h
  | n + 1, .raw k, h => by simp [NP.pd] at h
  | 0, .fl k, h => by simp [NP.pd] at h
  | n + 1, .fl k, h => by simp [NP.pd] at h
theorem SmL.pd {lh : LH} : ∀ {n : Nat} {ds : List D}, pdL n ds = true → SmL lh n ds ds
  | n, [], _ => trivial
  | n, d :: ds, h => by
    have h' : (NP.pd n d && pdL n ds) = true := by simpa [NP.pdL] using h
    rw [Bool.and_eq_true] at h'
    exact ⟨Sm.pd h'.1, SmL.pd h'.2⟩
end
/-! ### membership in rows of strings -/
def strsB (xs : List D) : Bool := xs.all fun d => match d with | .str s => PyData.strOk s | _ => false
def isS (s : Str) (d : D) : Bool := match d with | .str t => t == s | _ => false
theorem strsB_rd {lh : LH} {n : Nat} : ∀ {xs : List D}, strsB xs = true → ∃ ps : List PyData, xs.mapM (rd lh n) = some ps ∧ PyData.canLayAll0 ps = true ∧ PyData.depthAll ps ≤ 1 ∧ ∀ s, (ps.any fun z => PyData.eqv z (.str s)) = xs.any (isS s)
  | [], _ => ⟨[], rfl, rfl, by simp [PyData.depthAll], fun s => rfl⟩
  | .str t :: xs, h => by
    have h' : PyData.strOk t = true ∧ strsB xs = true := by simpa [strsB] using h
    obtain ⟨ps, a, b, c, d⟩ := strsB_rd (lh := lh) (n := n) h'.2
    refine ⟨.str t :: ps, by simp [a], by simp [PyData.canLayAll0, PyData.canLay0, h'.1, b], by simp [PyData.depthAll, PyData.depth]; omega, fun s => ?_⟩
    simp [d, isS, PyData.eqv]
  | .non :: xs, h => by simp [strsB] at h
  | .bl _ :: xs, h => by simp [strsB] at h
  | .int _ :: xs, h => by simp [strsB] at h
  | .tup _ :: xs, h => by simp [strsB] at h
  | .loc _ :: xs, h => by simp [strsB] at h
  | .raw _ :: xs, h => by simp [strsB] at h
  | .fl _ :: xs, h => by simp [strsB] at h
theorem inR_fl {lh : LH} {s : Str} {xs : List D} (h : (strsB xs && PyData.strOk s) = true) : inR lh (.str s) (.fl xs) = some (xs.any (isS s)) ∧ inR lh (.str s) (.tup xs) = some (xs.any (isS s)) := by
  rw [Bool.and_eq_true] at h
  obtain ⟨ps, a, b, c, d⟩ := strsB_rd (lh := lh) (n := 15) h.1
  have e1 : rd lh 16 (.fl xs) = some (.list ps) := by rw [rd_fl, a]; rfl
  have e2 : rd lh 16 (.tup xs) = some (.tuple ps) := by rw [rd_tup, a]; rfl
  have s1 : SeqAt.shaped (.str s) = true := by simp [SeqAt.shaped, PyData.canLay0, PyData.depth, h.2]
  have s2 : SeqAt.shaped (.list ps) = true := by simp [SeqAt.shaped, PyData.canLay0, PyData.depth, b]; omega
  have s3 : SeqAt.shaped (.tuple ps) = true := by simp [SeqAt.shaped, PyData.canLay0, PyData.depth, b]; omega
  constructor
  · show (match rd lh 16 (.str s), rd lh 16 (.fl xs) with
    | some p, some (.list qs) => if SeqAt.shaped p = true ∧ SeqAt.shaped (.list qs) = true then some (qs.any fun z => PyData.eqv z p) else none
    | some p, some (.tuple qs) => if SeqAt.shaped p = true ∧ SeqAt.shaped (.tuple qs) = true then some (qs.any fun z => PyData.eqv z p) else none
    | _, _ => none) = _
    rw [e1, rd_str]
    dsimp only
    rw [if_pos ⟨s1, s2⟩, d]
  · show (match rd lh 16 (.str s), rd lh 16 (.tup xs) with
    | some p, some (.list qs) => if SeqAt.shaped p = true ∧ SeqAt.shaped (.list qs) = true then some (qs.any fun z => PyData.eqv z p) else none
    | some p, some (.tuple qs) => if SeqAt.shaped p = true ∧ SeqAt.shaped (.tuple qs) = true then some (qs.any fun z => PyData.eqv z p) else none
    | _, _ => none) = _
    rw [e2, rd_str]
    dsimp only
    rw [if_pos ⟨s1, s3⟩, d]
theorem inR_loc (lh : LH) (s : Str) (k : Nat) : inR lh (.str s) (.loc k) = match lh[k]? with | some (.lst xs) => inR lh (.str s) (.fl xs) | _ => none := by
  show (match rd lh 16 (.str s), rd lh 16 (.loc k) with
    | some p, some (.list qs) => if SeqAt.shaped p = true ∧ SeqAt.shaped (.list qs) = true then some (qs.any fun z => PyData.eqv z p) else none
    | some p, some (.tuple qs) => if SeqAt.shaped p = true ∧ SeqAt.shaped (.tuple qs) = true then some (qs.any fun z => PyData.eqv z p) else none
    | _, _ => none) = _
  cases h : lh[k]? with
  | none =>
    have : rd lh 16 (.loc k) = none := by show (match lh[k]? with | some (.lst xs) => (xs.mapM (rd lh 15)).map PyData.list | _ => none) = _; rw [h]
    rw [this, rd_str]
  | some o =>
    cases o with
    | lst xs => rw [rd_loc lh 15 k xs h]; rfl
    | ins C fs =>
      have : rd lh 16 (.loc k) = none := by show (match lh[k]? with | some (.lst xs) => (xs.mapM (rd lh 15)).map PyData.list | _ => none) = _; rw [h]
      rw [this, rd_str]
theorem inD_loc (lh : LH) (s : Str) (k : Nat) : inD (.str s) (.loc k) lh = match lh[k]? with | some (.lst xs) => (if (strsB xs && PyData.strOk s) = true then .ok (.bl (xs.any (isS s))) lh else inD (.str s) (.fl xs) lh) | _ => .bad := by
  unfold inD
  rw [inR_loc]
  cases h : lh[k]? with
  | none => rfl
  | some o =>
    cases o with
    | lst xs =>
      dsimp only
      by_cases hh : (strsB xs && PyData.strOk s) = true
      · rw [if_pos hh, (inR_fl hh).1]
      · rw [if_neg hh]
    | ins C fs => rfl
theorem inD_tup {lh : LH} {s : Str} {xs : List D} (h : (strsB xs && PyData.strOk s) = true) : inD (.str s) (.tup xs) lh = .ok (.bl (xs.any (isS s))) lh := by
  unfold inD
  rw [(inR_fl h).2]
end NP
set_option maxRecDepth 100000
set_option maxHeartbeats 4000000
namespace NP
open PySem PySem.Spec L2 NL
abbrev so (s : String) : D := .str (PySem.Str.ofString s)
def timedL : List D := [so "quiet", so "first", so "late", so "hold", so "both", so "again"]
def abcL : List D := [so "a", so "b", so "c"]
def oftL : List D := [so "a", so "b", so "c", so "ab", so "ac", so "bc", so "abc"]
theorem l_timed_ok (lh : LH) : l_timed [] lh = .ok (.loc lh.length) (lh ++ [.lst timedL]) := rfl
theorem abc_str {s : D} (h : s ∈ abcL) : ∃ x, s = .str x ∧ PyData.strOk x = true := by
  simp [abcL] at h
  rcases h with rfl | rfl | rfl <;> exact ⟨_, rfl, by decide +kernel⟩
theorem oft_str {s : D} (h : s ∈ oftL) : ∃ x, s = .str x ∧ PyData.strOk x = true := by
  simp [oftL] at h
  rcases h with rfl | rfl | rfl | rfl | rfl | rfl | rfl <;> exact ⟨_, rfl, by decide +kernel⟩
/-! ### while -/
theorem whN_inv {t : MT} {body : SM} (I : Nat → LE → LH → Prop)
    (hstop : ∀ e lh, I 0 e lh → ∃ lh', t e lh = .ok false lh' ∧ I 0 e lh')
    (hgo : ∀ n e lh, I (n + 1) e lh → ∃ l1 e' lh', t e lh = .ok true l1 ∧ (body e l1 = .nx e' lh' ∨ body e l1 = .ct e' lh') ∧ I n e' lh') :
    ∀ n f e lh, n < f → I n e lh → ∃ e' lh', whN t body f e lh = .nx e' lh' ∧ I 0 e' lh'
  | n, 0, e, lh, h, _ => by omega
  | 0, f + 1, e, lh, _, h => by
    obtain ⟨l1, a, b⟩ := hstop e lh h
    exact ⟨e, l1, by unfold whN; rw [a]; rfl, b⟩
  | n + 1, f + 1, e, lh, hf, h => by
    obtain ⟨l1, e1, l2, a, b, c⟩ := hgo n e lh h
    obtain ⟨e2, l3, p, q⟩ := whN_inv I hstop hgo n f e1 l2 (by omega) c
    refine ⟨e2, l3, ?_, q⟩
    unfold whN
    rw [a]
    show (body e l1).lp (whN t body f) = _
    rcases b with b | b <;> rw [b] <;> exact p
/-! ### a row of strings against an empty one -/
theorem neD_strs {lh : LH} {x y : Nat} {xs : List D} (hx : lh[x]? = some (.lst xs)) (hy : lh[y]? = some (.lst [])) (h : strsB xs = true) : neD (.loc x) (.loc y) lh = .ok (.bl (!xs.isEmpty)) lh := by
  obtain ⟨ps, a, b, c, d⟩ := strsB_rd (lh := lh) (n := 15) h
  have e1 : rd lh 16 (.loc x) = some (.list ps) := by rw [rd_loc lh 15 x xs hx, a]; rfl
  have e2 : rd lh 16 (.loc y) = some (.list []) := by rw [rd_loc lh 15 y [] hy]; rfl
  have s2 : SeqAt.shaped (.list ps) = true := by simp [SeqAt.shaped, PyData.canLay0, PyData.depth, b]; omega
  have s3 : SeqAt.shaped (.list []) = true := by decide
  have hl : ps.isEmpty = xs.isEmpty := by
    cases xs with
    | nil => simp at a; subst a; rfl
    | cons x xs =>
      cases ps with
      | nil => simp [List.mapM_cons, Option.bind_eq_some_iff] at a
      | cons _ _ => rfl
  have e3 : eqR lh (.loc x) (.loc y) = some xs.isEmpty := by
    show (match rd lh 16 (.loc x), rd lh 16 (.loc y) with
      | some p, some q => if SeqAt.shaped p = true ∧ SeqAt.shaped q = true then some (PyData.eqv p q) else none
      | _, _ => none) = _
    rw [e1, e2]
    dsimp only
    rw [if_pos ⟨s2, s3⟩, ← hl]
    cases ps <;> simp [PyData.eqv, PyData.eqvAll]
  unfold neD
  rw [e3]
theorem popD_at {lh : LH} {n i : Nat} {xs : List D} (h : lh[n]? = some (.lst xs)) (hi : i < xs.length) (hs : xs.length < 1000000) : popD (.loc n) [.int i] lh = .ok xs[i] (lh.set n (.lst (xs.eraseIdx i))) := by
  have e : seqIndex? (i : Int) xs.length = some i := by
    unfold seqIndex?
    have : ¬ ((i : Int) < 0) := by omega
    simp [this, hi]
  show (match lh[n]? with
    | some (.lst xs) => if -(2 ^ 63) ≤ (i : Int) ∧ (i : Int) < 2 ^ 63 then (match seqIndex? (i : Int) xs.length with | some k => (match xs[k]? with | some d => Re.ok d (lh.set n (.lst (xs.eraseIdx k))) | none => .bad) | none => .bad) else .bad
    | _ => .bad) = _
  rw [h]
  dsimp only
  rw [if_pos (by omega), e]
  dsimp only
  rw [List.getElem?_eq_getElem hi]
theorem appD_at {lh : LH} {n : Nat} {xs : List D} {d : D} (h : lh[n]? = some (.lst xs)) (hs : xs.length < 1000000) : appD (.loc n) [d] lh = .ok .non (lh.set n (.lst (xs ++ [d]))) := by
  show (match lh[n]? with | some (.lst xs) => if xs.length < sizeLine then Re.ok D.non (lh.set n (.lst (xs ++ [d]))) else .bad | _ => .bad) = _
  rw [h]
  dsimp only
  rw [if_pos (by unfold sizeLine; omega)]
theorem tyOk_loc {lh : LH} {n : Nat} {xs : List D} (h : lh[n]? = some (.lst xs)) : tyOk "list" (.loc n) lh = true := by
  show ("list" == "list" && (sq lh (.loc n)).isSome) = true
  rw [sq_loc, h]; rfl
theorem strsB_mem {xs : List D} (h : ∀ d ∈ xs, ∃ x, d = .str x ∧ PyData.strOk x = true) : strsB xs = true := by
  unfold strsB
  rw [List.all_eq_true]
  intro d hd
  obtain ⟨x, rfl, hx⟩ := h d hd
  exact hx
theorem listD_sq {lh : LH} {d : D} {xs : List D} (h : sq lh d = some xs) : listD [d] lh = .ok (.loc lh.length) (lh ++ [.lst xs]) := by
  cases d with
  | loc n =>
    show (match sq lh (.loc n) with | some xs => Re.ok (D.loc lh.length) (lh ++ [Ob.lst xs]) | none => .bad) = _
    rw [h]
  | fl ys => cases h; rfl
  | _ => cases h
theorem pull_perm {a : Type} {us : List a} {j : Nat} (hj : j < us.length) : (us[j] :: us.eraseIdx j).Perm us := by
  rw [List.eraseIdx_eq_take_drop_succ]
  refine List.perm_middle.symm.trans ?_
  rw [← List.drop_eq_getElem_cons hj, List.take_append_drop]
/-! ### a row in another order -/
theorem l_mixed_ok {lh : LH} {b : Nat} {x : D} {ds : List D} (hB : Bag lh b) (hx : sq lh x = some ds) (hs : ∀ d ∈ ds, ∃ x, d = .str x ∧ PyData.strOk x = true) (hz : ds.length < 1000000) :
    ∃ q es lh', l_mixed [.loc b, x] lh = .ok (.loc q) lh' ∧ lh'[q]? = some (.lst es) ∧ es.Perm ds ∧ q ≠ b ∧ lh.length ≤ q ∧ Fr b lh lh' ∧ Bag lh' b := by
  have hb := hB.lt
  obtain ⟨e', l', p, q⟩ := whN_inv (t := blT (opM neD (varM 2) (lstM (nilA)))) (body := exS (mtM "list" appD (varM 3) (consA (mtM "list" popD (varM 2) (consA (apM NP.l_draw (consA (varM 0) (consA (callM lenD (consA (varM 2) (nilA))) (nilA)))) (nilA))) (nilA))))
    (fun n e l => e = [some (.loc b), some x, some (.loc lh.length), some (.loc (lh.length + 1))] ∧ Fr b lh l ∧ Bag l b ∧ ∃ us vs, l[lh.length]? = some (.lst us) ∧ l[lh.length + 1]? = some (.lst vs) ∧ us.length = n ∧ (us ++ vs).Perm ds)
    (fun e l I => by
      obtain ⟨rfl, f, B, us, vs, hu, hv, hn, hp⟩ := I
      cases List.eq_nil_of_length_eq_zero hn
      have hl := (List.getElem?_eq_some_iff.mp hv).1
      refine ⟨l ++ [.lst []], ?_, rfl, f.trans (.app _ _), B.app _, [], vs, by rw [List.getElem?_append_left (by omega), hu], by rw [List.getElem?_append_left hl, hv], rfl, hp⟩
      have := neD_strs (lh := l ++ [.lst []]) (x := lh.length) (y := l.length) (xs := []) (by rw [List.getElem?_append_left (by omega), hu]) (by simp) rfl
      simp [this])
    (fun n e l I => by
      obtain ⟨rfl, f, B, us, vs, hu, hv, hn, hp⟩ := I
      have hl := (List.getElem?_eq_some_iff.mp hv).1
      have hlen : us.length + vs.length = ds.length := by rw [← hp.length_eq, List.length_append]
      have hus : strsB us = true := strsB_mem fun d hd => hs d (hp.mem_iff.mp (List.mem_append_left _ hd))
      have hu1 : (l ++ [Ob.lst []])[lh.length]? = some (.lst us) := by rw [List.getElem?_append_left (by omega), hu]
      have hv1 : (l ++ [Ob.lst []])[lh.length + 1]? = some (.lst vs) := by rw [List.getElem?_append_left (by omega), hv]
      have h1 := neD_strs (lh := l ++ [.lst []]) (x := lh.length) (y := l.length) (xs := us) hu1 (by simp) hus
      obtain ⟨i, l2, a1, a2, a3, a4, a5⟩ := l_draw_ok (n := (us.length : Int)) (B.app [.lst []]) (by omega) (by omega)
      obtain ⟨j, rfl⟩ := Int.eq_ofNat_of_zero_le a1
      have hj : j < us.length := by omega
      have hu2 := a4.get hu1 (by omega)
      have hv2 := a4.get hv1 (by omega)
      have hl2 := (List.getElem?_eq_some_iff.mp hv2).1
      have h2 := popD_at hu2 hj (by omega)
      have hv3 : (l2.set lh.length (.lst (us.eraseIdx j)))[lh.length + 1]? = some (.lst vs) := by rw [List.getElem?_set_ne (by omega), hv2]
      have h3 := appD_at (d := us[j]) hv3 (by omega)
      have hB3 : Bag ((l2.set lh.length (.lst (us.eraseIdx j))).set (lh.length + 1) (.lst (vs ++ [us[j]]))) b := (a5.set (by omega) (by omega)).set (by omega) (by omega)
      have hf3 : Fr b lh ((l2.set lh.length (.lst (us.eraseIdx j))).set (lh.length + 1) (.lst (vs ++ [us[j]]))) := by
        have g := (f.trans (.app _ [.lst []])).trans a4
        refine ⟨by have := g.len; simp; omega, fun n hn hp => ?_⟩
        rw [List.getElem?_set_ne (by omega), List.getElem?_set_ne (by omega)]
        exact g.same n hn hp
      refine ⟨l ++ [.lst []], _, _, ?_, .inl ?_, rfl, hf3, hB3, us.eraseIdx j, vs ++ [us[j]], ?_, ?_, ?_, ?_⟩
      · have : us ≠ [] := fun h => by rw [h] at hn; simp at hn
        simp [h1, this]
      · simp [tyOk_loc hu1, tyOk_loc hv1, hu1, a3, h2, h3]
      · rw [List.getElem?_set_ne (by omega), List.getElem?_set_self (by omega)]
      · rw [List.getElem?_set_self (by simp; omega)]
      · rw [List.length_eraseIdx, if_pos hj]; omega
      · refine List.Perm.trans ?_ hp
        have : (us[j] :: us.eraseIdx j).Perm us := pull_perm hj
        refine List.Perm.trans ?_ (this.append_right vs)
        refine (List.Perm.append_left _ (List.perm_append_comm (l₁ := vs) (l₂ := [us[j]]))).trans ?_
        rw [← List.append_assoc]
        exact List.Perm.append_right _ (List.perm_append_comm (l₂ := [us[j]])))
    ds.length fuel0 [some (.loc b), some x, some (.loc lh.length), some (.loc (lh.length + 1))] (lh ++ [.lst ds, .lst []]) (by unfold fuel0; omega) ⟨rfl, .app _ _, hB.app _, ds, [], by simp, by simp, rfl, by simp⟩
  obtain ⟨rfl, f, B, us, vs, hu, hv, hn, hp⟩ := q
  cases List.eq_nil_of_length_eq_zero hn
  refine ⟨lh.length + 1, vs, l', ?_, hv, by simpa using hp, by omega, by omega, f, B⟩
  unfold l_mixed
  simp [listD_sq hx, whS, p]
end NP
set_option maxRecDepth 100000
set_option maxHeartbeats 4000000
namespace NP
open PySem PySem.Spec L2 NL
inductive PartD (n : Int) : D → Prop
  | timed (w : D) (q : Int) : w ∈ timedL → 0 ≤ q → q < n → PartD n (.tup [w, .int (1 + q)])
  | change : PartD n (.tup [so "change"])
  | pick (s : D) : s ∈ oftL → PartD n (.tup [so "pick", s])
  | turn (x y : D) : x ∈ abcL → y ∈ abcL → x ≠ y → PartD n (.tup [so "turn", x, y])
def ItemD (d : D) : Prop := ∃ (s : D) (q : Int), s ∈ abcL ∧ d = .tup [s, .int q]
theorem at_timed {q : Int} (h0 : 0 ≤ q) (h1 : q < 6) : ∃ w, w ∈ timedL ∧ atI timedL q = some w := by
  obtain ⟨j, rfl⟩ := Int.eq_ofNat_of_zero_le h0
  have hj : j < timedL.length := by show j < 6; omega
  exact ⟨timedL[j], List.getElem_mem hj, atI_pos _ _ hj⟩
theorem part_ok {lh : LH} {b : Nat} {n : Int} (hB : Bag lh b) (hn : 0 < n) (hn1 : n < 1000000) :
    ∃ d lh', l_some_part [.loc b, .int n] lh = .ok d lh' ∧ PartD n d ∧ Fr b lh lh' ∧ Bag lh' b := by
  have hb := hB.lt
  obtain ⟨q, l1, a1, a2, a3, a4, a5⟩ := l_draw_ok (n := 9) hB (by omega) (by omega)
  have hb1 := a5.lt
  by_cases h6 : q < 6
  · obtain ⟨w, hw, hw2⟩ := at_timed a1 h6
    obtain ⟨q2, l2, b1, b2, b3, b4, b5⟩ := l_draw_ok (n := n) (a5.app [.lst timedL]) (by omega) (by omega)
    refine ⟨_, l2, ?_, .timed w q2 hw b1 b2, a4.trans ((Ge.app _ _).trans b4), b5⟩
    simp [l_some_part, a3, h6, l_timed_ok, hw2, b3]
  · by_cases h7 : q = 6
    · subst h7
      exact ⟨_, l1, by simp [l_some_part, a3], .change, a4, a5⟩
    · by_cases h8 : q = 7
      · subst h8
        obtain ⟨s, l2, b1, b2, b3, b4⟩ := l_of_ok (n := l1.length) (ds := oftL) (a5.app [.lst oftL]) (by omega) (by simp) (by decide) (by decide)
        simp only [oftL] at b2
        exact ⟨_, l2, by simp [l_some_part, a3, b2], .pick s b1, a4.trans ((Ge.app _ _).trans b3), b4⟩
      · obtain ⟨p, es, l2, b1, b2, b3, b4, b5, b6, b7⟩ := l_mixed_ok (x := .loc l1.length) (ds := abcL) (a5.app [.lst abcL]) (by simp) (fun d hd => abc_str hd) (by decide)
        simp only [abcL] at b1
        have hl : es.length = 3 := b3.length_eq
        match es, hl with
        | [x, y, z], _ =>
          have hnd : [x, y, z].Nodup := b3.nodup_iff.mpr (by simp (decide := true) [abcL])
          have hne : x ≠ y := fun h => by simp [h] at hnd
          refine ⟨_, l2, ?_, .turn x y (b3.mem_iff.mp (by simp)) (b3.mem_iff.mp (by simp)) hne, a4.trans ((Ge.app _ _).trans b6), b7⟩
          simp [l_some_part, a3, h6, h7, h8, b1, b2]
/-- what may be in a part's memory -/
inductive MemP : D → D → Prop
  | rest (p : D) : MemP p (.tup [.bl false, .non])
  | none (w : D) (q : D) : w = so "first" ∨ w = so "both" → MemP (.tup [w, q]) (.tup [.bl true, .non])
  | some (w : D) (q : D) (m : D) : w ∈ timedL → w ≠ so "first" → ItemD m → MemP (.tup [w, q]) (.tup [.bl true, m])
  | last (s : D) : s ∈ (.non :: abcL) → MemP (.tup [so "change"]) (.tup [.bl false, s])
end NP
set_option maxRecDepth 100000
set_option maxHeartbeats 4000000
/-! an item that comes to a part: the program's and the law's, one row, and of what kind. -/
namespace NP
open PySem PySem.Spec L2 NL
theorem item_str {d : D} (h : ItemD d) : ∃ x q, d = .tup [.str x, .int q] ∧ PyData.strOk x = true := by
  obtain ⟨s, q, hs, rfl⟩ := h
  obtain ⟨x, rfl, hx⟩ := abc_str hs
  exact ⟨x, q, rfl, hx⟩
theorem eqD_non_str (lh : LH) (x : Str) (hx : PyData.strOk x = true) : eqD .non (.str x) lh = .ok (.bl false) lh := by
  have : SeqAt.shaped (.str x) = true := by simp [SeqAt.shaped, PyData.canLay0, PyData.depth, hx]
  simp [eqD, eqR, this, PyData.eqv]
theorem inD_str (lh : LH) (x y : Str) : inD (.str x) (.str y) lh = .ok (.bl (hasSub y x)) lh := rfl
@[simp] theorem pd_bl (n b) : pd n (.bl b) = true := by cases n <;> rfl
@[simp] theorem pd_non (n) : pd n .non = true := by cases n <;> rfl
@[simp] theorem pd_int (n b) : pd n (.int b) = true := by cases n <;> rfl
@[simp] theorem pd_str (n b) : pd n (.str b) = true := by cases n <;> rfl
theorem item_mem {x : Str} {q : Int} (h : ItemD (.tup [.str x, .int q])) : D.str x ∈ abcL := by
  obtain ⟨s, k, hs, e⟩ := h
  cases e
  exact hs
/-- the two give one row: what the part keeps, what goes on, whether it starts -/
def CameOk (p m t : D) : Prop := ∃ (m' o : D) (b : Bool), MemP p m' ∧ (o = .non ∨ ItemD o) ∧ (b = true → ∃ x, m' = .tup [.bl true, x]) ∧ (∀ lh, ∃ l', l_came [p, m, t] lh = .ok (.tup [m', o, .bl b]) l' ∧ Gr lh l') ∧ ∀ lh, came [p, m, t] lh = .ok (.tup [m', o, .bl b]) lh
theorem cok {p m t m' o : D} {b : Bool} (h1 : MemP p m') (h2 : o = .non ∨ ItemD o) (h3 : b = true → ∃ x, m' = .tup [.bl true, x]) (g : LH → LH) (h4 : ∀ lh, l_came [p, m, t] lh = .ok (.tup [m', o, .bl b]) (lh ++ g lh)) (h5 : ∀ lh, came [p, m, t] lh = .ok (.tup [m', o, .bl b]) lh) : CameOk p m t :=
  ⟨m', o, b, h1, h2, h3, fun lh => ⟨_, h4 lh, .app _ _⟩, h5⟩
abbrev g0 : LH → LH := fun _ => []
abbrev g1 : LH → LH := fun _ => [.lst [so "quiet", so "again"]]
abbrev g2 : LH → LH := fun _ => [.lst [so "quiet", so "again"], .lst [so "late", so "hold"]]
theorem came_ok {p m t : D} {n0 : Int} (hp : PartD n0 p) (hm : MemP p m) (ht : ItemD t) : CameOk p m t := by
  obtain ⟨x, q, rfl, hx⟩ := item_str ht
  have hxm := item_mem ht
  cases hp with
  | pick s hs =>
    obtain ⟨y, rfl, hy⟩ := oft_str hs
    have hm' : m = .tup [.bl false, .non] := by
      cases hm with
      | rest => rfl
      | none _ _ h => exact absurd h (by simp (decide := true))
      | some _ _ _ h => exact absurd h (by simp (decide := true) [timedL])
    subst hm'
    cases hk : hasSub y x with
    | false => exact cok (m' := .tup [.bl false, .non]) (o := .non) (b := false) (by first | exact MemP.rest _ | exact MemP.none _ _ (.inl rfl) | exact MemP.none _ _ (.inr rfl) | exact MemP.some _ _ _ (by simp [timedL]) (by simp (decide := true)) (by assumption) | exact MemP.last _ (List.mem_cons_of_mem _ (by assumption))) (by first | exact .inl rfl | exact .inr (by assumption)) (by first | exact fun _ => ⟨_, rfl⟩ | exact fun h => nomatch h) g0 (fun lh => by simp (decide := true) [l_came, inD_str, hk]) (fun lh => by simp (decide := true) [came, inD_tup, strsB, isS, PyData.strOk, inD_str, hk])
    | true => exact cok (m' := .tup [.bl false, .non]) (o := .tup [.str x, .int q]) (b := false) (by first | exact MemP.rest _ | exact MemP.none _ _ (.inl rfl) | exact MemP.none _ _ (.inr rfl) | exact MemP.some _ _ _ (by simp [timedL]) (by simp (decide := true)) (by assumption) | exact MemP.last _ (List.mem_cons_of_mem _ (by assumption))) (by first | exact .inl rfl | exact .inr (by assumption)) (by first | exact fun _ => ⟨_, rfl⟩ | exact fun h => nomatch h) g0 (fun lh => by simp (decide := true) [l_came, inD_str, hk]) (fun lh => by simp (decide := true) [came, inD_tup, strsB, isS, PyData.strOk, inD_str, hk])
  | turn u v hu hv _ =>
    obtain ⟨y, rfl, hy⟩ := abc_str hu
    obtain ⟨z, rfl, hz⟩ := abc_str hv
    have hzi : ItemD (.tup [.str z, .int q]) := ⟨_, _, hv, rfl⟩
    cases hm
    by_cases hk : x = y
    · exact cok (m' := .tup [.bl false, .non]) (o := .tup [.str z, .int q]) (b := false) (by first | exact MemP.rest _ | exact MemP.none _ _ (.inl rfl) | exact MemP.none _ _ (.inr rfl) | exact MemP.some _ _ _ (by simp [timedL]) (by simp (decide := true)) (by assumption) | exact MemP.last _ (List.mem_cons_of_mem _ (by assumption))) (by first | exact .inl rfl | exact .inr (by assumption)) (by first | exact fun _ => ⟨_, rfl⟩ | exact fun h => nomatch h) g0 (fun lh => by simp (decide := true) [l_came, hk]) (fun lh => by simp (decide := true) [came, inD_tup, strsB, isS, PyData.strOk, hk])
    · exact cok (m' := .tup [.bl false, .non]) (o := .tup [.str x, .int q]) (b := false) (by first | exact MemP.rest _ | exact MemP.none _ _ (.inl rfl) | exact MemP.none _ _ (.inr rfl) | exact MemP.some _ _ _ (by simp [timedL]) (by simp (decide := true)) (by assumption) | exact MemP.last _ (List.mem_cons_of_mem _ (by assumption))) (by first | exact .inl rfl | exact .inr (by assumption)) (by first | exact fun _ => ⟨_, rfl⟩ | exact fun h => nomatch h) g0 (fun lh => by simp (decide := true) [l_came, hk]) (fun lh => by simp (decide := true) [came, inD_tup, strsB, isS, PyData.strOk, hk])
  | change =>
    have hs : ∃ s, m = .tup [.bl false, s] ∧ (s = .non ∨ ∃ y, s = .str y ∧ D.str y ∈ abcL) := by
      cases hm with
      | rest => exact ⟨_, rfl, .inl rfl⟩
      | last s hs =>
        rcases List.mem_cons.mp hs with rfl | hs
        · exact ⟨_, rfl, .inl rfl⟩
        · obtain ⟨y, rfl, _⟩ := abc_str hs
          exact ⟨_, rfl, .inr ⟨_, rfl, hs⟩⟩
    obtain ⟨s, rfl, hs⟩ := hs
    rcases hs with rfl | ⟨y, rfl, hym⟩
    · exact cok (m' := .tup [.bl false, .str x]) (o := .tup [.str x, .int q]) (b := false) (by first | exact MemP.rest _ | exact MemP.none _ _ (.inl rfl) | exact MemP.none _ _ (.inr rfl) | exact MemP.some _ _ _ (by simp [timedL]) (by simp (decide := true)) (by assumption) | exact MemP.last _ (List.mem_cons_of_mem _ (by assumption))) (by first | exact .inl rfl | exact .inr (by assumption)) (by first | exact fun _ => ⟨_, rfl⟩ | exact fun h => nomatch h) g0 (fun lh => by simp (decide := true) [l_came, eqD_non_str _ _ hx]) (fun lh => by simp (decide := true) [came, inD_tup, strsB, isS, PyData.strOk, eqD_non_str _ _ hx])
    · by_cases hk : y = x
      · exact cok (m' := .tup [.bl false, .str y]) (o := .non) (b := false) (by first | exact MemP.rest _ | exact MemP.none _ _ (.inl rfl) | exact MemP.none _ _ (.inr rfl) | exact MemP.some _ _ _ (by simp [timedL]) (by simp (decide := true)) (by assumption) | exact MemP.last _ (List.mem_cons_of_mem _ (by assumption))) (by first | exact .inl rfl | exact .inr (by assumption)) (by first | exact fun _ => ⟨_, rfl⟩ | exact fun h => nomatch h) g0 (fun lh => by simp (decide := true) [l_came, hk]) (fun lh => by simp (decide := true) [came, inD_tup, strsB, isS, PyData.strOk, hk])
      · exact cok (m' := .tup [.bl false, .str x]) (o := .tup [.str x, .int q]) (b := false) (by first | exact MemP.rest _ | exact MemP.none _ _ (.inl rfl) | exact MemP.none _ _ (.inr rfl) | exact MemP.some _ _ _ (by simp [timedL]) (by simp (decide := true)) (by assumption) | exact MemP.last _ (List.mem_cons_of_mem _ (by assumption))) (by first | exact .inl rfl | exact .inr (by assumption)) (by first | exact fun _ => ⟨_, rfl⟩ | exact fun h => nomatch h) g0 (fun lh => by simp (decide := true) [l_came, hk]) (fun lh => by simp (decide := true) [came, inD_tup, strsB, isS, PyData.strOk, hk])
  | timed w n hw _ _ =>
    have hm' : m = .tup [.bl false, .non] ∨ (m = .tup [.bl true, .non] ∧ (w = so "first" ∨ w = so "both")) ∨ ∃ y k, m = .tup [.bl true, .tup [.str y, .int k]] ∧ w ≠ so "first" ∧ ItemD (.tup [.str y, .int k]) := by
      cases hm with
      | rest => exact .inl rfl
      | none _ _ h => exact .inr (.inl ⟨rfl, h⟩)
      | some _ _ m _ h hi =>
        obtain ⟨y, k, rfl, _⟩ := item_str hi
        exact .inr (.inr ⟨y, k, rfl, h, hi⟩)
    simp [timedL] at hw
    rcases hm' with rfl | ⟨rfl, h⟩ | ⟨y, k, rfl, h, hyi⟩
    · rcases hw with rfl | rfl | rfl | rfl | rfl | rfl
      · exact cok (m' := .tup [.bl true, .tup [.str x, .int q]]) (o := .non) (b := true) (by first | exact MemP.rest _ | exact MemP.none _ _ (.inl rfl) | exact MemP.none _ _ (.inr rfl) | exact MemP.some _ _ _ (by simp [timedL]) (by simp (decide := true)) (by assumption) | exact MemP.last _ (List.mem_cons_of_mem _ (by assumption))) (by first | exact .inl rfl | exact .inr (by assumption)) (by first | exact fun _ => ⟨_, rfl⟩ | exact fun h => nomatch h) g1 (fun lh => by simp (decide := true) [l_came, inD_loc, strsB, isS, PyData.strOk]) (fun lh => by simp (decide := true) [came, timed_came, inD_tup, strsB, isS, PyData.strOk])
      · exact cok (m' := .tup [.bl true, .non]) (o := .tup [.str x, .int q]) (b := true) (by first | exact MemP.rest _ | exact MemP.none _ _ (.inl rfl) | exact MemP.none _ _ (.inr rfl) | exact MemP.some _ _ _ (by simp [timedL]) (by simp (decide := true)) (by assumption) | exact MemP.last _ (List.mem_cons_of_mem _ (by assumption))) (by first | exact .inl rfl | exact .inr (by assumption)) (by first | exact fun _ => ⟨_, rfl⟩ | exact fun h => nomatch h) g2 (fun lh => by simp (decide := true) [l_came, inD_loc, strsB, isS, PyData.strOk]) (fun lh => by simp (decide := true) [came, timed_came, inD_tup, strsB, isS, PyData.strOk])
      · exact cok (m' := .tup [.bl true, .tup [.str x, .int q]]) (o := .non) (b := true) (by first | exact MemP.rest _ | exact MemP.none _ _ (.inl rfl) | exact MemP.none _ _ (.inr rfl) | exact MemP.some _ _ _ (by simp [timedL]) (by simp (decide := true)) (by assumption) | exact MemP.last _ (List.mem_cons_of_mem _ (by assumption))) (by first | exact .inl rfl | exact .inr (by assumption)) (by first | exact fun _ => ⟨_, rfl⟩ | exact fun h => nomatch h) g2 (fun lh => by simp (decide := true) [l_came, inD_loc, strsB, isS, PyData.strOk]) (fun lh => by simp (decide := true) [came, timed_came, inD_tup, strsB, isS, PyData.strOk])
      · exact cok (m' := .tup [.bl true, .tup [.str x, .int q]]) (o := .non) (b := true) (by first | exact MemP.rest _ | exact MemP.none _ _ (.inl rfl) | exact MemP.none _ _ (.inr rfl) | exact MemP.some _ _ _ (by simp [timedL]) (by simp (decide := true)) (by assumption) | exact MemP.last _ (List.mem_cons_of_mem _ (by assumption))) (by first | exact .inl rfl | exact .inr (by assumption)) (by first | exact fun _ => ⟨_, rfl⟩ | exact fun h => nomatch h) g2 (fun lh => by simp (decide := true) [l_came, inD_loc, strsB, isS, PyData.strOk]) (fun lh => by simp (decide := true) [came, timed_came, inD_tup, strsB, isS, PyData.strOk])
      · exact cok (m' := .tup [.bl true, .non]) (o := .tup [.str x, .int q]) (b := true) (by first | exact MemP.rest _ | exact MemP.none _ _ (.inl rfl) | exact MemP.none _ _ (.inr rfl) | exact MemP.some _ _ _ (by simp [timedL]) (by simp (decide := true)) (by assumption) | exact MemP.last _ (List.mem_cons_of_mem _ (by assumption))) (by first | exact .inl rfl | exact .inr (by assumption)) (by first | exact fun _ => ⟨_, rfl⟩ | exact fun h => nomatch h) g2 (fun lh => by simp (decide := true) [l_came, inD_loc, strsB, isS, PyData.strOk]) (fun lh => by simp (decide := true) [came, timed_came, inD_tup, strsB, isS, PyData.strOk])
      · exact cok (m' := .tup [.bl true, .tup [.str x, .int q]]) (o := .tup [.str x, .int q]) (b := true) (by first | exact MemP.rest _ | exact MemP.none _ _ (.inl rfl) | exact MemP.none _ _ (.inr rfl) | exact MemP.some _ _ _ (by simp [timedL]) (by simp (decide := true)) (by assumption) | exact MemP.last _ (List.mem_cons_of_mem _ (by assumption))) (by first | exact .inl rfl | exact .inr (by assumption)) (by first | exact fun _ => ⟨_, rfl⟩ | exact fun h => nomatch h) g1 (fun lh => by simp (decide := true) [l_came, inD_loc, strsB, isS, PyData.strOk]) (fun lh => by simp (decide := true) [came, timed_came, inD_tup, strsB, isS, PyData.strOk])
    · rcases h with rfl | rfl
      · exact cok (m' := .tup [.bl true, .non]) (o := .non) (b := false) (by first | exact MemP.rest _ | exact MemP.none _ _ (.inl rfl) | exact MemP.none _ _ (.inr rfl) | exact MemP.some _ _ _ (by simp [timedL]) (by simp (decide := true)) (by assumption) | exact MemP.last _ (List.mem_cons_of_mem _ (by assumption))) (by first | exact .inl rfl | exact .inr (by assumption)) (by first | exact fun _ => ⟨_, rfl⟩ | exact fun h => nomatch h) g2 (fun lh => by simp (decide := true) [l_came, inD_loc, strsB, isS, PyData.strOk]) (fun lh => by simp (decide := true) [came, timed_came, inD_tup, strsB, isS, PyData.strOk])
      · exact cok (m' := .tup [.bl true, .tup [.str x, .int q]]) (o := .non) (b := false) (by first | exact MemP.rest _ | exact MemP.none _ _ (.inl rfl) | exact MemP.none _ _ (.inr rfl) | exact MemP.some _ _ _ (by simp [timedL]) (by simp (decide := true)) (by assumption) | exact MemP.last _ (List.mem_cons_of_mem _ (by assumption))) (by first | exact .inl rfl | exact .inr (by assumption)) (by first | exact fun _ => ⟨_, rfl⟩ | exact fun h => nomatch h) g2 (fun lh => by simp (decide := true) [l_came, inD_loc, strsB, isS, PyData.strOk]) (fun lh => by simp (decide := true) [came, timed_came, inD_tup, strsB, isS, PyData.strOk])
    · rcases hw with rfl | rfl | rfl | rfl | rfl | rfl
      · exact cok (m' := .tup [.bl true, .tup [.str x, .int q]]) (o := .non) (b := true) (by first | exact MemP.rest _ | exact MemP.none _ _ (.inl rfl) | exact MemP.none _ _ (.inr rfl) | exact MemP.some _ _ _ (by simp [timedL]) (by simp (decide := true)) (by assumption) | exact MemP.last _ (List.mem_cons_of_mem _ (by assumption))) (by first | exact .inl rfl | exact .inr (by assumption)) (by first | exact fun _ => ⟨_, rfl⟩ | exact fun h => nomatch h) g1 (fun lh => by simp (decide := true) [l_came, inD_loc, strsB, isS, PyData.strOk]) (fun lh => by simp (decide := true) [came, timed_came, inD_tup, strsB, isS, PyData.strOk])
      · exact absurd rfl h
      · exact cok (m' := .tup [.bl true, .tup [.str x, .int q]]) (o := .non) (b := false) (by first | exact MemP.rest _ | exact MemP.none _ _ (.inl rfl) | exact MemP.none _ _ (.inr rfl) | exact MemP.some _ _ _ (by simp [timedL]) (by simp (decide := true)) (by assumption) | exact MemP.last _ (List.mem_cons_of_mem _ (by assumption))) (by first | exact .inl rfl | exact .inr (by assumption)) (by first | exact fun _ => ⟨_, rfl⟩ | exact fun h => nomatch h) g2 (fun lh => by simp (decide := true) [l_came, inD_loc, strsB, isS, PyData.strOk]) (fun lh => by simp (decide := true) [came, timed_came, inD_tup, strsB, isS, PyData.strOk])
      · exact cok (m' := .tup [.bl true, .tup [.str y, .int k]]) (o := .non) (b := false) (by first | exact MemP.rest _ | exact MemP.none _ _ (.inl rfl) | exact MemP.none _ _ (.inr rfl) | exact MemP.some _ _ _ (by simp [timedL]) (by simp (decide := true)) (by assumption) | exact MemP.last _ (List.mem_cons_of_mem _ (by assumption))) (by first | exact .inl rfl | exact .inr (by assumption)) (by first | exact fun _ => ⟨_, rfl⟩ | exact fun h => nomatch h) g2 (fun lh => by simp (decide := true) [l_came, inD_loc, strsB, isS, PyData.strOk]) (fun lh => by simp (decide := true) [came, timed_came, inD_tup, strsB, isS, PyData.strOk])
      · exact cok (m' := .tup [.bl true, .tup [.str x, .int q]]) (o := .non) (b := false) (by first | exact MemP.rest _ | exact MemP.none _ _ (.inl rfl) | exact MemP.none _ _ (.inr rfl) | exact MemP.some _ _ _ (by simp [timedL]) (by simp (decide := true)) (by assumption) | exact MemP.last _ (List.mem_cons_of_mem _ (by assumption))) (by first | exact .inl rfl | exact .inr (by assumption)) (by first | exact fun _ => ⟨_, rfl⟩ | exact fun h => nomatch h) g2 (fun lh => by simp (decide := true) [l_came, inD_loc, strsB, isS, PyData.strOk]) (fun lh => by simp (decide := true) [came, timed_came, inD_tup, strsB, isS, PyData.strOk])
      · exact cok (m' := .tup [.bl true, .tup [.str x, .int q]]) (o := .tup [.str x, .int q]) (b := true) (by first | exact MemP.rest _ | exact MemP.none _ _ (.inl rfl) | exact MemP.none _ _ (.inr rfl) | exact MemP.some _ _ _ (by simp [timedL]) (by simp (decide := true)) (by assumption) | exact MemP.last _ (List.mem_cons_of_mem _ (by assumption))) (by first | exact .inl rfl | exact .inr (by assumption)) (by first | exact fun _ => ⟨_, rfl⟩ | exact fun h => nomatch h) g1 (fun lh => by simp (decide := true) [l_came, inD_loc, strsB, isS, PyData.strOk]) (fun lh => by simp (decide := true) [came, timed_came, inD_tup, strsB, isS, PyData.strOk])
end NP
set_option maxRecDepth 100000
set_option maxHeartbeats 4000000
/-! a timer that rings. -/
namespace NP
open PySem PySem.Spec L2 NL
def RangOk (p m : D) : Prop := ∃ (m' o : D) (b : Bool), MemP p m' ∧ (o = .non ∨ ItemD o) ∧ (b = true → ∃ x, m' = .tup [.bl true, x]) ∧ ∀ lh, l_rang [p, m] lh = .ok (.tup [m', o, .bl b]) lh ∧ rang [p, m] lh = .ok (.tup [m', o, .bl b]) lh
theorem rgk {p m m' o : D} {b : Bool} (h1 : MemP p m') (h2 : o = .non ∨ ItemD o) (h3 : b = true → ∃ x, m' = .tup [.bl true, x]) (h4 : ∀ lh, l_rang [p, m] lh = .ok (.tup [m', o, .bl b]) lh) (h5 : ∀ lh, rang [p, m] lh = .ok (.tup [m', o, .bl b]) lh) : RangOk p m :=
  ⟨m', o, b, h1, h2, h3, fun lh => ⟨h4 lh, h5 lh⟩⟩
theorem rang_ok {w x : D} {n : Int} (hw : w ∈ timedL) (hm : MemP (.tup [w, .int n]) (.tup [.bl true, x])) : RangOk (.tup [w, .int n]) (.tup [.bl true, x]) := by
  cases hm with
  | none _ _ h =>
    rcases h with rfl | rfl
    · exact rgk (m' := .tup [.bl false, .non]) (o := .non) (b := false) (.rest _) (.inl rfl) (fun h => nomatch h) (fun lh => by simp (decide := true) [l_rang]) (fun lh => by simp (decide := true) [rang])
    · exact rgk (m' := .tup [.bl false, .non]) (o := .non) (b := false) (.rest _) (.inl rfl) (fun h => nomatch h) (fun lh => by simp (decide := true) [l_rang]) (fun lh => by simp (decide := true) [rang])
  | some _ _ _ h1 h2 hi =>
    obtain ⟨s, q, hs, rfl⟩ := hi
    obtain ⟨y, rfl, _⟩ := abc_str hs
    have hi : ItemD (.tup [.str y, .int q]) := ⟨_, _, hs, rfl⟩
    simp [timedL] at hw
    rcases hw with rfl | rfl | rfl | rfl | rfl | rfl
    · exact rgk (m' := .tup [.bl false, .non]) (o := .tup [.str y, .int q]) (b := false) (.rest _) (.inr hi) (fun h => nomatch h) (fun lh => by simp (decide := true) [l_rang]) (fun lh => by simp (decide := true) [rang])
    · exact absurd rfl h2
    · exact rgk (m' := .tup [.bl false, .non]) (o := .tup [.str y, .int q]) (b := false) (.rest _) (.inr hi) (fun h => nomatch h) (fun lh => by simp (decide := true) [l_rang]) (fun lh => by simp (decide := true) [rang])
    · exact rgk (m' := .tup [.bl false, .non]) (o := .tup [.str y, .int q]) (b := false) (.rest _) (.inr hi) (fun h => nomatch h) (fun lh => by simp (decide := true) [l_rang]) (fun lh => by simp (decide := true) [rang])
    · exact rgk (m' := .tup [.bl true, .non]) (o := .tup [.str y, .int q]) (b := true) (.none _ _ (.inr rfl)) (.inr hi) (fun _ => ⟨_, rfl⟩) (fun lh => by simp (decide := true) [l_rang]) (fun lh => by simp (decide := true) [rang])
    · exact rgk (m' := .tup [.bl true, .tup [.str y, .int q]]) (o := .tup [.str y, .int q]) (b := true) (.some _ _ _ (by simp [timedL]) (by simp (decide := true)) hi) (.inr hi) (fun _ => ⟨_, rfl⟩) (fun lh => by simp (decide := true) [l_rang]) (fun lh => by simp (decide := true) [rang])
end NP
set_option maxRecDepth 100000
set_option maxHeartbeats 4000000
/-! the law's own net: its rows, parts. -/
namespace NP
open PySem PySem.Spec L2 NL
inductive RowsAt (lh : LH) : List D → List (List D) → Prop
  | nil : RowsAt lh [] []
  | cons {n : Nat} {ys : List D} {ds : List D} {yss : List (List D)} : lh[n]? = some (.lst ys) → RowsAt lh ds yss → RowsAt lh (.loc n :: ds) (ys :: yss)
theorem RowsAt.mono {lh l : LH} (h : ∀ (n : Nat) (o : Ob), lh[n]? = some o → l[n]? = some o) : ∀ {ds : List D} {yss : List (List D)}, RowsAt lh ds yss → RowsAt l ds yss
  | _, _, .nil => .nil
  | _, _, .cons a t => .cons (h _ _ a) (t.mono h)
theorem RowsAt.rowsD {lh : LH} : ∀ {ds : List D} {yss : List (List D)}, RowsAt lh ds yss → rowsD lh ds = some yss
  | _, _, .nil => rfl
  | _, _, .cons (n := n) (ys := ys) (ds := ds) (yss := yss) a t => by
    show (match lh[n]? with | some (.lst ys) => (NL.rowsD lh ds).map (ys :: ·) | _ => none) = _
    rw [a, t.rowsD]
    rfl
theorem RowsAt.len {lh : LH} : ∀ {ds : List D} {yss : List (List D)}, RowsAt lh ds yss → ds.length = yss.length
  | _, _, .nil => rfl
  | _, _, .cons a t => by rw [List.length_cons, List.length_cons, t.len]
/-- the law's own net b, with these rows of parts -/
structure NetAt (lh : LH) (b : D) (yss : List (List D)) : Prop where
  ex : ∃ (s : D) (R : Nat) (ds : List D), b = .tup [s, .loc R] ∧ lh[R]? = some (.lst ds) ∧ RowsAt lh ds yss
  ne : yss ≠ []
  n4 : yss.length ≤ 4
  r4 : ∀ ys ∈ yss, ys.length ≤ 4 ∧ ∀ p ∈ ys, PartD 3 p
theorem NetAt.mono {lh l : LH} {b : D} {yss : List (List D)} (N : NetAt lh b yss) (h : ∀ (n : Nat) (o : Ob), lh[n]? = some o → l[n]? = some o) : NetAt l b yss :=
  ⟨let ⟨s, R, ds, e, a, r⟩ := N.ex; ⟨s, R, ds, e, h _ _ a, r.mono h⟩, N.ne, N.n4, N.r4⟩
theorem flat_le : ∀ {yss : List (List D)}, (∀ ys ∈ yss, ys.length ≤ 4) → yss.flatten.length ≤ 4 * yss.length
  | [], _ => Nat.zero_le _
  | y :: r, h => by
    have h1 := h y (List.mem_cons_self ..)
    have h2 := flat_le fun ys hy => h ys (List.mem_cons_of_mem _ hy)
    rw [List.flatten_cons, List.length_append, List.length_cons]
    omega
theorem NetAt.n16 {lh : LH} {b : D} {yss : List (List D)} (N : NetAt lh b yss) : yss.flatten.length ≤ 16 := by
  have := flat_le fun ys hy => (N.r4 ys hy).1
  have := N.n4
  omega
theorem l_parts_ok {lh : LH} {b : D} {yss : List (List D)} (N : NetAt lh b yss) : l_parts [b] lh = .ok (.loc (lh.length + 1)) (lh ++ [.lst [], .lst yss.flatten]) := by
  obtain ⟨s, R, ds, rfl, a, r⟩ := N.ex
  have hn : ds ≠ [] := fun z => N.ne (List.eq_nil_of_length_eq_zero (by rw [← r.len, z]; rfl))
  have up : ∀ (n : Nat) (o : Ob), lh[n]? = some o → (lh ++ [Ob.lst []])[n]? = some o := fun n o h => by
    rw [List.getElem?_append_left (List.getElem?_eq_some_iff.mp h).1]
    exact h
  have e1 : (lh ++ [Ob.lst []])[lh.length]? = some (.lst []) := by simp
  have hs : sumLD [.loc R, .loc lh.length] (lh ++ [.lst []]) = .ok (.loc (lh.length + 1)) (lh ++ [.lst [], .lst yss.flatten]) := by
    unfold sumLD
    dsimp only
    rw [up _ _ a, e1]
    dsimp only
    rw [(r.mono up).rowsD]
    dsimp only
    have h16 := N.n16
    have hz : ([] : List D).length + yss.flatten.length ≤ sizeLine := by
      have : (16 : Nat) ≤ sizeLine := by decide
      rw [List.length_nil]; omega
    rw [if_pos hz, if_neg hn]
    simp
  simp [l_parts, hs]
end NP
set_option maxRecDepth 100000
set_option maxHeartbeats 4000000
/-! the law's own net: the line of each place. -/
namespace NP
open PySem PySem.Spec L2 NL
def homesF : Nat → List (List D) → List D
  | _, [] => []
  | i, y :: r => List.replicate y.length (.int (i : Int)) ++ homesF (i + 1) r
theorem homesF_snoc (y : List D) : ∀ (yss : List (List D)) (i : Nat), homesF i (yss ++ [y]) = homesF i yss ++ List.replicate y.length (.int ((i + yss.length : Nat) : Int))
  | [], i => by simp [homesF]
  | z :: r, i => by
    show List.replicate _ _ ++ homesF (i + 1) (r ++ [y]) = (List.replicate _ _ ++ homesF (i + 1) r) ++ _
    rw [homesF_snoc y r (i + 1), List.append_assoc, List.length_cons]
    congr 4
    omega
theorem homesF_len : ∀ (yss : List (List D)) (i : Nat), (homesF i yss).length = yss.flatten.length
  | [], _ => rfl
  | z :: r, i => by
    show (List.replicate _ _ ++ homesF (i + 1) r).length = _
    rw [List.length_append, List.length_replicate, homesF_len r (i + 1), List.flatten_cons, List.length_append]
theorem RowsAt.get {lh : LH} : ∀ {ds : List D} {yss : List (List D)}, RowsAt lh ds yss → ∀ (i : Nat) (h : i < yss.length), ∃ n : Nat, ds[i]? = some (.loc n) ∧ lh[n]? = some (.lst yss[i])
  | _, _, .nil, i, h => absurd h (Nat.not_lt_zero _)
  | _, _, .cons a t, 0, h => ⟨_, rfl, a⟩
  | _, _, .cons a t, i + 1, h => t.get i (Nat.lt_of_succ_lt_succ h)
theorem rep1 (k : Nat) (d : D) : (List.replicate k [d]).flatten = List.replicate k d := by
  induction k with
  | zero => rfl
  | succ k ih => rw [List.replicate_succ, List.flatten_cons, ih, List.replicate_succ]; rfl
theorem get_app {l t : LH} {n : Nat} {o : Ob} (h : l[n]? = some o) : (l ++ t)[n]? = some o := by
  rw [List.getElem?_append_left (List.getElem?_eq_some_iff.mp h).1]; exact h
theorem mulD_at {l : LH} {n : Nat} {xs : List D} (k : Nat) (h : l[n]? = some (.lst xs)) (hk : k < 100000) (hx : xs.length * k ≤ sizeLine) : mulD (.loc n) (.int (k : Int)) l = .ok (.loc l.length) (l ++ [.lst (List.replicate k xs).flatten]) := by
  unfold mulD
  dsimp only
  rw [h]
  dsimp only
  rw [if_pos ⟨by omega, by omega, by rw [Int.toNat_natCast]; exact hx⟩, Int.toNat_natCast]
theorem addD_at {l : LH} {n m : Nat} {xs ys : List D} (h : l[n]? = some (.lst xs)) (h' : l[m]? = some (.lst ys)) (hx : xs.length + ys.length ≤ sizeLine) : addD (.loc n) (.loc m) l = .ok (.loc l.length) (l ++ [.lst (xs ++ ys)]) := by
  unfold addD
  dsimp only
  rw [h, h']
  dsimp only
  rw [if_pos hx]
theorem rngI_nat {ma : MA} {e : LE} {lh l : LH} {n : Nat} (h : ma e lh = .ok [.int (n : Int)] l) (hn : n < 1000000) : rngI ma e lh = .ok (itR 0 n) l := by
  have hc : -(2 ^ 62) ≤ (n : Int) ∧ (n : Int) < 2 ^ 62 := ⟨by omega, by omega⟩
  unfold rngI
  rw [h]
  rw [Re.bind_ok]
  simp only
  rw [if_pos hc, Int.toNat_natCast]
theorem line100 : (100 : Nat) ≤ sizeLine := by decide
theorem l_homes_ok {lh : LH} {b : D} {yss : List (List D)} (N : NetAt lh b yss) : ∃ (h : Nat) (lh' : LH), l_homes [b] lh = .ok (.loc h) lh' ∧ Gr lh lh' ∧ lh'[h]? = some (.lst (homesF 0 yss)) ∧ lh.length ≤ h := by
  have N16 := N.n16
  obtain ⟨s, R, ds, rfl, a, r⟩ := N.ex
  have hlen := r.len
  have h4 := N.n4
  obtain ⟨e', l', p, q⟩ := forN_inv (nx := (itR 0 yss.length).nx) (g := nmG 2) (body := asS (opM addD (varM 1) (opM mulD (lstM (consA (varM 2) (nilA))) (callM lenD (consA (opM ixD (opM ixD (varM 0) (conM (.int 1))) (varM 2)) (nilA))))) (nmG 1))
    (fun i e l => Gr lh l ∧ ∃ (h : Nat) (x : Option D), e = [some (.tup [s, .loc R]), some (.loc h), x] ∧ l[h]? = some (.lst (homesF 0 (yss.take i))) ∧ lh.length ≤ h) yss.length
    (fun i e l hi I => by
      obtain ⟨g, h, x, rfl, hh, hb⟩ := I
      obtain ⟨n, hn, hy⟩ := r.get i hi
      have hR : l[R]? = some (.lst ds) := g.get a id
      have hy' : l[n]? = some (.lst yss[i]) := g.get hy id
      have hat : atI ds (i : Int) = some (.loc n) := atI_nat hn
      have hyl : yss[i].length ≤ 4 := (N.r4 _ (List.getElem_mem hi)).1
      have htl : (homesF 0 (yss.take i)).length ≤ 16 := by
        rw [homesF_len]
        have h1 := flat_le (yss := yss.take i) fun ys hy => (N.r4 ys (List.mem_of_mem_take hy)).1
        have h2 : (yss.take i).length ≤ yss.length := by rw [List.length_take]; omega
        omega
      have hs16 := line100
      have e0 : homesF 0 (yss.take (i + 1)) = homesF 0 (yss.take i) ++ List.replicate yss[i].length (.int (i : Int)) := by
        rw [List.take_succ_eq_append_getElem hi, homesF_snoc, List.length_take, Nat.min_eq_left (by omega), Nat.zero_add]
      have m1 : mulD (.loc l.length) (.int (yss[i].length : Int)) (l ++ [.lst [.int (i : Int)]]) = .ok (.loc (l.length + 1)) (l ++ [.lst [.int (i : Int)], .lst (List.replicate yss[i].length (.int (i : Int)))]) := by
        rw [mulD_at (xs := [.int (i : Int)]) yss[i].length (by simp) (by omega) (by simp only [List.length_cons, List.length_nil]; omega), rep1]
        simp
      have m2 : addD (.loc h) (.loc (l.length + 1)) (l ++ [.lst [.int (i : Int)], .lst (List.replicate yss[i].length (.int (i : Int)))]) = .ok (.loc (l.length + 2)) (l ++ [.lst [.int (i : Int)], .lst (List.replicate yss[i].length (.int (i : Int))), .lst (homesF 0 (yss.take (i + 1)))]) := by
        rw [addD_at (xs := homesF 0 (yss.take i)) (ys := List.replicate yss[i].length (.int (i : Int))) (get_app hh) (by simp) (by rw [List.length_replicate]; omega), e0]
        simp
      refine ⟨.int i, [some (.tup [s, .loc R]), some (.loc (l.length + 2)), some (.int i)], l ++ [.lst [.int (i : Int)], .lst (List.replicate yss[i].length (.int (i : Int))), .lst (homesF 0 (yss.take (i + 1)))], ?_, .inl ?_, g.trans (.app _ _), l.length + 2, _, rfl, by simp, ?_⟩
      · simp [itR, hi]
      · simp [get_app hR, hat, get_app hy', m1, m2]
      · have := g.len
        omega)
    (fun e l I => by simp [itR])
    (yss.length + 1) 0 [some (.tup [s, .loc R]), some (.loc lh.length), none] (lh ++ [.lst []]) (by omega) (by omega) ⟨.app _ _, _, _, rfl, by simp [homesF], by omega⟩
  obtain ⟨g, h, x, rfl, hh, hb⟩ := q
  rw [List.take_length] at hh
  refine ⟨h, l', ?_, g, hh, hb⟩
  have hr : rngI (consA (callM lenD (consA (opM ixD (varM 0) (conM (.int 1))) (nilA))) (nilA)) [some (.tup [s, .loc R]), some (.loc lh.length), none] (lh ++ [.lst []]) = .ok (itR 0 yss.length) (lh ++ [.lst []]) := by
    refine rngI_nat ?_ (by omega)
    simp [get_app a, hlen]
  have hfu : (itR 0 yss.length).fuel = yss.length + 1 := rfl
  simp [l_homes, hr, hfu, p]
end NP
set_option maxRecDepth 100000
set_option maxHeartbeats 4000000
/-! tuples of places: != (). -/
namespace NP
open PySem PySem.Spec L2 NL
def gD (g : List Int) : D := .tup (g.map D.int)
theorem rd_ints (lh : LH) (n : Nat) : ∀ g : List Int, (g.map D.int).mapM (rd lh n) = some (g.map PyData.int)
  | [] => rfl
  | x :: r => by
    rw [List.map_cons, List.mapM_cons, rd_int, rd_ints lh n r]
    rfl
theorem lay_ints : ∀ g : List Int, PyData.canLayAll0 (g.map PyData.int) = true
  | [] => by simp [PyData.canLayAll0]
  | x :: r => by simp [PyData.canLayAll0, PyData.canLay0, lay_ints r]
theorem dep_ints : ∀ g : List Int, PyData.depthAll (g.map PyData.int) ≤ 1
  | [] => by simp [PyData.depthAll]
  | x :: r => by have := dep_ints r; simp [PyData.depthAll, PyData.depth]; omega
theorem shp_ints (g : List Int) (h : g.length ≤ 100) : SeqAt.shaped (.tuple (g.map PyData.int)) = true := by
  have h1 := lay_ints g
  have h2 := dep_ints g
  have h3 := line100
  simp [SeqAt.shaped, PyData.canLay0, PyData.depth, h1]
  omega
theorem eqR_g (lh : LH) (g : List Int) (h : g.length ≤ 100) : eqR lh (gD g) (.tup []) = some (decide (g = [])) := by
  have e1 : rd lh 16 (gD g) = some (.tuple (g.map PyData.int)) := by unfold gD; rw [rd_tup, rd_ints]; rfl
  have e2 : rd lh 16 (.tup []) = some (.tuple []) := rfl
  have s2 : SeqAt.shaped (.tuple []) = true := shp_ints [] (Nat.zero_le _)
  show (match rd lh 16 (gD g), rd lh 16 (.tup []) with
    | some p, some q => if SeqAt.shaped p = true ∧ SeqAt.shaped q = true then some (PyData.eqv p q) else none
    | _, _ => none) = _
  rw [e1, e2]
  dsimp only
  rw [if_pos ⟨shp_ints g h, s2⟩]
  cases g with
  | nil => simp [PyData.eqv, PyData.eqvAll]
  | cons x r => simp [PyData.eqv, PyData.eqvAll]
theorem neD_g (lh : LH) (g : List Int) (h : g.length ≤ 100) : neD (gD g) (.tup []) lh = .ok (.bl (!decide (g = []))) lh := by
  unfold neD
  rw [eqR_g lh g h]
end NP
set_option maxRecDepth 100000
set_option maxHeartbeats 4000000
/-! one moment older: the program's, the law's. -/
namespace NP
open PySem PySem.Spec L2 NL
def bump1 (ws : List D) (p : Int) : List D := match ws[p.toNat]? with | some (.int v) => ws.set p.toNat (.int (v + 1)) | _ => ws
def bump (ws : List D) (g : List Int) : List D := g.foldl bump1 ws
def Ints (ws : List D) (g : List Int) : Prop := ∀ p ∈ g, 0 ≤ p ∧ ∃ v : Int, ws[p.toNat]? = some (.int v)
theorem bump1_at {ws : List D} {p v : Int} (h : ws[p.toNat]? = some (.int v)) : bump1 ws p = ws.set p.toNat (.int (v + 1)) := by unfold bump1; rw [h]
theorem bump1_len (ws : List D) (p : Int) : (bump1 ws p).length = ws.length := by unfold bump1; split <;> simp
theorem Ints.bump1 {ws : List D} {g : List Int} (h : Ints ws g) (p : Int) : Ints (bump1 ws p) g := fun q hq => by
  obtain ⟨h0, v, hv⟩ := h q hq
  refine ⟨h0, ?_⟩
  unfold NP.bump1
  split
  · rename_i u hu
    by_cases e : p.toNat = q.toNat
    · refine ⟨u + 1, ?_⟩
      rw [e, List.getElem?_set_self (by rw [← e]; exact (List.getElem?_eq_some_iff.mp hu).1)]
    · exact ⟨v, by rw [List.getElem?_set_ne e]; exact hv⟩
  · exact ⟨v, hv⟩
theorem Ints.foldl : ∀ {g2 : List Int} {ws : List D} {g : List Int}, Ints ws g → Ints (bump ws g2) g
  | [], _, _, h => h
  | p :: r, _, _, h => Ints.foldl (g2 := r) (h.bump1 p)
theorem bump_loop {body : SM} {lh : LH} {a b c d : Option D} (g : List Int) (ws : List D) (hI : Ints ws g)
    (hstep : ∀ (ws : List D) (p v : Int), 0 ≤ p → ws[p.toNat]? = some (.int v) → body [a, b, c, d, some (.loc lh.length), some (.int p)] (lh ++ [.lst ws]) = .nx [a, b, c, d, some (.loc lh.length), some (.int p)] (lh ++ [.lst (ws.set p.toNat (.int (v + 1)))])) (x : Option D) :
    ∃ x', forN (itT (g.map D.int)).nx (nmG 5) body (g.length + 1) 0 [a, b, c, d, some (.loc lh.length), x] (lh ++ [.lst ws]) = .nx [a, b, c, d, some (.loc lh.length), x'] (lh ++ [.lst (bump ws g)]) := by
  obtain ⟨e', l', p, q⟩ := forN_inv (nx := (itT (g.map D.int)).nx) (g := nmG 5) (body := body)
    (fun i e l => (∃ x, e = [a, b, c, d, some (.loc lh.length), x]) ∧ l = lh ++ [.lst (bump ws (g.take i))]) g.length
    (fun i e l hi I => by
      obtain ⟨⟨x, rfl⟩, rfl⟩ := I
      obtain ⟨h0, v, hv⟩ := (hI.foldl (g2 := g.take i)) g[i] (List.getElem_mem hi)
      refine ⟨.int g[i], _, _, ?_, .inl (hstep _ _ _ h0 hv), ⟨_, rfl⟩, ?_⟩
      · simp [itT, hi]
      · rw [List.take_succ_eq_append_getElem hi]
        unfold bump
        rw [List.foldl_append]
        show _ = lh ++ [Ob.lst (bump1 (bump ws (g.take i)) g[i])]
        rw [bump1_at hv]
        rfl)
    (fun e l I => by simp [itT])
    (g.length + 1) 0 [a, b, c, d, some (.loc lh.length), x] (lh ++ [.lst ws]) (by omega) (by omega) ⟨⟨x, rfl⟩, rfl⟩
  obtain ⟨⟨x', rfl⟩, rfl⟩ := q
  rw [List.take_length] at p
  exact ⟨x', p⟩
theorem lset {lh : LH} {ws ws2 : List D} : (lh ++ [Ob.lst ws]).set lh.length (.lst ws2) = lh ++ [.lst ws2] := by simp
theorem ixN_of {n : Nat} {p : Int} (h0 : 0 ≤ p) (h : p.toNat < n) : ixN n p = some p.toNat := by
  obtain ⟨j, rfl⟩ := Int.eq_ofNat_of_zero_le h0
  exact ixN_lt n j (by simpa using h)
theorem atI_of {a : Type} {xs : List a} {p : Int} {y : a} (h0 : 0 ≤ p) (h : xs[p.toNat]? = some y) : atI xs p = some y := by
  obtain ⟨j, rfl⟩ := Int.eq_ofNat_of_zero_le h0
  exact atI_nat (by simpa using h)
theorem step_l {lh : LH} {a b c d : Option D} (ws : List D) (p v : Int) (h0 : 0 ≤ p) (h : ws[p.toNat]? = some (.int v)) :
    (asS (opM addD (opM ixD (varM 4) (varM 5)) (conM (.int 1))) (subG (varM 4) (varM 5))) [a, b, c, d, some (.loc lh.length), some (.int p)] (lh ++ [.lst ws]) = .nx [a, b, c, d, some (.loc lh.length), some (.int p)] (lh ++ [.lst (ws.set p.toNat (.int (v + 1)))]) := by
  have hl := (List.getElem?_eq_some_iff.mp h).1
  simp [atI_of h0 h, ixN_of h0 hl]
theorem step_p {lh : LH} {a b c d : Option D} (ws : List D) (p v : Int) (h0 : 0 ≤ p) (h : ws[p.toNat]? = some (.int v)) :
    (augS (fun a b => a + b) (varM 4) (varM 5) (conM (.int 1))) [a, b, c, d, some (.loc lh.length), some (.int p)] (lh ++ [.lst ws]) = .nx [a, b, c, d, some (.loc lh.length), some (.int p)] (lh ++ [.lst (ws.set p.toNat (.int (v + 1)))]) := by
  have hl := (List.getElem?_eq_some_iff.mp h).1
  have e : augS.lh' (lh ++ [.lst ws]) lh.length p = some v := by
    unfold augS.lh'
    rw [if_pos h0]
    simp
    rw [h]
  simp [augS, e, ixN_of h0 hl]
end NP
set_option maxRecDepth 100000
set_option maxHeartbeats 4000000
/-! one moment older, whole. -/
namespace NP
open PySem PySem.Spec L2 NL
def stD3 (ms ws : List D) (os : List (List Int)) : D := .tup [.tup ms, .tup ws, .tup (os.map gD)]
theorem gD_nil : gD [] = .tup [] := rfl
theorem older_a {lh : LH} {ms ws : List D} {g : List Int} {r : List (List Int)} (hg : g ≠ []) (h1 : g.length ≤ 100) (hr : r.length ≤ 100) :
    l_older_state [stD3 ms ws (g :: r)] lh = .ok (stD3 ms ws ([] :: g :: r)) lh ∧ aged [stD3 ms ws (g :: r)] lh = .ok (stD3 ms ws ([] :: g :: r)) lh := by
  have h100 := line100
  have hsz : r.length + 1 + 1 ≤ sizeLine := by have : (200 : Nat) ≤ sizeLine := by decide
                                               omega
  have hq : 1 + (r.length + 1) ≤ sizeLine := by omega
  have hq2 : r.length ≤ 998 := by omega
  refine ⟨?_, ?_⟩
  · simp [hq, l_older_state, stD3, tupG_tup, consG, nilG, neD_g _ g h1, hg, addD, gD_nil]
  · simp [hq2, aged, stD3, tupG_tup, consG, nilG, neD_g _ g h1, hg, gD_nil, tupSM, starA, opn]
theorem older_b {lh : LH} {ms ws : List D} :
    l_older_state [stD3 ms ws [[]]] lh = .ok (stD3 ms ws [[]]) lh ∧ aged [stD3 ms ws [[]]] lh = .ok (stD3 ms ws [[]]) lh := by
  refine ⟨?_, ?_⟩
  · simp [l_older_state, stD3, tupG_tup, consG, nilG, neD_g _ [] (Nat.zero_le _)]
  · simp [aged, stD3, tupG_tup, consG, nilG, neD_g _ [] (Nat.zero_le _)]
end NP
set_option maxRecDepth 100000
set_option maxHeartbeats 4000000
/-! one moment older: the waits that stand last are taken up. -/
namespace NP
open PySem PySem.Spec L2 NL
theorem cut_mid {a : Type} (x y : a) (r : List a) : cutL (x :: (r ++ [y])) (some 1) (some (-1)) = r := by
  unfold cutL
  simp [HT.sIx]
  rw [show (-1 + ((r.length : Int) + 1 + 1)).toNat - 1 = r.length by omega, List.take_left']
  rfl
theorem cut_mid2 {a : Type} (x y : a) (r : List a) : cutL (x :: (r ++ [y])) (some 1) (some ((r.length : Int) + 1)) = r := by
  unfold cutL
  simp [HT.sIx]
  rw [if_neg (by omega), show r.length + 1 - 1 = r.length by omega, List.take_left']
  rfl
theorem atI_last {a : Type} (x y : a) (r : List a) : atI (x :: (r ++ [y])) (-1) = some y := by
  unfold atI
  simp [ixN]
  rw [if_pos (by omega)]
  rw [show (-1 + ((r.length : Int) + 1 + 1)).toNat = r.length + 1 by omega]
  simp
end NP
set_option maxRecDepth 100000
set_option maxHeartbeats 4000000
namespace NP
open PySem PySem.Spec L2 NL
theorem older_cp {lh : LH} {ms ws : List D} {g : List Int} {r : List (List Int)} (hI : Ints ws g) (hr : r.length ≤ 100) :
    aged [stD3 ms ws ([] :: (r ++ [g]))] lh = .ok (stD3 ms (bump ws g) (g :: r)) (lh ++ [.lst (bump ws g)]) := by
  have h100 := line100
  have hq : 1 + r.length ≤ sizeLine := by
    have : (200 : Nat) ≤ sizeLine := by decide
    omega
  obtain ⟨x', p⟩ := bump_loop (body := augS (fun a b => a + b) (varM 4) (varM 5) (conM (.int 1))) (lh := lh) (a := some (stD3 ms ws ([] :: (r ++ [g])))) (b := some (.tup ms)) (c := some (.tup ws)) (d := some (.tup (gD [] :: (r.map gD ++ [gD g])))) g ws hI (fun ws p v h0 h => step_p ws p v h0 h) none
  have hfu : (itT (g.map D.int)).fuel = g.length + 1 := by simp [itT]
  have e1 : ∀ l : LH, ixD (.tup (gD [] :: (r.map gD ++ [gD g]))) (.int (-1)) l = .ok (.tup (g.map D.int)) l := fun l => by
    rw [ixD_tup', atI_last]
    rfl
  have e2 : ∀ l : LH, slD (.tup (gD [] :: (r.map gD ++ [gD g]))) (some 1) (some (-1)) l = .ok (.tup (r.map gD)) l := fun l => by
    show Re.ok (D.tup (cutL (gD [] :: (r.map gD ++ [gD g])) (some 1) (some (-1)))) l = _
    rw [cut_mid]
  have e3 : ∀ l : LH, neD (gD []) (.tup []) l = .ok (.bl false) l := fun l => neD_g l [] (Nat.zero_le _)
  have e4 : stD3 ms ws ([] :: (r ++ [g])) = .tup [.tup ms, .tup ws, .tup (gD [] :: (r.map gD ++ [gD g]))] := by simp [stD3]
  rw [e4] at p ⊢
  have e6 : listD [.tup ws] lh = .ok (.loc lh.length) (lh ++ [.lst ws]) := rfl
  have e7 : tupleD [.loc lh.length] (lh ++ [.lst (bump ws g)]) = .ok (.tup (bump ws g)) (lh ++ [.lst (bump ws g)]) := by
    show (match sq (lh ++ [Ob.lst (bump ws g)]) (.loc lh.length) with | some xs => Re.ok (D.tup xs) (lh ++ [Ob.lst (bump ws g)]) | none => .bad) = _
    rw [sq_loc]
    simp
  have hn : ¬ ((r.length : Int) + 1 + 1 = 1) := by omega
  simp [aged, negM, tupG_tup, consG, nilG, e3, e1, e2, e6, e7, hn, hfu, p, addD, hq, stD3]
  rfl
end NP
set_option maxRecDepth 100000
set_option maxHeartbeats 4000000
namespace NP
open PySem PySem.Spec L2 NL
theorem atI_last2 {a : Type} (x y : a) (r : List a) : atI (x :: (r ++ [y])) ((r.length : Int) + 1) = some y := by
  rw [show ((r.length : Int) + 1) = ((r.length + 1 : Nat) : Int) by omega]
  exact atI_nat (by simp)
theorem atI_last3 {a : Type} {n : Nat} (x y : a) (r : List a) (h : r.length = n) : atI (x :: (r ++ [y])) ((n : Int) + 1) = some y := by subst h; exact atI_last2 x y r
theorem cut_mid3 {a : Type} {n : Nat} (x y : a) (r : List a) (h : r.length = n) : cutL (x :: (r ++ [y])) (some 1) (some ((n : Int) + 1)) = r := by subst h; exact cut_mid2 x y r
theorem older_cl {lh : LH} {ms ws : List D} {g : List Int} {r : List (List Int)} (hI : Ints ws g) (hr : r.length ≤ 100) :
    l_older_state [stD3 ms ws ([] :: (r ++ [g]))] lh = .ok (stD3 ms (bump ws g) (g :: r)) (lh ++ [.lst (bump ws g)]) := by
  have h100 := line100
  have hq : 1 + r.length ≤ sizeLine := by
    have : (200 : Nat) ≤ sizeLine := by decide
    omega
  obtain ⟨x', p⟩ := bump_loop (body := asS (opM addD (opM ixD (varM 4) (varM 5)) (conM (.int 1))) (subG (varM 4) (varM 5))) (lh := lh) (a := some (stD3 ms ws ([] :: (r ++ [g])))) (b := some (.tup ms)) (c := some (.tup ws)) (d := some (.tup (gD [] :: (r.map gD ++ [gD g])))) g ws hI (fun ws p v h0 h => step_l ws p v h0 h) none
  have hfu : (itT (g.map D.int)).fuel = g.length + 1 := by simp [itT]
  have e1 : ∀ l : LH, ixD (.tup (gD [] :: (r.map gD ++ [gD g]))) (.int ((r.length : Int) + 1)) l = .ok (.tup (g.map D.int)) l := fun l => by
    rw [ixD_tup', atI_last3 _ _ _ (by simp)]
    rfl
  have e2 : ∀ l : LH, slD (.tup (gD [] :: (r.map gD ++ [gD g]))) (some 1) (some ((r.length : Int) + 1)) l = .ok (.tup (r.map gD)) l := fun l => by
    show Re.ok (D.tup (cutL (gD [] :: (r.map gD ++ [gD g])) (some 1) (some ((r.length : Int) + 1)))) l = _
    rw [cut_mid3 _ _ _ (by simp)]
  have e3 : ∀ l : LH, neD (gD []) (.tup []) l = .ok (.bl false) l := fun l => neD_g l [] (Nat.zero_le _)
  have e4 : stD3 ms ws ([] :: (r ++ [g])) = .tup [.tup ms, .tup ws, .tup (gD [] :: (r.map gD ++ [gD g]))] := by simp [stD3]
  rw [e4] at p ⊢
  have e6 : listD [.tup ws] lh = .ok (.loc lh.length) (lh ++ [.lst ws]) := rfl
  have e7 : tupleD [.loc lh.length] (lh ++ [.lst (bump ws g)]) = .ok (.tup (bump ws g)) (lh ++ [.lst (bump ws g)]) := by
    show (match sq (lh ++ [Ob.lst (bump ws g)]) (.loc lh.length) with | some xs => Re.ok (D.tup xs) (lh ++ [Ob.lst (bump ws g)]) | none => .bad) = _
    rw [sq_loc]
    simp
  have e8 : ∀ l : LH, subD (.int ((r.length : Int) + 1 + 1)) (.int 1) l = .ok (.int ((r.length : Int) + 1)) l := fun l => by
    show Re.ok (D.int ((r.length : Int) + 1 + 1 - 1)) l = _
    rw [show (r.length : Int) + 1 + 1 - 1 = (r.length : Int) + 1 by omega]
  have hn : ¬ ((r.length : Int) + 1 + 1 = 1) := by omega
  simp [l_older_state, tupG_tup, consG, nilG, e3, e1, e2, e6, e7, e8, hn, hfu, p, addD, hq, stD3]
  rfl
end NP
set_option maxRecDepth 100000
set_option maxHeartbeats 4000000
/-! a part's wait. -/
namespace NP
open PySem PySem.Spec L2 NL
theorem l_wait_ok {w : D} {q : Int} (hw : w ∈ timedL) (lh : LH) : l_wait [.tup [w, .int q]] lh = .ok (.int q) (lh ++ [.lst timedL]) := by
  simp [timedL] at hw
  rcases hw with rfl | rfl | rfl | rfl | rfl | rfl <;> simp (decide := true) [l_wait, l_timed_ok, inD_loc, timedL, strsB, isS, PyData.strOk]
theorem wait_of_ok {w : D} {q : Int} (hw : w ∈ timedL) (lh : LH) : wait_of [.tup [w, .int q]] lh = .ok (.int q) lh := by
  simp [timedL] at hw
  rcases hw with rfl | rfl | rfl | rfl | rfl | rfl <;> simp (decide := true) [wait_of, is_timed, inD_tup, strsB, isS, PyData.strOk]
end NP
set_option maxRecDepth 100000
set_option maxHeartbeats 4000000
/-! a part that holds no timer: its wait. -/
namespace NP
open PySem PySem.Spec L2 NL
theorem l_wait_0 {p : D} {n : Int} (hp : PartD n p) (ht : ∀ w q, w ∈ timedL → p ≠ .tup [w, q]) (lh : LH) : l_wait [p] lh = .ok (.int 0) (lh ++ [.lst timedL]) := by
  cases hp with
  | timed w q h => exact absurd rfl (ht w _ h)
  | change => simp (decide := true) [l_wait, l_timed_ok, inD_loc, timedL, strsB, isS, PyData.strOk]
  | pick s _ => simp (decide := true) [l_wait, l_timed_ok, inD_loc, timedL, strsB, isS, PyData.strOk]
  | turn x y _ _ _ => simp (decide := true) [l_wait, l_timed_ok, inD_loc, timedL, strsB, isS, PyData.strOk]
theorem is_timed_ok {p : D} {n : Int} (hp : PartD n p) (lh : LH) : ∃ b, is_timed [p] lh = .ok (.bl b) lh ∧ (b = true ↔ ∃ w q, w ∈ timedL ∧ p = .tup [w, q]) := by
  cases hp with
  | timed w q h =>
    refine ⟨true, ?_, ⟨fun _ => ⟨w, _, h, rfl⟩, fun _ => rfl⟩⟩
    simp [timedL] at h
    rcases h with rfl | rfl | rfl | rfl | rfl | rfl <;> simp (decide := true) [is_timed, inD_tup, strsB, isS, PyData.strOk]
  | change => exact ⟨false, by simp (decide := true) [is_timed, inD_tup, strsB, isS, PyData.strOk], ⟨fun h => (nomatch h), fun ⟨w, q, _, e⟩ => by cases e⟩⟩
  | pick s _ => exact ⟨false, by simp (decide := true) [is_timed, inD_tup, strsB, isS, PyData.strOk], ⟨fun h => (nomatch h), fun ⟨w, q, h, e⟩ => by cases e; simp (decide := true) [timedL] at h⟩⟩
  | turn x y _ _ _ => exact ⟨false, by simp (decide := true) [is_timed, inD_tup, strsB, isS, PyData.strOk], ⟨fun h => (nomatch h), fun ⟨w, q, _, e⟩ => by cases e⟩⟩
end NP
set_option maxRecDepth 100000
set_option maxHeartbeats 4000000
/-! what comes of an item that comes, of a timer that rings: as functions. -/
namespace NP
open PySem PySem.Spec L2 NL
def tri (d : Re D) : D × D × Bool := match d with | .ok (.tup [m, o, .bl b]) _ => (m, o, b) | _ => (.non, .non, false)
def cameF (p m t : D) : D × D × Bool := tri (came [p, m, t] [])
def rangF (p m : D) : D × D × Bool := tri (rang [p, m] [])
theorem cameF_ok {p m t : D} {n : Int} (hp : PartD n p) (hm : MemP p m) (ht : ItemD t) :
    MemP p (cameF p m t).1 ∧ ((cameF p m t).2.1 = .non ∨ ItemD (cameF p m t).2.1) ∧ ((cameF p m t).2.2 = true → ∃ x, (cameF p m t).1 = .tup [.bl true, x]) ∧
    (∀ lh, ∃ l', l_came [p, m, t] lh = .ok (.tup [(cameF p m t).1, (cameF p m t).2.1, .bl (cameF p m t).2.2]) l' ∧ Gr lh l') ∧ ∀ lh, came [p, m, t] lh = .ok (.tup [(cameF p m t).1, (cameF p m t).2.1, .bl (cameF p m t).2.2]) lh := by
  obtain ⟨m', o, b, h1, h2, h3, h4, h5⟩ := came_ok hp hm ht
  have e : cameF p m t = (m', o, b) := by unfold cameF; rw [h5]; rfl
  rw [e]
  exact ⟨h1, h2, h3, h4, h5⟩
theorem rangF_ok {w x : D} {n : Int} (hw : w ∈ timedL) (hm : MemP (.tup [w, .int n]) (.tup [.bl true, x])) :
    MemP (.tup [w, .int n]) (rangF (.tup [w, .int n]) (.tup [.bl true, x])).1 ∧ ((rangF (.tup [w, .int n]) (.tup [.bl true, x])).2.1 = .non ∨ ItemD (rangF (.tup [w, .int n]) (.tup [.bl true, x])).2.1) ∧
    ((rangF (.tup [w, .int n]) (.tup [.bl true, x])).2.2 = true → ∃ y, (rangF (.tup [w, .int n]) (.tup [.bl true, x])).1 = .tup [.bl true, y]) ∧
    ∀ lh, l_rang [.tup [w, .int n], .tup [.bl true, x]] lh = .ok (.tup [(rangF (.tup [w, .int n]) (.tup [.bl true, x])).1, (rangF (.tup [w, .int n]) (.tup [.bl true, x])).2.1, .bl (rangF (.tup [w, .int n]) (.tup [.bl true, x])).2.2]) lh ∧
      rang [.tup [w, .int n], .tup [.bl true, x]] lh = .ok (.tup [(rangF (.tup [w, .int n]) (.tup [.bl true, x])).1, (rangF (.tup [w, .int n]) (.tup [.bl true, x])).2.1, .bl (rangF (.tup [w, .int n]) (.tup [.bl true, x])).2.2]) lh := by
  obtain ⟨m', o, b, h1, h2, h3, h4⟩ := rang_ok hw hm
  have e : rangF (.tup [w, .int n]) (.tup [.bl true, x]) = (m', o, b) := by unfold rangF; rw [(h4 []).2]; rfl
  rw [e]
  exact ⟨h1, h2, h3, h4⟩
end NP
set_option maxRecDepth 100000
set_option maxHeartbeats 4000000
/-! an item down a line: the twin of l_down's loop and of put_in's. -/
namespace NP
open PySem PySem.Spec L2 NL
structure MemsOk (ps ms : List D) : Prop where
  len : ms.length = ps.length
  at_ : ∀ (i : Nat) (p m : D), ps[i]? = some p → ms[i]? = some m → MemP p m
def downA (ps : List D) : Nat → Nat → List D → List D → D → List D × List D × D
  | 0, _, ms, st, t => (ms, st, t)
  | k + 1, i, ms, st, t => if isNon t = true then (ms, st, t) else
    downA ps k (i + 1) (ms.set i (cameF (ps.getD i .non) (ms.getD i .non) t).1) (st ++ if (cameF (ps.getD i .non) (ms.getD i .non) t).2.2 = true then [.int (i : Int)] else []) (cameF (ps.getD i .non) (ms.getD i .non) t).2.1
theorem MemsOk.set {ps ms : List D} {i : Nat} {p m : D} (h : MemsOk ps ms) (hp : ps[i]? = some p) (hm : MemP p m) : MemsOk ps (ms.set i m) :=
  ⟨by rw [List.length_set]; exact h.len, fun j q u hq hu => by
    by_cases e : i = j
    · subst e
      rw [hp] at hq
      cases hq
      have hl : i < ms.length := by rw [h.len]; exact (List.getElem?_eq_some_iff.mp hp).1
      rw [List.getElem?_set_self hl] at hu
      cases hu
      exact hm
    · rw [List.getElem?_set_ne e] at hu
      exact h.at_ j q u hq hu⟩
theorem downA_ok {ps : List D} (hps : ∀ p ∈ ps, PartD 3 p) : ∀ (k i : Nat) (ms st : List D) (t : D), i + k ≤ ps.length → MemsOk ps ms → (t = .non ∨ ItemD t) →
    MemsOk ps (downA ps k i ms st t).1 ∧ ((downA ps k i ms st t).2.2 = .non ∨ ItemD (downA ps k i ms st t).2.2)
  | 0, _, _, _, _, _, hm, ht => ⟨hm, ht⟩
  | k + 1, i, ms, st, t, hk, hm, ht => by
    unfold downA
    by_cases hn : isNon t = true
    · rw [if_pos hn]
      exact ⟨hm, ht⟩
    · rw [if_neg hn]
      have ht' : ItemD t := by
        rcases ht with rfl | h
        · exact absurd rfl hn
        · exact h
      have hi : i < ps.length := by omega
      have e1 : ps[i]? = some (ps.getD i .non) := by rw [List.getD_eq_getElem?_getD, List.getElem?_eq_getElem hi]; rfl
      have hi2 : i < ms.length := by rw [hm.len]; exact hi
      have e2 : ms[i]? = some (ms.getD i .non) := by rw [List.getD_eq_getElem?_getD, List.getElem?_eq_getElem hi2]; rfl
      obtain ⟨c1, c2, _⟩ := cameF_ok (hps _ (List.mem_of_getElem? e1)) (hm.at_ i _ _ e1 e2) ht'
      exact downA_ok hps k (i + 1) _ _ _ (by omega) (hm.set e1 c1) c2
end NP
set_option maxRecDepth 100000
set_option maxHeartbeats 4000000
/-! l_down: one step of its loop. -/
namespace NP
open PySem PySem.Spec L2 NL
theorem mulD_bl {l : LH} {m : Nat} {xs : List D} (k : Bool) (h : l[m]? = some (.lst xs)) (hx : xs.length ≤ 100) : mulD (.loc m) (.int (if k = true then 1 else 0)) l = .ok (.loc l.length) (l ++ [.lst (if k = true then xs else [])]) := by
  have h100 := line100
  cases k with
  | true =>
    have := mulD_at (l := l) 1 h (by omega) (by omega)
    simpa using this
  | false =>
    have := mulD_at (l := l) 0 h (by omega) (by omega)
    simpa using this
theorem mul_bl {mB mC : M} {e : LE} {L : LH} {x : D} {k : Bool} (h2 : mB e L = .ok x L) (h9 : mC e (L ++ [.lst [x]]) = .ok (.bl k) (L ++ [.lst [x]])) :
    opM mulD (lstM (consA mB (nilA))) (callM intD (consA mC (nilA))) e L = .ok (.loc (L.length + 1)) (L ++ [.lst [x], .lst (if k = true then [x] else [])]) := by
  have m := mulD_bl (l := L ++ [.lst [x]]) (m := L.length) (xs := [x]) k (by simp) (by simp)
  simp [h2, h9, m]
theorem plus_bl {mA mB mC : M} {e : LE} {L : LH} {S : Nat} {st : List D} {x : D} {k : Bool} (h7 : mA e L = .ok (.loc S) L) (h2 : mB e L = .ok x L) (h9 : mC e (L ++ [.lst [x]]) = .ok (.bl k) (L ++ [.lst [x]]))
    (hS : L[S]? = some (.lst st)) (hst : st.length ≤ 100) :
    opM addD mA (opM mulD (lstM (consA mB (nilA))) (callM intD (consA mC (nilA)))) e L = .ok (.loc (L.length + 2)) (L ++ [.lst [x], .lst (if k = true then [x] else []), .lst (st ++ if k = true then [x] else [])]) := by
  have hsz : (200 : Nat) ≤ sizeLine := by decide
  have hl : (if k = true then [x] else []).length ≤ 1 := by cases k <;> simp
  have m2 := addD_at (l := L ++ [.lst [x], .lst (if k = true then [x] else [])]) (n := S) (m := L.length + 1) (xs := st) (ys := if k = true then [x] else []) (get_app hS) (by simp) (by omega)
  have e1 := mul_bl h2 h9
  rw [opM_ap, h7, Re.bind_ok, e1, Re.bind_ok, m2]
  simp
def dnBody : SM := (seqS (asS (apM NP.l_came (consA (opM ixD (varM 5) (varM 2)) (consA (opM ixD (varM 6) (varM 2)) (consA (varM 3) (nilA))))) (tupG 3 (consG (subG (varM 6) (varM 2)) (consG (nmG 3) (consG (nmG 9) (nilG))))))
  (seqS (asS (opM addD (varM 7) (opM mulD (lstM (consA (varM 2) (nilA))) (callM intD (consA (varM 9) (nilA))))) (nmG 7))
  (asS (opM addD (varM 2) (conM (.int 1))) (nmG 2))))
structure DnAt (l0 l : LH) (H P F S : Nat) (hs ps ms st : List D) : Prop where
  gr : Gr l0 l
  h : l[H]? = some (.lst hs)
  p : l[P]? = some (.lst ps)
  f : l[F]? = some (.lst ms)
  s : l[S]? = some (.lst st)
  f0 : l0.length ≤ F
  fh : F ≠ H
  fp : F ≠ P
  fs : F ≠ S
theorem dn_step {l0 l : LH} {H P F S i : Nat} {hs ps ms st : List D} {t b mm hh : D} {x9 : Option D} (I : DnAt l0 l H P F S hs ps ms st) (hps : ∀ p ∈ ps, PartD 3 p) (hm : MemsOk ps ms) (ht : ItemD t) (hi : i < ps.length) (hst : st.length ≤ 100) :
    ∃ l' S' x', dnBody [some b, some mm, some (.int (i : Int)), some t, some (.loc H), some (.loc P), some (.loc F), some (.loc S), some hh, x9] l =
      .nx [some b, some mm, some (.int ((i + 1 : Nat) : Int)), some (cameF (ps.getD i .non) (ms.getD i .non) t).2.1, some (.loc H), some (.loc P), some (.loc F), some (.loc S'), some hh, x'] l' ∧
      DnAt l0 l' H P F S' hs ps (ms.set i (cameF (ps.getD i .non) (ms.getD i .non) t).1) (st ++ if (cameF (ps.getD i .non) (ms.getD i .non) t).2.2 = true then [.int (i : Int)] else []) := by
  have hi2 : i < ms.length := by rw [hm.len]; exact hi
  have e1 : ps[i]? = some (ps.getD i .non) := by rw [List.getD_eq_getElem?_getD, List.getElem?_eq_getElem hi]; rfl
  have e2 : ms[i]? = some (ms.getD i .non) := by rw [List.getD_eq_getElem?_getD, List.getElem?_eq_getElem hi2]; rfl
  obtain ⟨c1, c2, c3, c4, _⟩ := cameF_ok (hps _ (List.mem_of_getElem? e1)) (hm.at_ i _ _ e1 e2) ht
  generalize cameF (ps.getD i .non) (ms.getD i .non) t = R at *
  generalize ps.getD i .non = pp at *
  generalize ms.getD i .non = mi at *
  obtain ⟨m', o, k⟩ := R
  obtain ⟨l1, a1, g1⟩ := c4 l
  dsimp only at *
  have hF1 : l1[F]? = some (.lst ms) := g1.get I.f id
  have q1 : atI ps (i : Int) = some pp := atI_nat e1
  have q2 : atI ms (i : Int) = some mi := atI_nat e2
  have q3 : ixN ms.length (i : Int) = some i := ixN_lt _ _ hi2
  have hset : ∀ (n : Nat) (ob : Ob), n ≠ F → l1[n]? = some ob → (l1.set F (.lst (ms.set i m')))[n]? = some ob := fun n ob hn h => by rw [List.getElem?_set_ne (Ne.symm hn)]; exact h
  have hfl : F < l1.length := (List.getElem?_eq_some_iff.mp hF1).1
  have hSl : S < l1.length := (List.getElem?_eq_some_iff.mp (g1.get I.s id)).1
  have s1 : asS (apM NP.l_came (consA (opM ixD (varM 5) (varM 2)) (consA (opM ixD (varM 6) (varM 2)) (consA (varM 3) (nilA))))) (tupG 3 (consG (subG (varM 6) (varM 2)) (consG (nmG 3) (consG (nmG 9) (nilG)))))
      [some b, some mm, some (.int (i : Int)), some t, some (.loc H), some (.loc P), some (.loc F), some (.loc S), some hh, x9] l =
      .nx [some b, some mm, some (.int (i : Int)), some o, some (.loc H), some (.loc P), some (.loc F), some (.loc S), some hh, some (.bl k)] (l1.set F (.lst (ms.set i m'))) := by
    simp [I.p, I.f, q1, q2, a1, tupG_tup, hF1, q3]
  have hL := hset
  have hLS := hset S _ (Ne.symm I.fs) (g1.get I.s id)
  have hLH := hset H _ (Ne.symm I.fh) (g1.get I.h id)
  have hLP := hset P _ (Ne.symm I.fp) (g1.get I.p id)
  have hLF : (l1.set F (.lst (ms.set i m')))[F]? = some (.lst (ms.set i m')) := by rw [List.getElem?_set_self hfl]
  have hLl : (l1.set F (.lst (ms.set i m'))).length = l1.length := by simp
  have hLg : Gr l0 (l1.set F (.lst (ms.set i m'))) := ⟨by rw [hLl]; exact Nat.le_trans I.gr.len g1.len, fun n hn hp => by
    rw [List.getElem?_set_ne (by have := I.f0; omega), g1.same n (Nat.lt_of_lt_of_le hn I.gr.len) hp]
    exact I.gr.same n hn hp⟩
  clear hset hL a1
  generalize l1.set F (.lst (ms.set i m')) = L at *
  have s2 := plus_bl (mA := varM 7) (mB := varM 2) (mC := varM 9) (e := [some b, some mm, some (.int (i : Int)), some o, some (.loc H), some (.loc P), some (.loc F), some (.loc S), some hh, some (.bl k)]) (L := L) (S := S) (st := st) (x := .int (i : Int)) (k := k) (by simp) (by simp) (by simp) hLS hst
  refine ⟨L ++ [.lst [.int (i : Int)], .lst (if k = true then [.int (i : Int)] else []), .lst (st ++ if k = true then [.int (i : Int)] else [])], L.length + 2, some (.bl k), ?_, ?_⟩
  rotate_left
  · exact ⟨hLg.trans (.app _ _), get_app hLH, get_app hLP, get_app hLF, by simp, I.f0, I.fh, I.fp, by omega⟩
  · unfold dnBody
    rw [seqS_ap, s1, bd_nx, seqS_ap, asS_ap, s2]
    simp
end NP
set_option maxRecDepth 100000
set_option maxHeartbeats 4000000
/-! the line of each place; l_down whole. -/
namespace NP
open PySem PySem.Spec L2 NL
def offN (yss : List (List D)) (r : Nat) : Nat := (yss.take r).flatten.length
theorem offN_0 (yss : List (List D)) : offN yss 0 = 0 := rfl
theorem offN_cons (y : List D) (yss : List (List D)) (r : Nat) : offN (y :: yss) (r + 1) = y.length + offN yss r := by
  unfold offN
  rw [List.take_succ_cons, List.flatten_cons, List.length_append]
theorem offN_all (yss : List (List D)) : offN yss yss.length = yss.flatten.length := by unfold offN; rw [List.take_length]
theorem offN_succ (yss : List (List D)) (r : Nat) (h : r < yss.length) : offN yss (r + 1) = offN yss r + yss[r].length := by
  unfold offN
  rw [List.take_succ_eq_append_getElem h, List.flatten_append, List.length_append]
  simp
theorem offN_mono (yss : List (List D)) : ∀ {r s : Nat}, r ≤ s → offN yss r ≤ offN yss s := by
  intro r s h
  induction h with
  | refl => exact Nat.le_refl _
  | @step m _ ih =>
    refine Nat.le_trans ih ?_
    by_cases hm : m < yss.length
    · rw [offN_succ _ _ hm]; omega
    · unfold offN
      rw [List.take_of_length_le (by omega), List.take_of_length_le (by omega)]
      exact Nat.le_refl _
theorem offN_le (yss : List (List D)) (r : Nat) : offN yss r ≤ yss.flatten.length := by
  by_cases h : r ≤ yss.length
  · rw [← offN_all]; exact offN_mono yss h
  · unfold offN; rw [List.take_of_length_le (by omega)]; exact Nat.le_refl _
theorem homes_get : ∀ (yss : List (List D)) (i0 r j : Nat), r < yss.length → offN yss r ≤ j → j < offN yss (r + 1) → (homesF i0 yss)[j]? = some (.int ((i0 + r : Nat) : Int))
  | [], _, _, _, h, _, _ => absurd h (Nat.not_lt_zero _)
  | y :: t, i0, 0, j, _, _, h2 => by
    rw [offN_cons, offN_0] at h2
    show (List.replicate y.length (D.int (i0 : Int)) ++ homesF (i0 + 1) t)[j]? = _
    rw [List.getElem?_append_left (by rw [List.length_replicate]; omega), List.getElem?_replicate, if_pos (by omega)]
    rfl
  | y :: t, i0, r + 1, j, h, h1, h2 => by
    rw [offN_cons] at h1 h2
    show (List.replicate y.length (D.int (i0 : Int)) ++ homesF (i0 + 1) t)[j]? = _
    rw [List.getElem?_append_right (by rw [List.length_replicate]; omega), List.length_replicate, homes_get t (i0 + 1) r (j - y.length) (by simpa using h) (by omega) (by omega)]
    congr 3
    omega
theorem homes_row : ∀ (yss : List (List D)) (j : Nat), j < yss.flatten.length → ∃ r, r < yss.length ∧ offN yss r ≤ j ∧ j < offN yss (r + 1)
  | [], j, h => absurd h (Nat.not_lt_zero _)
  | y :: t, j, h => by
    rw [List.flatten_cons, List.length_append] at h
    by_cases hj : j < y.length
    · exact ⟨0, Nat.succ_pos _, Nat.zero_le _, by rw [offN_cons, offN_0]; omega⟩
    · obtain ⟨r, h1, h2, h3⟩ := homes_row t (j - y.length) (by omega)
      exact ⟨r + 1, Nat.succ_lt_succ h1, by rw [offN_cons]; omega, by rw [offN_cons]; omega⟩
def outL (o : D) (r : Nat) : List D := match o with | .tup [x, q] => [.tup [x, q, .int (r : Int)]] | _ => []
def dnTest : MT := (andT (blT (opM isntD (varM 3) (conM .non))) (andT (blT (opM ltD (varM 2) (callM lenD (consA (varM 5) (nilA))))) (blT (opM eqD (opM ixD (varM 4) (varM 2)) (varM 8)))))
theorem item_tup {t : D} (h : ItemD t) : ∃ x q, t = .tup [x, q] := by
  obtain ⟨s, q, _, rfl⟩ := h
  exact ⟨_, _, rfl⟩
theorem downA_non (ps : List D) (k i : Nat) (ms st : List D) : downA ps k i ms st .non = (ms, st, .non) := by
  cases k with
  | zero => rfl
  | succ k => unfold downA; exact if_pos rfl
theorem dn_loop {yss : List (List D)} {b mm : D} {r : Nat} (hps : ∀ p ∈ yss.flatten, PartD 3 p) (hr : r < yss.length) (h16 : yss.flatten.length ≤ 16) :
    ∀ (k f i : Nat) (l0 l : LH) (H P F S : Nat) (ms st : List D) (t : D) (x9 : Option D), k < f → i + k = offN yss (r + 1) → offN yss r ≤ i → MemsOk yss.flatten ms → (t = .non ∨ ItemD t) → st.length + k ≤ 100 →
    DnAt l0 l H P F S (homesF 0 yss) yss.flatten ms st →
    ∃ l' S' i' x', whN dnTest dnBody f [some b, some mm, some (.int (i : Int)), some t, some (.loc H), some (.loc P), some (.loc F), some (.loc S), some (.int (r : Int)), x9] l =
      .nx [some b, some mm, some i', some (downA yss.flatten k i ms st t).2.2, some (.loc H), some (.loc P), some (.loc F), some (.loc S'), some (.int (r : Int)), x'] l' ∧
      DnAt l0 l' H P F S' (homesF 0 yss) yss.flatten (downA yss.flatten k i ms st t).1 (downA yss.flatten k i ms st t).2.1
  | k, 0, _, _, _, _, _, _, _, _, _, _, _, h, _, _, _, _, _, _ => absurd h (Nat.not_lt_zero _)
  | 0, f + 1, i, l0, l, H, P, F, S, ms, st, t, x9, _, hk, hi, hm, ht, hst, I => by
    have htest : dnTest [some b, some mm, some (.int (i : Int)), some t, some (.loc H), some (.loc P), some (.loc F), some (.loc S), some (.int (r : Int)), x9] l = .ok false l := by
      rcases ht with rfl | ht
      · simp [dnTest]
      · obtain ⟨x, q, rfl⟩ := item_tup ht
        by_cases hn : i < yss.flatten.length
        · obtain ⟨r2, a1, a2, a3⟩ := homes_row yss i hn
          have hrr : r2 ≠ r := fun z => by subst z; omega
          have hg : atI (homesF 0 yss) (i : Int) = some (.int (r2 : Int)) := atI_nat (by rw [homes_get yss 0 r2 i a1 a2 a3, Nat.zero_add])
          have : ¬ (r2 : Int) = (r : Int) := by omega
          simp [dnTest, I.p, I.h, hn, hg, this]
        · have : ¬ (i : Int) < (yss.flatten.length : Int) := by omega
          simp only [List.length_flatten] at this
          simp [dnTest, I.p, this]
    refine ⟨l, S, .int (i : Int), x9, ?_, I⟩
    unfold whN
    rw [htest]
    rfl
  | k + 1, f + 1, i, l0, l, H, P, F, S, ms, st, t, x9, hf, hk, hi, hm, ht, hst, I => by
    rcases ht with rfl | ht
    · rw [downA_non]
      refine ⟨l, S, .int (i : Int), x9, ?_, I⟩
      unfold whN
      have htest : dnTest [some b, some mm, some (.int (i : Int)), some .non, some (.loc H), some (.loc P), some (.loc F), some (.loc S), some (.int (r : Int)), x9] l = .ok false l := by simp [dnTest]
      rw [htest]
      rfl
    · have hn : i < yss.flatten.length := by have := offN_le yss (r + 1); omega
      have hnn : ¬ isNon t = true := by obtain ⟨x, q, rfl⟩ := item_tup ht; exact fun h => nomatch h
      have hg : atI (homesF 0 yss) (i : Int) = some (.int (r : Int)) := atI_nat (by rw [homes_get yss 0 r i hr hi (by omega), Nat.zero_add])
      have htest : dnTest [some b, some mm, some (.int (i : Int)), some t, some (.loc H), some (.loc P), some (.loc F), some (.loc S), some (.int (r : Int)), x9] l = .ok true l := by
        obtain ⟨x, q, rfl⟩ := item_tup ht
        have hn' : (i : Int) < (yss.flatten.length : Int) := by omega
        simp only [List.length_flatten] at hn'
        simp [dnTest, I.p, I.h, hn', hg]
      have hi2 : i < ms.length := by rw [hm.len]; exact hn
      have e1 : yss.flatten[i]? = some (yss.flatten.getD i .non) := by rw [List.getD_eq_getElem?_getD, List.getElem?_eq_getElem hn]; rfl
      have e2 : ms[i]? = some (ms.getD i .non) := by rw [List.getD_eq_getElem?_getD, List.getElem?_eq_getElem hi2]; rfl
      obtain ⟨c1, c2, _⟩ := cameF_ok (hps _ (List.mem_of_getElem? e1)) (hm.at_ i _ _ e1 e2) ht
      obtain ⟨l1, S1, x1, p1, I1⟩ := dn_step (b := b) (mm := mm) (hh := .int (r : Int)) (x9 := x9) I hps hm ht hn (by omega)
      obtain ⟨l2, S2, i2, x2, p2, I2⟩ := dn_loop (b := b) (mm := mm) hps hr h16 k f (i + 1) l0 l1 H P F S1 _ _ _ x1 (by omega) (by omega) (by omega) (hm.set e1 c1) c2 (by
        rw [List.length_append]
        have : (if (cameF (yss.flatten.getD i .non) (ms.getD i .non) t).2.2 = true then [D.int (i : Int)] else []).length ≤ 1 := by split <;> simp
        omega) I1
      have ed : downA yss.flatten (k + 1) i ms st t = downA yss.flatten k (i + 1) (ms.set i (cameF (yss.flatten.getD i .non) (ms.getD i .non) t).1) (st ++ if (cameF (yss.flatten.getD i .non) (ms.getD i .non) t).2.2 = true then [.int (i : Int)] else []) (cameF (yss.flatten.getD i .non) (ms.getD i .non) t).2.1 := by
        conv => lhs; unfold downA
        rw [if_neg hnn]
      rw [ed]
      refine ⟨l2, S2, i2, x2, ?_, I2⟩
      unfold whN
      rw [htest]
      show (dnBody _ _).lp _ = _
      rw [p1]
      exact p2
theorem l_down_ok {lh : LH} {b t : D} {yss : List (List D)} {ms : List D} {start r : Nat} (N : NetAt lh b yss) (hm : MemsOk yss.flatten ms) (ht : ItemD t) (hr : r < yss.length) (h1 : offN yss r ≤ start) (h2 : start < offN yss (r + 1)) :
    ∃ S O l', l_down [b, .tup ms, .int (start : Int), t] lh = .ok (.tup [.tup (downA yss.flatten (offN yss (r + 1) - start) start ms [] t).1, .loc S, .loc O]) l' ∧ Gr lh l' ∧
      l'[S]? = some (.lst (downA yss.flatten (offN yss (r + 1) - start) start ms [] t).2.1) ∧ l'[O]? = some (.lst (outL (downA yss.flatten (offN yss (r + 1) - start) start ms [] t).2.2 r)) := by
  obtain ⟨H, lA, a1, a2, a3, a4⟩ := l_homes_ok N
  have NA : NetAt lA b yss := N.mono fun n o h => a2.get h id
  have b1 := l_parts_ok NA
  have h16 := N.n16
  have hps : ∀ p ∈ yss.flatten, PartD 3 p := fun p hp => by
    obtain ⟨ys, hy, hp⟩ := List.mem_flatten.mp hp
    exact (N.r4 ys hy).2 p hp
  have hHl := (List.getElem?_eq_some_iff.mp a3).1
  have hn : start < yss.flatten.length := by have := offN_le yss (r + 1); omega
  have hg : atI (homesF 0 yss) (start : Int) = some (.int (r : Int)) := atI_nat (by rw [homes_get yss 0 r start hr h1 h2, Nat.zero_add])
  have hlen := homesF_len yss 0
  have I : DnAt lh (lA ++ [.lst [], .lst yss.flatten] ++ [.lst ms, .lst []]) H (lA.length + 1) (lA.length + 2) (lA.length + 3) (homesF 0 yss) yss.flatten ms [] :=
    ⟨a2.trans ((Ge.app _ _).trans (.app _ _)), get_app (get_app a3), by simp, by simp, by simp, by have := a2.len; omega, by omega, by omega, by omega⟩
  obtain ⟨l', S', i', x', p1, I1⟩ := dn_loop (b := b) (mm := .tup ms) hps hr h16 (offN yss (r + 1) - start) fuel0 start lh _ H (lA.length + 1) (lA.length + 2) (lA.length + 3) ms [] t none (by have := offN_le yss (r + 1); unfold fuel0; omega) (by omega) h1 hm (.inr ht) (by have := offN_le yss (r + 1); simp; omega) I
  have ha := downA_ok hps (offN yss (r + 1) - start) start ms [] t (by have := offN_le yss (r + 1); omega) hm (.inr ht)
  generalize downA yss.flatten (offN yss (r + 1) - start) start ms [] t = A at *
  obtain ⟨m2, s2, t2⟩ := A
  dsimp only at *
  have hlm : listD [.tup ms] = fun l => .ok (.loc l.length) (l ++ [.lst ms]) := rfl
  have hn' : (start : Int) < ((homesF 0 yss).length : Int) := by rw [hlen]; omega
  have htup : tupleD [.loc (lA.length + 2)] l' = .ok (.tup m2) l' := by
    show (match sq l' (.loc (lA.length + 2)) with | some xs => Re.ok (D.tup xs) l' | none => .bad) = _
    rw [sq_loc, I1.f]
  have hwh : ∀ e, whS fuel0 dnTest dnBody e = fun l => whN dnTest dnBody fuel0 e l := fun e => rfl
  have e0 : l_down = fnM 10 (
    seqS (parS 4 5 (consA (apM NP.l_homes (consA (varM 0) (nilA))) (consA (apM NP.l_parts (consA (varM 0) (nilA))) (nilA))))
    (seqS (parS 6 7 (consA (callM listD (consA (varM 1) (nilA))) (consA (lstM (nilA)) (nilA))))
    (seqS (asS (ifM (blT (opM ltD (varM 2) (callM lenD (consA (varM 4) (nilA))))) (opM ixD (varM 4) (varM 2)) (conM (.int 0))) (nmG 8))
    (seqS (whS fuel0 dnTest dnBody)
    (rtS (tupM (consA (callM tupleD (consA (varM 6) (nilA))) (consA (varM 7) (consA (ifM (blT (opM isD (varM 3) (conM .non))) (lstM (nilA)) (lstM (consA (tupM (consA (opM ixD (varM 3) (conM (.int 0))) (consA (opM ixD (varM 3) (conM (.int 1))) (consA (varM 8) (nilA))))) (nilA)))) (nilA)))))))))) := rfl
  have hS := I1.s
  refine ⟨S', l'.length, l' ++ [.lst (outL t2 r)], ?_, I1.gr.trans (.app _ _), get_app hS, by simp⟩
  rw [e0]
  simp only [List.append_assoc, List.cons_append, List.nil_append] at p1
  rcases ha.2 with rfl | hit
  · simp [a1, b1, hlm, get_app a3, hn', hg, hwh, p1, htup, outL]
  · obtain ⟨x, q, rfl⟩ := item_tup hit
    simp [a1, b1, hlm, get_app a3, hn', hg, hwh, p1, htup, outL]
end NP
set_option maxRecDepth 100000
set_option maxHeartbeats 4000000
/-! comprehensions that drop some of their items; slices; the program's own net. -/
namespace NP
open PySem PySem.Spec L2 NL
theorem lcN_xs {A : Type} {nx : Nat → LH → Option (Option D)} {g : TM} {t : MT} {m : M} {e : LE} {base : LH} (xs : List A) (hn : xs.length ≤ 1000) (keep : A → Bool) (f : A → D)
    (hstep : ∀ (i : Nat) (x : A) (lh : LH), xs[i]? = some x → Gr base lh → ∃ d e1 l2, nx i lh = some (some d) ∧ g d e lh = .nx e1 lh ∧ t e1 lh = .ok (keep x) l2 ∧ Gr lh l2 ∧ (keep x = true → ∃ l3, m e1 l2 = .ok (f x) l3 ∧ Gr l2 l3))
    (hend : ∀ lh, Gr base lh → nx xs.length lh = some none) :
    ∀ (k i : Nat) (lh : LH), i + k = xs.length → Gr base lh → lh[base.length]? = some (.lst (((xs.take i).filter keep).map f)) →
    ∃ lh', lcN nx g t m base.length e (k + 1) i lh = .ok (.loc base.length) lh' ∧ Gr base lh' ∧ lh'[base.length]? = some (.lst ((xs.filter keep).map f))
  | 0, i, lh, hi, hg, hb => by
    have : i = xs.length := by omega
    subst this
    refine ⟨lh, ?_, hg, by rwa [List.take_length] at hb⟩
    unfold lcN
    rw [hend lh hg]
  | k + 1, i, lh, hi, hg, hb => by
    have hlt : i < xs.length := by omega
    obtain ⟨d, e1, l2, a1, a2, a3, a4, a5⟩ := hstep i xs[i] lh (List.getElem?_eq_getElem hlt) hg
    have et : xs.take (i + 1) = xs.take i ++ [xs[i]] := List.take_succ_eq_append_getElem hlt
    unfold lcN
    rw [a1]
    dsimp only
    rw [a2]
    dsimp only
    cases hk : keep xs[i] with
    | false =>
      rw [a3, hk]
      exact lcN_xs xs hn keep f hstep hend k (i + 1) l2 (by omega) (hg.trans a4) (by rw [et, List.filter_append, List.filter_cons_of_neg (by rw [hk]; exact Bool.false_ne_true), List.filter_nil, List.append_nil]; exact a4.get hb id)
    | true =>
      obtain ⟨l3, b1, b2⟩ := a5 hk
      rw [a3, hk]
      dsimp only
      rw [b1]
      dsimp only
      have hb3 := b2.get (a4.get hb id) id
      rw [hb3]
      dsimp only
      have hlen : (((xs.take i).filter keep).map f).length ≤ 1000 := by
        rw [List.length_map]
        have h1 := List.length_filter_le keep (xs.take i)
        have h2 : (xs.take i).length ≤ xs.length := by rw [List.length_take]; omega
        omega
      rw [if_pos (by unfold sizeLine; omega)]
      refine lcN_xs xs hn keep f hstep hend k (i + 1) _ (by omega) ?_ ?_
      · refine ⟨?_, fun n hn hp => ?_⟩
        · rw [List.length_set]
          exact ((hg.trans a4).trans b2).len
        · rw [List.getElem?_set_ne (by omega)]
          exact ((hg.trans a4).trans b2).same n hn hp
      · rw [List.getElem?_set_self (List.getElem?_eq_some_iff.mp hb3).1, et, List.filter_append, List.filter_cons_of_pos hk, List.filter_nil, List.map_append]
        rfl
theorem lcM_xs {A : Type} {mi : MI} {g : TM} {t : MT} {m : M} {own : List Nat} {e : LE} {lh l : LH} {it : ItD} (h : mi e lh = .ok it l) (xs : List A) (hn : xs.length ≤ 1000) (hf : it.fuel = xs.length + 1) (keep : A → Bool) (f : A → D)
    (hstep : ∀ (i : Nat) (x : A) (lh : LH), xs[i]? = some x → Gr l lh → ∃ d e1 l2, it.nx i lh = some (some d) ∧ g d (wipeD e own) lh = .nx e1 lh ∧ t e1 lh = .ok (keep x) l2 ∧ Gr lh l2 ∧ (keep x = true → ∃ l3, m e1 l2 = .ok (f x) l3 ∧ Gr l2 l3))
    (hend : ∀ lh, Gr l lh → it.nx xs.length lh = some none) :
    ∃ lh', lcM mi g t m own e lh = .ok (.loc l.length) lh' ∧ Gr l lh' ∧ lh'[l.length]? = some (.lst ((xs.filter keep).map f)) := by
  obtain ⟨lh', a, b, c⟩ := lcN_xs xs hn keep f hstep hend xs.length 0 (l ++ [.lst []]) (by omega) (.app _ _) (by simp)
  refine ⟨lh', ?_, b, c⟩
  unfold lcM
  rw [h, Re.bind_ok, hf]
  exact a
theorem itR_nx {n i : Nat} {l : LH} (h : i < n) : (itR 0 n).nx i l = some (some (.int (i : Int))) := by simp [itR, h]
theorem itR_end {n : Nat} {l : LH} : (itR 0 n).nx n l = some none := by simp [itR]
theorem itL_nx {n i : Nat} {l : LH} {xs : List D} (h : l[n]? = some (.lst xs)) : (itL (.loc n) xs).nx i l = some xs[i]? := by simp [itL, h]
theorem itT_nx {i : Nat} {l : LH} {xs : List D} : (itT xs).nx i l = some xs[i]? := rfl
theorem seqI_loc {ma : M} {e : LE} {lh l : LH} {n : Nat} {xs : List D} (h : ma e lh = .ok (.loc n) l) (hn : l[n]? = some (.lst xs)) : seqI ma e lh = .ok (itL (.loc n) xs) l := by
  rw [seqI_ap, h, Re.bind_ok]
  simp [hn]
theorem seqI_tup {ma : M} {e : LE} {lh l : LH} {xs : List D} (h : ma e lh = .ok (.tup xs) l) : seqI ma e lh = .ok (itT xs) l := by
  rw [seqI_ap, h, Re.bind_ok]
theorem range_get {n i x : Nat} (h : (List.range n)[i]? = some x) : i < n ∧ x = i := by
  obtain ⟨h1, h2⟩ := List.getElem?_eq_some_iff.mp h
  simp at h1 h2
  exact ⟨h1, h2.symm⟩
theorem cutL_from {a : Type} {xs : List a} {d : Nat} (h : d ≤ xs.length) : cutL xs (some (d : Int)) none = xs.drop d := by
  unfold cutL
  rw [HT.sIx_nat, HT.sIx_none, Nat.min_eq_left h]
  exact List.take_of_length_le (by rw [List.length_drop]; omega)
theorem cutL_to {a : Type} {xs : List a} {d : Nat} (h : d ≤ xs.length) : cutL xs none (some (d : Int)) = xs.take d := by
  unfold cutL
  rw [HT.sIx_nat, HT.sIx_none, Nat.min_eq_left h]
  simp
theorem range_flt : ∀ (a n b : Nat), a ≤ b → b ≤ n → (List.range n).filter (fun j => decide (a ≤ j ∧ j < b)) = List.range' a (b - a)
  | a, 0, b, h1, h2 => by
    have : b = 0 := by omega
    subst this
    simp
  | a, n + 1, b, h1, h2 => by
    rw [List.range_succ, List.filter_append]
    by_cases hb : b = n + 1
    · subst hb
      by_cases ha : a = n + 1
      · subst ha
        rw [List.filter_eq_nil_iff.mpr (fun x hx => by have := List.mem_range.mp hx; rw [decide_eq_true_iff]; omega), Nat.sub_self]
        simp
      · have e1 : (List.range n).filter (fun j => decide (a ≤ j ∧ j < n + 1)) = (List.range n).filter (fun j => decide (a ≤ j ∧ j < n)) := List.filter_congr (fun x hx => by have := List.mem_range.mp hx; exact decide_eq_decide.mpr ⟨fun h => ⟨h.1, this⟩, fun h => ⟨h.1, by omega⟩⟩)
        rw [e1, range_flt a n n (by omega) (by omega), List.filter_cons_of_pos (by simp; omega), List.filter_nil, show n + 1 - a = (n - a) + 1 by omega, List.range'_concat]
        congr 2
        omega
    · rw [range_flt a n b h1 (by omega), List.filter_cons_of_neg (by simp; omega), List.filter_nil, List.append_nil]
/-! ### the program's own net -/
structure InsAt (c : CA) (lh : LH) (N LL PL HL : Nat) (yss : List (List D)) : Prop where
  o : ∃ fs, lh[N]? = some (.ins (c "Net") fs) ∧ fs.lookup ("line_list" : Str) = some (.loc LL) ∧ fs.lookup ("part_list" : Str) = some (.loc PL) ∧ fs.lookup ("homes" : Str) = some (.loc HL) ∧ fs.lookup ("place_of" : Str) = none
  ll : ∃ ds, lh[LL]? = some (.lst ds) ∧ RowsAt lh ds yss
  pl : lh[PL]? = some (.lst yss.flatten)
  hl : lh[HL]? = some (.lst (homesF 0 yss))
  n4 : yss.length ≤ 4
  r4 : ∀ ys ∈ yss, ys.length ≤ 4 ∧ ∀ p ∈ ys, PartD 3 p
theorem InsAt.mono {c : CA} {lh l : LH} {N LL PL HL : Nat} {yss : List (List D)} (I : InsAt c lh N LL PL HL yss) (h : Gr lh l) : InsAt c l N LL PL HL yss :=
  ⟨let ⟨fs, a, b⟩ := I.o; ⟨fs, h.get a id, b⟩, let ⟨ds, a, r⟩ := I.ll; ⟨ds, h.get a id, r.mono fun _ _ z => h.get z id⟩, h.get I.pl id, h.get I.hl id, I.n4, I.r4⟩
theorem InsAt.n16 {c : CA} {lh : LH} {N LL PL HL : Nat} {yss : List (List D)} (I : InsAt c lh N LL PL HL yss) : yss.flatten.length ≤ 16 := by
  have := flat_le fun ys hy => (I.r4 ys hy).1
  have := I.n4
  omega
theorem InsAt.part {c : CA} {lh : LH} {N LL PL HL : Nat} {yss : List (List D)} (I : InsAt c lh N LL PL HL yss) : ∀ p ∈ yss.flatten, PartD 3 p := fun p hp => by
  obtain ⟨ys, hy, hp⟩ := List.mem_flatten.mp hp
  exact (I.r4 ys hy).2 p hp
theorem fld_of {C : Addr} {f : Str} {N : Nat} {lh : LH} {fs : List (Str × D)} {z : D} (h : lh[N]? = some (.ins C fs)) (hz : fs.lookup f = some z) : fldD C f (.loc N) lh = .ok z lh := by
  have e : insAt lh (.loc N) = some (C, fs) := by
    show (match lh[N]? with | some (.ins C fs) => some (C, fs) | _ => none) = _
    rw [h]
  unfold fldD
  rw [e]
  dsimp only
  rw [if_pos rfl, hz]
theorem insAt_of {C : Addr} {N : Nat} {lh : LH} {fs : List (Str × D)} (h : lh[N]? = some (.ins C fs)) : insAt lh (.loc N) = some (C, fs) := by
  show (match lh[N]? with | some (.ins C fs) => some (C, fs) | _ => none) = _
  rw [h]
theorem fldM_ap (C : Addr) (f : Str) (m : M) (e : LE) (lh : LH) : fldM C f m e lh = (m e lh).bind (fldD C f) := rfl
theorem lenOM_ap (C : Addr) (m : FM) (ma : M) (e : LE) (lh : LH) : lenOM C m ma e lh = (ma e lh).bind (lenO C m) := rfl
theorem InsAt.fl {c : CA} {lh : LH} {N LL PL HL : Nat} {yss : List (List D)} (I : InsAt c lh N LL PL HL yss) : fldD (c "Net") "line_list" (.loc N) lh = .ok (.loc LL) lh := let ⟨fs, a, b, _⟩ := I.o; fld_of a b
theorem InsAt.fp {c : CA} {lh : LH} {N LL PL HL : Nat} {yss : List (List D)} (I : InsAt c lh N LL PL HL yss) : fldD (c "Net") "part_list" (.loc N) lh = .ok (.loc PL) lh := let ⟨fs, a, _, b, _⟩ := I.o; fld_of a b
theorem InsAt.fh {c : CA} {lh : LH} {N LL PL HL : Nat} {yss : List (List D)} (I : InsAt c lh N LL PL HL yss) : fldD (c "Net") "homes" (.loc N) lh = .ok (.loc HL) lh := let ⟨fs, a, _, _, b, _⟩ := I.o; fld_of a b
theorem lenR_ok {n : Int} {l : LH} (h0 : 0 ≤ n) (h1 : n < 1000) : lenR (.ok (.int n) l) = .ok (.int n) l := by
  have h : 0 ≤ n ∧ n < 2 ^ 63 := ⟨h0, by omega⟩
  unfold lenR
  simp only
  rw [if_pos h]
theorem InsAt.len {c : CA} {lh : LH} {N LL PL HL : Nat} {yss : List (List D)} (I : InsAt c lh N LL PL HL yss) : lenO (c "Net") (Net___len__ c) (.loc N) lh = .ok (.int (yss.flatten.length : Int)) lh := by
  obtain ⟨fs, a, _⟩ := I.o
  have h16 := I.n16
  have e2 : Net___len__ c [.loc N] lh = .ok (.int (yss.flatten.length : Int)) lh := by
    unfold Net___len__
    rw [fnM_ap, rtS_ap, callM_ap, consA_ap, fldM_ap, stD_s, varM_0, Re.bind_ok, I.fp, Re.bind_ok, nilA_ap, Re.bind_ok, Re.bind_ok, lenD_loc, I.pl]
    rfl
  unfold lenO
  rw [insAt_of a]
  dsimp only
  rw [if_pos rfl, e2]
  exact lenR_ok (by omega) (by omega)
end NP
set_option maxRecDepth 100000
set_option maxHeartbeats 4000000
/-! put_in: down what is left of a line. -/
namespace NP
open PySem PySem.Spec L2 NL
def puBody (c : CA) : SM := (ifS (blT (opM isntD (varM 4) (conM .non))) (seqS (asS (apM (NP.came_at c) (consA (varM 0) (consA (varM 5) (consA (varM 8) (consA (varM 4) (nilA)))))) (tupG 3 (consG (subG (varM 5) (varM 8)) (consG (nmG 4) (consG (nmG 9) (nilG))))))
  (asS (opM addD (varM 6) (opM mulD (lstM (consA (varM 8) (nilA))) (callM intD (consA (varM 9) (nilA))))) (nmG 6))) (nxS))
theorem came_at_ok {c : CA} {lh : LH} {N LL PL HL F i : Nat} {yss : List (List D)} {ms : List D} {p m t z : D} (I : InsAt c lh N LL PL HL yss) (hF : lh[F]? = some (.lst ms)) (hp : yss.flatten[i]? = some p) (hm : ms[i]? = some m) (h : came [p, m, t] lh = .ok z lh) :
    came_at c [.loc N, .loc F, .int (i : Int), t] lh = .ok z lh := by
  have q1 : atI yss.flatten (i : Int) = some p := atI_nat hp
  have q2 : atI ms (i : Int) = some m := atI_nat hm
  simp [came_at, fldM_ap, I.fp, I.pl, hF, q1, q2, h]
theorem pu_step {c : CA} {l0 l : LH} {N LL PL HL F S i : Nat} {yss : List (List D)} {ms st : List D} {t tm rr dd : D} {x7 : Option D} {x9 : Option D} (N0 : InsAt c l0 N LL PL HL yss) (I : DnAt l0 l HL PL F S (homesF 0 yss) yss.flatten ms st) (hm : MemsOk yss.flatten ms) (ht : ItemD t) (hi : i < yss.flatten.length) (hst : st.length ≤ 100) :
    ∃ l' S' x', puBody c [some (.loc N), some tm, some rr, some dd, some t, some (.loc F), some (.loc S), x7, some (.int (i : Int)), x9] l =
      .nx [some (.loc N), some tm, some rr, some dd, some (cameF (yss.flatten.getD i .non) (ms.getD i .non) t).2.1, some (.loc F), some (.loc S'), x7, some (.int (i : Int)), x'] l' ∧
      DnAt l0 l' HL PL F S' (homesF 0 yss) yss.flatten (ms.set i (cameF (yss.flatten.getD i .non) (ms.getD i .non) t).1) (st ++ if (cameF (yss.flatten.getD i .non) (ms.getD i .non) t).2.2 = true then [.int (i : Int)] else []) ∧
      ∀ n o, n ≠ F → l[n]? = some o → l'[n]? = some o := by
  have hi2 : i < ms.length := by rw [hm.len]; exact hi
  have e1 : yss.flatten[i]? = some (yss.flatten.getD i .non) := by rw [List.getD_eq_getElem?_getD, List.getElem?_eq_getElem hi]; rfl
  have e2 : ms[i]? = some (ms.getD i .non) := by rw [List.getD_eq_getElem?_getD, List.getElem?_eq_getElem hi2]; rfl
  obtain ⟨c1, c2, c3, _, c5⟩ := cameF_ok (N0.part _ (List.mem_of_getElem? e1)) (hm.at_ i _ _ e1 e2) ht
  have a0 := came_at_ok (N0.mono I.gr) I.f e1 e2 (c5 l)
  generalize cameF (yss.flatten.getD i .non) (ms.getD i .non) t = R at *
  generalize yss.flatten.getD i .non = pp at *
  generalize ms.getD i .non = mi at *
  obtain ⟨m', o, k⟩ := R
  dsimp only at *
  have q3 : ixN ms.length (i : Int) = some i := ixN_lt _ _ hi2
  have hset : ∀ (n : Nat) (ob : Ob), n ≠ F → l[n]? = some ob → (l.set F (.lst (ms.set i m')))[n]? = some ob := fun n ob hn h => by rw [List.getElem?_set_ne (Ne.symm hn)]; exact h
  have hfl : F < l.length := (List.getElem?_eq_some_iff.mp I.f).1
  have hSl : S < l.length := (List.getElem?_eq_some_iff.mp I.s).1
  have s1 : asS (apM (NP.came_at c) (consA (varM 0) (consA (varM 5) (consA (varM 8) (consA (varM 4) (nilA)))))) (tupG 3 (consG (subG (varM 5) (varM 8)) (consG (nmG 4) (consG (nmG 9) (nilG)))))
      [some (.loc N), some tm, some rr, some dd, some t, some (.loc F), some (.loc S), x7, some (.int (i : Int)), x9] l =
      .nx [some (.loc N), some tm, some rr, some dd, some o, some (.loc F), some (.loc S), x7, some (.int (i : Int)), some (.bl k)] (l.set F (.lst (ms.set i m'))) := by
    simp [a0, tupG_tup, I.f, q3]
  have hLS := hset S _ (Ne.symm I.fs) I.s
  have hLH := hset HL _ (Ne.symm I.fh) I.h
  have hLP := hset PL _ (Ne.symm I.fp) I.p
  have hLF : (l.set F (.lst (ms.set i m')))[F]? = some (.lst (ms.set i m')) := by rw [List.getElem?_set_self hfl]
  have hLl : (l.set F (.lst (ms.set i m'))).length = l.length := by simp
  have hLg : Gr l0 (l.set F (.lst (ms.set i m'))) := ⟨by rw [hLl]; exact I.gr.len, fun n hn hp => by
    rw [List.getElem?_set_ne (by have := I.f0; omega)]
    exact I.gr.same n hn hp⟩
  clear a0
  have hnn : isntD t .non l = .ok (.bl true) l := by obtain ⟨x, q, rfl⟩ := item_tup ht; simp
  generalize l.set F (.lst (ms.set i m')) = L at *
  have s2 := plus_bl (mA := varM 6) (mB := varM 8) (mC := varM 9) (e := [some (.loc N), some tm, some rr, some dd, some o, some (.loc F), some (.loc S), x7, some (.int (i : Int)), some (.bl k)]) (L := L) (S := S) (st := st) (x := .int (i : Int)) (k := k) (by simp) (by simp) (by simp) hLS hst
  refine ⟨L ++ [.lst [.int (i : Int)], .lst (if k = true then [.int (i : Int)] else []), .lst (st ++ if k = true then [.int (i : Int)] else [])], L.length + 2, some (.bl k), ?_, ?_, fun n o hn h => get_app (hset n o hn h)⟩
  rotate_left
  · exact ⟨hLg.trans (.app _ _), get_app hLH, get_app hLP, get_app hLF, by simp, I.f0, I.fh, I.fp, by omega⟩
  · unfold puBody
    have ht2 : (blT (opM isntD (varM 4) (conM .non))) [some (.loc N), some tm, some rr, some dd, some t, some (.loc F), some (.loc S), x7, some (.int (i : Int)), x9] l = .ok true l := by simp [hnn]
    rw [ifS_ap, ht2]
    show (seqS _ _) _ _ = _
    rw [seqS_ap, s1, bd_nx, asS_ap, s2]
    simp
theorem put_in_ok {c : CA} {lh : LH} {N LL PL HL r depth : Nat} {yss : List (List D)} {ms : List D} {t : D} (N0 : InsAt c lh N LL PL HL yss) (hm : MemsOk yss.flatten ms) (ht : t = .non ∨ ItemD t) (hr : r < yss.length) (hd : offN yss r + depth ≤ offN yss (r + 1)) :
    ∃ S l', put_in c [.loc N, .tup ms, .int (r : Int), .int (depth : Int), t] lh = .ok (.tup [.tup (downA yss.flatten (offN yss (r + 1) - (offN yss r + depth)) (offN yss r + depth) ms [] t).1, .loc S, (downA yss.flatten (offN yss (r + 1) - (offN yss r + depth)) (offN yss r + depth) ms [] t).2.2]) l' ∧ Gr lh l' ∧
      l'[S]? = some (.lst (downA yss.flatten (offN yss (r + 1) - (offN yss r + depth)) (offN yss r + depth) ms [] t).2.1) := by
  have h16 := N0.n16
  have hle := offN_le yss (r + 1)
  have hmo := offN_mono yss (show r ≤ r + 1 by omega)
  -- the places of the line
  have ha : (asS (lcM (rngI (consA (lenOM (c "Net") (NP.Net___len__ c) (varM 0)) (nilA))) (nmG 8) (blT (opM eqD (opM ixD (fldM (c "Net") "homes" (varM 0)) (varM 8)) (varM 2))) (varM 8) [8]) (nmG 7)) = asS (lcM (rngI (consA (lenOM (c "Net") (NP.Net___len__ c) (varM 0)) (nilA))) (nmG 8) (blT (opM eqD (opM ixD (fldM (c "Net") "homes" (varM 0)) (varM 8)) (varM 2))) (varM 8) [8]) (nmG 7) := rfl
  have N1 : InsAt c (lh ++ [.lst ms, .lst []]) N LL PL HL yss := N0.mono (.app _ _)
  have hrng : rngI (consA (lenOM (c "Net") (NP.Net___len__ c) (varM 0)) (nilA)) [some (.loc N), some (.tup ms), some (.int (r : Int)), some (.int (depth : Int)), some t, some (.loc lh.length), some (.loc (lh.length + 1)), none, none, none] (lh ++ [.lst ms, .lst []]) = .ok (itR 0 yss.flatten.length) (lh ++ [.lst ms, .lst []]) := by
    refine rngI_nat ?_ (by omega)
    rw [consA_ap, lenOM_ap, varM_0, Re.bind_ok, N1.len, Re.bind_ok, nilA_ap, Re.bind_ok]
  obtain ⟨l1, a1, a2, a3⟩ := lcM_xs (g := nmG 8) (t := blT (opM eqD (opM ixD (fldM (c "Net") "homes" (varM 0)) (varM 8)) (varM 2))) (m := varM 8) (own := [8]) hrng (List.range yss.flatten.length) (by simp only [List.length_range]; omega) (by rw [List.length_range]; rfl) (fun j => decide (offN yss r ≤ j ∧ j < offN yss (r + 1))) (fun j : Nat => D.int (j : Int))
    (fun i x l hx g => by
      obtain ⟨hi, rfl⟩ := range_get hx
      have N2 := N1.mono g
      obtain ⟨r2, b1, b2, b3⟩ := homes_row yss x hi
      have hg : atI (homesF 0 yss) (x : Int) = some (.int (r2 : Int)) := atI_nat (by rw [homes_get yss 0 r2 x b1 b2 b3, Nat.zero_add])
      refine ⟨.int (x : Int), _, l, itR_nx hi, rfl, ?_, .refl, fun _ => ⟨l, rfl, .refl⟩⟩
      have hb : ((r2 : Int) == (r : Int)) = decide (offN yss r ≤ x ∧ x < offN yss (r + 1)) := by
        by_cases hrr : r2 = r
        · subst hrr
          simp [b2, b3]
        · have h1 : ¬ (r2 : Int) = (r : Int) := by omega
          have h2 : ¬ (offN yss r ≤ x ∧ x < offN yss (r + 1)) := fun z => by
            rcases Nat.lt_or_gt_of_ne hrr with h | h
            · have := offN_mono yss (show r2 + 1 ≤ r by omega); omega
            · have := offN_mono yss (show r + 1 ≤ r2 by omega); omega
          rw [decide_eq_false h2]
          simp [h1]
      show (Re.bind (Re.bind (Re.bind (fldM _ _ _ _ _) _) _) _) = _
      simp [fldM_ap, wipeD, N2.fh, N2.hl, hg, hb])
    (fun l g => by rw [List.length_range]; exact itR_end)
  rw [range_flt _ _ _ hmo hle] at a3
  have hpl : ((List.range' (offN yss r) (offN yss (r + 1) - offN yss r)).map fun j : Nat => D.int (j : Int)).length = offN yss (r + 1) - offN yss r := by simp
  have hcut : cutL ((List.range' (offN yss r) (offN yss (r + 1) - offN yss r)).map fun j : Nat => D.int (j : Int)) (some (depth : Int)) none = (List.range' (offN yss r + depth) (offN yss (r + 1) - (offN yss r + depth))).map fun j : Nat => D.int (j : Int) := by
    rw [cutL_from (by rw [hpl]; omega), ← List.map_drop, List.drop_range']
    congr 2
    · omega
    · omega
  generalize hL0 : (lh ++ [Ob.lst ms, .lst []]).length = n7 at *
  have hn7 : n7 = lh.length + 2 := by rw [← hL0]; simp
  have hgr : Gr lh l1 := (Ge.app _ _).trans a2
  have hF1 : l1[lh.length]? = some (.lst ms) := a2.get (by simp) id
  have hS1 : l1[lh.length + 1]? = some (.lst []) := a2.get (by simp) id
  have hl1 := (List.getElem?_eq_some_iff.mp a3).1
  generalize hK : offN yss (r + 1) - (offN yss r + depth) = K at *
  generalize hs : offN yss r + depth = start at *
  have hHL : HL < lh.length := (List.getElem?_eq_some_iff.mp N0.hl).1
  have hPL : PL < lh.length := (List.getElem?_eq_some_iff.mp N0.pl).1
  obtain ⟨e', l', p, q⟩ := forN_inv (nx := (itL (.loc l1.length) ((List.range' start K).map fun j : Nat => D.int (j : Int))).nx) (g := nmG 8) (body := puBody c)
    (fun i e l => ∃ (ms' st' : List D) (t' : D) (S' : Nat) (x8 x9 : Option D), e = [some (.loc N), some (.tup ms), some (.int (r : Int)), some (.int (depth : Int)), some t', some (.loc lh.length), some (.loc S'), some (.loc n7), x8, x9] ∧
      DnAt lh l HL PL lh.length S' (homesF 0 yss) yss.flatten ms' st' ∧ l[l1.length]? = some (.lst ((List.range' start K).map fun j : Nat => D.int (j : Int))) ∧ MemsOk yss.flatten ms' ∧ (t' = .non ∨ ItemD t') ∧ st'.length ≤ i ∧ downA yss.flatten (K - i) (start + i) ms' st' t' = downA yss.flatten K start ms [] t) K
    (fun i e l hi I => by
      obtain ⟨ms', st', t', S', x8, x9, rfl, I, hQ, hm', ht', hst', hdn⟩ := I
      have hxi : ((List.range' start K).map fun j : Nat => D.int (j : Int))[i]? = some (.int ((start + i : Nat) : Int)) := by
        rw [List.getElem?_map, List.getElem?_range' (by omega)]
        simp
      rcases ht' with rfl | hit
      · refine ⟨.int ((start + i : Nat) : Int), _, l, by rw [itL_nx hQ, hxi], .inl ?_, ms', st', .non, S', some (.int ((start + i : Nat) : Int)), x9, rfl, I, hQ, hm', .inl rfl, by omega, by rw [downA_non] at hdn ⊢; exact hdn⟩
        rw [nmG_ap, bd_nx]
        unfold puBody
        simp
      · have hlt : start + i < yss.flatten.length := by omega
        obtain ⟨l2, S2, x2, p1, I2, up⟩ := pu_step (tm := .tup ms) (rr := .int (r : Int)) (dd := .int (depth : Int)) (x7 := some (.loc n7)) (x9 := x9) N0 I hm' hit hlt (by omega)
        have hi2 : start + i < ms'.length := by rw [hm'.len]; exact hlt
        have e1 : yss.flatten[start + i]? = some (yss.flatten.getD (start + i) .non) := by rw [List.getD_eq_getElem?_getD, List.getElem?_eq_getElem hlt]; rfl
        have e2 : ms'[start + i]? = some (ms'.getD (start + i) .non) := by rw [List.getD_eq_getElem?_getD, List.getElem?_eq_getElem hi2]; rfl
        obtain ⟨c1, c2, _⟩ := cameF_ok (N0.part _ (List.mem_of_getElem? e1)) (hm'.at_ _ _ _ e1 e2) hit
        have hnn : ¬ isNon t' = true := by obtain ⟨x, q, rfl⟩ := item_tup hit; exact fun h => nomatch h
        refine ⟨.int ((start + i : Nat) : Int), _, l2, by rw [itL_nx hQ, hxi], .inl p1, _, _, _, S2, _, x2, rfl, I2, up _ _ (by omega) hQ, hm'.set e1 c1, c2, ?_, ?_⟩
        · rw [List.length_append]
          have : (if (cameF (yss.flatten.getD (start + i) .non) (ms'.getD (start + i) .non) t').2.2 = true then [D.int ((start + i : Nat) : Int)] else []).length ≤ 1 := by split <;> simp
          omega
        · rw [← hdn, show K - i = (K - (i + 1)) + 1 by omega]
          conv => rhs; unfold downA
          rw [if_neg hnn]
          rfl)
    (fun e l I => by
      obtain ⟨ms', st', t', S', x8, x9, rfl, I, hQ, _⟩ := I
      rw [itL_nx hQ, List.getElem?_eq_none (by simp)])
    (K + 1) 0 [some (.loc N), some (.tup ms), some (.int (r : Int)), some (.int (depth : Int)), some t, some (.loc lh.length), some (.loc (lh.length + 1)), some (.loc n7), none, none] (l1 ++ [.lst ((List.range' start K).map fun j : Nat => D.int (j : Int))]) (by omega) (by omega)
    ⟨ms, [], t, lh.length + 1, none, none, rfl, ⟨hgr.trans (.app _ _), get_app (hgr.get N0.hl id), get_app (hgr.get N0.pl id), get_app hF1, get_app hS1, Nat.le_refl _, by omega, by omega, by omega⟩, by simp, hm, ht, Nat.zero_le _, rfl⟩
  obtain ⟨ms', st', t', S', x8, x9, rfl, I, hQ, hm', ht', hst', hdn⟩ := q
  rw [Nat.sub_self] at hdn
  have hdn' : downA yss.flatten K start ms [] t = (ms', st', t') := hdn.symm
  rw [hdn']
  refine ⟨S', l', ?_, I.gr, I.s⟩
  have htup : tupleD [.loc lh.length] l' = .ok (.tup ms') l' := by
    show (match sq l' (.loc lh.length) with | some xs => Re.ok (D.tup xs) l' | none => .bad) = _
    rw [sq_loc, I.f]
  have hsl : slM (varM 7) (soM (varM 3)) (noM) [some (.loc N), some (.tup ms), some (.int (r : Int)), some (.int (depth : Int)), some t, some (.loc lh.length), some (.loc (lh.length + 1)), some (.loc n7), none, none] l1 = .ok (.loc l1.length) (l1 ++ [.lst ((List.range' start K).map fun j : Nat => D.int (j : Int))]) := by
    rw [← hcut]
    show (match sq l1 (.loc n7) with | some ds => Re.ok (D.loc l1.length) (l1 ++ [Ob.lst (cutL ds (some (depth : Int)) none)]) | none => .bad) = _
    rw [sq_loc, a3]
  have hit : seqI (slM (varM 7) (soM (varM 3)) (noM)) [some (.loc N), some (.tup ms), some (.int (r : Int)), some (.int (depth : Int)), some t, some (.loc lh.length), some (.loc (lh.length + 1)), some (.loc n7), none, none] l1 = .ok (itL (.loc l1.length) ((List.range' start K).map fun j : Nat => D.int (j : Int))) (l1 ++ [.lst ((List.range' start K).map fun j : Nat => D.int (j : Int))]) := seqI_loc hsl (by simp)
  have hfu : (itL (.loc l1.length) ((List.range' start K).map fun j : Nat => D.int (j : Int))).fuel = K + 1 := by simp [itL]
  have hlm : listD [.tup ms] = fun l => .ok (.loc l.length) (l ++ [.lst ms]) := rfl
  have e0 : put_in c = fnM 10 (
    seqS (parS 5 6 (consA (callM listD (consA (varM 1) (nilA))) (consA (lstM (nilA)) (nilA))))
    (seqS (asS (lcM (rngI (consA (lenOM (c "Net") (NP.Net___len__ c) (varM 0)) (nilA))) (nmG 8) (blT (opM eqD (opM ixD (fldM (c "Net") "homes" (varM 0)) (varM 8)) (varM 2))) (varM 8) [8]) (nmG 7))
    (seqS (forS (seqI (slM (varM 7) (soM (varM 3)) (noM))) (nmG 8) (puBody c))
    (rtS (tupM (consA (callM tupleD (consA (varM 5) (nilA))) (consA (varM 6) (consA (varM 4) (nilA))))))))) := rfl
  rw [e0]
  simp [-seqI_ap, hlm, a1, hit, hfu, p, htup]
end NP
set_option maxRecDepth 100000
set_option maxHeartbeats 4000000
/-! what starts down a line. -/
namespace NP
open PySem PySem.Spec L2 NL
structure DownS (i k : Nat) (ms st : List D) (A : List D × List D × D) (g : List Int) : Prop where
  eq : A.2.1 = st ++ g.map D.int
  nd : g.Nodup
  lo : ∀ x ∈ g, (i : Int) ≤ x
  hi : ∀ x ∈ g, x < (i : Int) + (k : Int)
  on : ∀ x ∈ g, ∃ y, A.1[x.toNat]? = some (.tup [.bl true, y])
  len : g.length ≤ k
  be : ∀ j, j < i → A.1[j]? = ms[j]?
theorem downA_spec {ps : List D} (hps : ∀ p ∈ ps, PartD 3 p) : ∀ (k i : Nat) (ms st : List D) (t : D), i + k ≤ ps.length → MemsOk ps ms → (t = .non ∨ ItemD t) → ∃ g, DownS i k ms st (downA ps k i ms st t) g
  | 0, i, ms, st, t, _, _, _ => ⟨[], by simp [downA], .nil, fun _ h => by simp at h, fun _ h => by simp at h, fun _ h => by simp at h, Nat.le_refl _, fun _ _ => rfl⟩
  | k + 1, i, ms, st, t, hk, hm, ht => by
    by_cases hn : isNon t = true
    · have e : downA ps (k + 1) i ms st t = (ms, st, t) := by unfold downA; rw [if_pos hn]
      rw [e]
      exact ⟨[], by simp, .nil, fun _ h => by simp at h, fun _ h => by simp at h, fun _ h => by simp at h, Nat.zero_le _, fun _ _ => rfl⟩
    · have ht' : ItemD t := by
        rcases ht with rfl | h
        · exact absurd rfl hn
        · exact h
      have hi : i < ps.length := by omega
      have e1 : ps[i]? = some (ps.getD i .non) := by rw [List.getD_eq_getElem?_getD, List.getElem?_eq_getElem hi]; rfl
      have hi2 : i < ms.length := by rw [hm.len]; exact hi
      have e2 : ms[i]? = some (ms.getD i .non) := by rw [List.getD_eq_getElem?_getD, List.getElem?_eq_getElem hi2]; rfl
      obtain ⟨c1, c2, c3, _⟩ := cameF_ok (hps _ (List.mem_of_getElem? e1)) (hm.at_ i _ _ e1 e2) ht'
      have e : downA ps (k + 1) i ms st t = downA ps k (i + 1) (ms.set i (cameF (ps.getD i .non) (ms.getD i .non) t).1) (st ++ if (cameF (ps.getD i .non) (ms.getD i .non) t).2.2 = true then [.int (i : Int)] else []) (cameF (ps.getD i .non) (ms.getD i .non) t).2.1 := by
        conv => lhs; unfold downA
        rw [if_neg hn]
      rw [e]
      generalize cameF (ps.getD i .non) (ms.getD i .non) t = R at *
      obtain ⟨m', o, b⟩ := R
      dsimp only at *
      obtain ⟨g, S⟩ := downA_spec hps k (i + 1) (ms.set i m') (st ++ if b = true then [.int (i : Int)] else []) o (by omega) (hm.set e1 c1) c2
      generalize downA ps k (i + 1) (ms.set i m') (st ++ if b = true then [.int (i : Int)] else []) o = A at *
      have hbe : ∀ j, j < i → A.1[j]? = ms[j]? := fun j hj => by rw [S.be j (by omega), List.getElem?_set_ne (by omega)]
      have hat : A.1[i]? = some m' := by rw [S.be i (by omega), List.getElem?_set_self hi2]
      cases b with
      | false =>
        exact ⟨g, by rw [S.eq]; simp, S.nd, fun x hx => by have := S.lo x hx; omega, fun x hx => by have := S.hi x hx; omega, S.on, by have := S.len; omega, hbe⟩
      | true =>
        refine ⟨(i : Int) :: g, by rw [S.eq]; simp, List.nodup_cons.mpr ⟨fun h => by have := S.lo _ h; omega, S.nd⟩, fun x hx => ?_, fun x hx => ?_, fun x hx => ?_, by have := S.len; simp; omega, hbe⟩
        · rcases List.mem_cons.mp hx with rfl | hx
          · exact Int.le_refl _
          · have := S.lo x hx; omega
        · rcases List.mem_cons.mp hx with rfl | hx
          · omega
          · have := S.hi x hx; omega
        · rcases List.mem_cons.mp hx with rfl | hx
          · obtain ⟨y, rfl⟩ := c3 rfl
            exact ⟨y, by rw [Int.toNat_natCast]; exact hat⟩
          · exact S.on x hx
end NP
set_option maxRecDepth 100000
set_option maxHeartbeats 4000000
/-! a timer rings: l_fire. -/
namespace NP
open PySem PySem.Spec L2 NL
theorem put_mem {mA mP mM : M} {e : LE} {lh : LH} {ms : List D} {p : Nat} {m' : D} (h1 : mA e lh = .ok (.tup ms) lh) (h2 : mP e lh = .ok (.int (p : Int)) lh) (h3 : mM e lh = .ok m' lh) (hp : p < ms.length) (hl : ms.length ≤ 16) :
    opM addD (opM addD (slM mA (noM) (soM mP)) (tupM (consA mM (nilA)))) (slM mA (soM (opM addD mP (conM (.int 1)))) (noM)) e lh = .ok (.tup (ms.set p m')) lh := by
  have h100 := line100
  have e1 : slM mA (noM) (soM mP) e lh = .ok (.tup (ms.take p)) lh := by
    rw [slM_ap, h1, Re.bind_ok, noM_ap, Re.bind_ok, soM_ap, h2, Re.bind_ok, Re.bind_ok]
    show Re.ok (D.tup (cutL ms none (some (p : Int)))) lh = _
    rw [cutL_to (by omega)]
  have e2 : slM mA (soM (opM addD mP (conM (.int 1)))) (noM) e lh = .ok (.tup (ms.drop (p + 1))) lh := by
    rw [slM_ap, h1, Re.bind_ok, soM_ap, opM_ap, h2, Re.bind_ok, conM_ap, Re.bind_ok, addD_int, Re.bind_ok, Re.bind_ok, noM_ap, Re.bind_ok]
    show Re.ok (D.tup (cutL ms (some ((p : Int) + 1)) none)) lh = _
    rw [show ((p : Int) + 1) = ((p + 1 : Nat) : Int) by omega, cutL_from (by omega)]
  have e3 : tupM (consA mM (nilA)) e lh = .ok (.tup [m']) lh := by rw [tupM_ap, consA_ap, h3, Re.bind_ok, nilA_ap, Re.bind_ok, Re.bind_ok]
  have e4 : addD (.tup (ms.take p)) (.tup [m']) lh = .ok (.tup (ms.take p ++ [m'])) lh := by
    show (if (ms.take p).length + 1 ≤ sizeLine then _ else _) = _
    rw [if_pos (by rw [List.length_take]; omega)]
  have e5 : addD (.tup (ms.take p ++ [m'])) (.tup (ms.drop (p + 1))) lh = .ok (.tup (ms.set p m')) lh := by
    show (if (ms.take p ++ [m']).length + (ms.drop (p + 1)).length ≤ sizeLine then Re.ok (D.tup ((ms.take p ++ [m']) ++ ms.drop (p + 1))) lh else _) = _
    rw [if_pos (by simp; omega), List.set_eq_take_append_cons_drop, if_pos hp, List.append_assoc]
    rfl
  rw [opM_ap, opM_ap, e1, Re.bind_ok, e3, Re.bind_ok, e4, Re.bind_ok, e2, Re.bind_ok, e5]
theorem bl_plus {mA mB mC : M} {e : LE} {L : LH} {S : Nat} {st : List D} {x : D} {k : Bool} (h2 : mB e L = .ok x L) (h9 : mC e (L ++ [.lst [x]]) = .ok (.bl k) (L ++ [.lst [x]])) (h7 : ∀ l, mA e l = .ok (.loc S) l)
    (hS : L[S]? = some (.lst st)) (hst : st.length ≤ 100) :
    opM addD (opM mulD (lstM (consA mB (nilA))) (callM intD (consA mC (nilA)))) mA e L = .ok (.loc (L.length + 2)) (L ++ [.lst [x], .lst (if k = true then [x] else []), .lst ((if k = true then [x] else []) ++ st)]) := by
  have hsz : (200 : Nat) ≤ sizeLine := by decide
  have hl : (if k = true then [x] else []).length ≤ 1 := by cases k <;> simp
  have m2 := addD_at (l := L ++ [.lst [x], .lst (if k = true then [x] else [])]) (n := L.length + 1) (m := S) (xs := if k = true then [x] else []) (ys := st) (by simp) (get_app hS) (by omega)
  have e1 := mul_bl h2 h9
  rw [opM_ap, e1, Re.bind_ok, h7, Re.bind_ok, m2]
  simp
/-- what a ringing timer does to its line -/
def fireF (yss : List (List D)) (ms : List D) (p r : Nat) : List D × List D × List D :=
  let R := rangF (yss.flatten.getD p .non) (ms.getD p .non)
  let A := downA yss.flatten (offN yss (r + 1) - (p + 1)) (p + 1) (ms.set p R.1) [] R.2.1
  (A.1, (if R.2.2 = true then [.int (p : Int)] else []) ++ A.2.1, outL A.2.2 r)
structure Rings (yss : List (List D)) (ms : List D) (p r : Nat) : Prop where
  hm : MemsOk yss.flatten ms
  pt : ∃ w q, yss.flatten[p]? = some (.tup [w, .int q]) ∧ w ∈ timedL
  mm : ∃ x, ms[p]? = some (.tup [.bl true, x])
  hr : r < yss.length
  h1 : offN yss r ≤ p
  h2 : p < offN yss (r + 1)
structure RingsOut (yss : List (List D)) (ms : List D) (p : Nat) (m' o : D) (k : Bool) : Prop where
  eR : rangF (yss.flatten.getD p .non) (ms.getD p .non) = (m', o, k)
  mp : ∃ pp, yss.flatten[p]? = some pp ∧ MemP pp m'
  oo : o = .non ∨ ItemD o
  kk : k = true → ∃ y, m' = .tup [.bl true, y]
  at_ : ∃ pp mm, yss.flatten[p]? = some pp ∧ ms[p]? = some mm ∧ ∀ lh, l_rang [pp, mm] lh = .ok (.tup [m', o, .bl k]) lh ∧ rang [pp, mm] lh = .ok (.tup [m', o, .bl k]) lh
theorem Rings.out {yss : List (List D)} {ms : List D} {p r : Nat} (G : Rings yss ms p r) : ∃ m' o k, RingsOut yss ms p m' o k := by
  obtain ⟨w, q, e1, hw⟩ := G.pt
  obtain ⟨x, e2⟩ := G.mm
  have g1 : yss.flatten.getD p .non = .tup [w, .int q] := by rw [List.getD_eq_getElem?_getD, e1]; rfl
  have g2 : ms.getD p .non = .tup [.bl true, x] := by rw [List.getD_eq_getElem?_getD, e2]; rfl
  obtain ⟨a1, a2, a3, a4⟩ := rangF_ok (x := x) (n := q) hw (G.hm.at_ p _ _ e1 e2)
  exact ⟨_, _, _, by rw [g1, g2], ⟨_, e1, a1⟩, a2, a3, _, _, e1, e2, a4⟩
theorem Rings.lt {yss : List (List D)} {ms : List D} {p r : Nat} (G : Rings yss ms p r) : p < yss.flatten.length := by
  have := offN_le yss (r + 1)
  have := G.h2
  omega
def fi1 : SM := (parS 3 4 (consA (apM NP.l_parts (consA (varM 0) (nilA))) (consA (apM NP.l_homes (consA (varM 0) (nilA))) (nilA))))
def fi2 : SM := (asS (apM NP.l_rang (consA (opM ixD (varM 3) (varM 2)) (consA (opM ixD (varM 1) (varM 2)) (nilA)))) (tupG 3 (consG (nmG 5) (consG (nmG 6) (consG (nmG 7) (nilG))))))
def fi3 : SM := (asS (opM addD (opM addD (slM (varM 1) (noM) (soM (varM 2))) (tupM (consA (varM 5) (nilA)))) (slM (varM 1) (soM (opM addD (varM 2) (conM (.int 1)))) (noM))) (nmG 8))
def fi4 : SM := (asS (opM mulD (lstM (consA (varM 2) (nilA))) (callM intD (consA (varM 7) (nilA)))) (nmG 9))
def fiT : MT := (andT (blT (opM isntD (varM 6) (conM .non))) (andT (blT (opM ltD (opM addD (varM 2) (conM (.int 1))) (callM lenD (consA (varM 3) (nilA))))) (blT (opM eqD (opM ixD (varM 4) (opM addD (varM 2) (conM (.int 1)))) (opM ixD (varM 4) (varM 2))))))
def fiB : SM := (seqS (asS (apM NP.l_down (consA (varM 0) (consA (varM 8) (consA (opM addD (varM 2) (conM (.int 1))) (consA (varM 6) (nilA)))))) (tupG 3 (consG (nmG 8) (consG (nmG 10) (consG (nmG 11) (nilG))))))
  (rtS (tupM (consA (varM 8) (consA (opM addD (varM 9) (varM 10)) (consA (varM 11) (nilA)))))))
def fiR : SM := (rtS (tupM (consA (varM 8) (consA (varM 9) (consA (ifM (blT (opM isD (varM 6) (conM .non))) (lstM (nilA)) (lstM (consA (tupM (consA (opM ixD (varM 6) (conM (.int 0))) (consA (opM ixD (varM 6) (conM (.int 1))) (consA (opM ixD (varM 4) (varM 2)) (nilA))))) (nilA)))) (nilA))))))
theorem l_fire_eq : l_fire = fnM 12 (seqS fi1 (seqS fi2 (seqS fi3 (seqS fi4 (seqS (ifS fiT fiB (nxS)) fiR))))) := rfl
theorem l_fire_ok {lh : LH} {b : D} {yss : List (List D)} {ms : List D} {p r : Nat} (N : NetAt lh b yss) (G : Rings yss ms p r) :
    ∃ S O l', l_fire [b, .tup ms, .int (p : Int)] lh = .ok (.tup [.tup (fireF yss ms p r).1, .loc S, .loc O]) l' ∧ Gr lh l' ∧ l'[S]? = some (.lst (fireF yss ms p r).2.1) ∧ l'[O]? = some (.lst (fireF yss ms p r).2.2) := by
  obtain ⟨m', o, k, R⟩ := G.out
  obtain ⟨pp, mm, e1, e2, e3⟩ := R.at_
  have h16 := N.n16
  have hp := G.lt
  have hpm : p < ms.length := by rw [G.hm.len]; exact hp
  have hps : ∀ p ∈ yss.flatten, PartD 3 p := fun p hp => by
    obtain ⟨ys, hy, hp⟩ := List.mem_flatten.mp hp
    exact (N.r4 ys hy).2 p hp
  have b1 := l_parts_ok N
  have NA : NetAt (lh ++ [.lst [], .lst yss.flatten]) b yss := N.mono fun n o h => get_app h
  obtain ⟨H, lB, a1, a2, a3, a4⟩ := l_homes_ok NA
  have hP : lB[lh.length + 1]? = some (.lst yss.flatten) := a2.get (by simp) id
  have gB : Gr lh lB := (Ge.app _ _).trans a2
  have q1 : atI yss.flatten (p : Int) = some pp := atI_nat e1
  have q2 : atI ms (p : Int) = some mm := atI_nat e2
  have hg : atI (homesF 0 yss) (p : Int) = some (.int (r : Int)) := atI_nat (by rw [homes_get yss 0 r p G.hr G.h1 G.h2, Nat.zero_add])
  have hmset : MemsOk yss.flatten (ms.set p m') := by
    obtain ⟨pp, e, mp⟩ := R.mp
    exact G.hm.set e mp
  have e30 := (e3 lB).1
  have s1 : fi1 [some b, some (.tup ms), some (.int (p : Int)), none, none, none, none, none, none, none, none, none] lh = .nx [some b, some (.tup ms), some (.int (p : Int)), some (.loc (lh.length + 1)), some (.loc H), none, none, none, none, none, none, none] lB := by
    simp [fi1, b1, a1]
  have s2 : fi2 [some b, some (.tup ms), some (.int (p : Int)), some (.loc (lh.length + 1)), some (.loc H), none, none, none, none, none, none, none] lB = .nx [some b, some (.tup ms), some (.int (p : Int)), some (.loc (lh.length + 1)), some (.loc H), some m', some o, some (.bl k), none, none, none, none] lB := by
    simp [fi2, hP, q1, q2, e30, tupG_tup]
  have s3 : fi3 [some b, some (.tup ms), some (.int (p : Int)), some (.loc (lh.length + 1)), some (.loc H), some m', some o, some (.bl k), none, none, none, none] lB = .nx [some b, some (.tup ms), some (.int (p : Int)), some (.loc (lh.length + 1)), some (.loc H), some m', some o, some (.bl k), some (.tup (ms.set p m')), none, none, none] lB := by
    have := put_mem (mA := varM 1) (mP := varM 2) (mM := varM 5) (e := [some b, some (.tup ms), some (.int (p : Int)), some (.loc (lh.length + 1)), some (.loc H), some m', some o, some (.bl k), none, none, none, none]) (lh := lB) (m' := m') (by simp) (by simp) (by simp) hpm (by rw [G.hm.len]; exact h16)
    unfold fi3
    rw [asS_ap, this]
    simp
  have s4 : fi4 [some b, some (.tup ms), some (.int (p : Int)), some (.loc (lh.length + 1)), some (.loc H), some m', some o, some (.bl k), some (.tup (ms.set p m')), none, none, none] lB = .nx [some b, some (.tup ms), some (.int (p : Int)), some (.loc (lh.length + 1)), some (.loc H), some m', some o, some (.bl k), some (.tup (ms.set p m')), some (.loc (lB.length + 1)), none, none] (lB ++ [.lst [.int (p : Int)], .lst (if k = true then [.int (p : Int)] else [])]) := by
    have := mul_bl (mB := varM 2) (mC := varM 7) (e := [some b, some (.tup ms), some (.int (p : Int)), some (.loc (lh.length + 1)), some (.loc H), some m', some o, some (.bl k), some (.tup (ms.set p m')), none, none, none]) (L := lB) (x := .int (p : Int)) (k := k) (by simp) (by simp)
    unfold fi4
    rw [asS_ap, this]
    simp
  have h9 : (lB ++ [.lst [.int (p : Int)], .lst (if k = true then [.int (p : Int)] else [])])[lB.length + 1]? = some (.lst (if k = true then [.int (p : Int)] else [])) := by simp
  have gL : Gr lh (lB ++ [.lst [.int (p : Int)], .lst (if k = true then [.int (p : Int)] else [])]) := gB.trans (.app _ _)
  have hPL : (lB ++ [.lst [.int (p : Int)], .lst (if k = true then [.int (p : Int)] else [])])[lh.length + 1]? = some (.lst yss.flatten) := get_app hP
  have hHL : (lB ++ [.lst [.int (p : Int)], .lst (if k = true then [.int (p : Int)] else [])])[H]? = some (.lst (homesF 0 yss)) := get_app a3
  have hst : stD 12 [b, .tup ms, .int (p : Int)] = [some b, some (.tup ms), some (.int (p : Int)), none, none, none, none, none, none, none, none, none] := by simp
  have eF : fireF yss ms p r = ((downA yss.flatten (offN yss (r + 1) - (p + 1)) (p + 1) (ms.set p m') [] o).1, (if k = true then [.int (p : Int)] else []) ++ (downA yss.flatten (offN yss (r + 1) - (p + 1)) (p + 1) (ms.set p m') [] o).2.1, outL (downA yss.flatten (offN yss (r + 1) - (p + 1)) (p + 1) (ms.set p m') [] o).2.2 r) := by
    unfold fireF
    rw [R.eR]
  have hk1 : (if k = true then [D.int (p : Int)] else []).length ≤ 1 := by cases k <;> simp
  have hsz : (200 : Nat) ≤ sizeLine := by decide
  have NL := N.mono fun n o h => gL.get h id
  have head : ∀ rest, finM ((fi1 [some b, some (.tup ms), some (.int (p : Int)), none, none, none, none, none, none, none, none, none] lh).bd (seqS fi2 (seqS fi3 (seqS fi4 rest)))) = finM (rest [some b, some (.tup ms), some (.int (p : Int)), some (.loc (lh.length + 1)), some (.loc H), some m', some o, some (.bl k), some (.tup (ms.set p m')), some (.loc (lB.length + 1)), none, none] (lB ++ [.lst [.int (p : Int)], .lst (if k = true then [.int (p : Int)] else [])])) := fun rest => by
    rw [s1, bd_nx, seqS_ap, s2, bd_nx, seqS_ap, s3, bd_nx, seqS_ap, s4, bd_nx]
  rw [l_fire_eq, fnM_ap, hst, seqS_ap, head, eF, seqS_ap, ifS_ap]
  have hP9 : lB.length + 1 < (lB ++ [Ob.lst [.int (p : Int)], .lst (if k = true then [.int (p : Int)] else [])]).length := by simp
  generalize (lB ++ [Ob.lst [.int (p : Int)], .lst (if k = true then [.int (p : Int)] else [])]) = L at *
  generalize lB.length + 1 = n9 at *
  by_cases hcase : ItemD o ∧ p + 1 < offN yss (r + 1)
  · obtain ⟨hit, hlt⟩ := hcase
    have hn1 : p + 1 < yss.flatten.length := by have := offN_le yss (r + 1); omega
    have hg1 : atI (homesF 0 yss) ((p : Int) + 1) = some (.int (r : Int)) := by
      rw [show ((p : Int) + 1) = ((p + 1 : Nat) : Int) by omega]
      exact atI_nat (by rw [homes_get yss 0 r (p + 1) G.hr (by have := G.h1; omega) hlt, Nat.zero_add])
    obtain ⟨S, O, l', d1, d2, d3, d4⟩ := l_down_ok (start := p + 1) NL hmset hit G.hr (by have := G.h1; omega) hlt
    obtain ⟨g, hS⟩ := downA_spec hps (offN yss (r + 1) - (p + 1)) (p + 1) (ms.set p m') [] o (by have := offN_le yss (r + 1); omega) hmset (.inr hit)
    have hAl : (downA yss.flatten (offN yss (r + 1) - (p + 1)) (p + 1) (ms.set p m') [] o).2.1.length ≤ 16 := by
      rw [hS.eq, List.nil_append, List.length_map]
      have := hS.len
      have := offN_le yss (r + 1)
      omega
    generalize downA yss.flatten (offN yss (r + 1) - (p + 1)) (p + 1) (ms.set p m') [] o = A at *
    obtain ⟨m2, s2, t2⟩ := A
    dsimp only at *
    have d2' := d2.get h9 id
    have add := addD_at (l := l') (n := n9) (m := S) (xs := if k = true then [.int (p : Int)] else []) (ys := s2) d2' d3 (by omega)
    have hn1' : (p : Int) + 1 < (yss.flatten.length : Int) := by omega
    simp only [List.length_flatten] at hn1'
    rw [show (((p + 1 : Nat) : Int)) = (p : Int) + 1 by omega] at d1
    refine ⟨l'.length, O, l' ++ [.lst ((if k = true then [.int (p : Int)] else []) ++ s2)], ?_, (gL.trans d2).trans (.app _ _), by simp, get_app d4⟩
    have ht : fiT [some b, some (.tup ms), some (.int (p : Int)), some (.loc (lh.length + 1)), some (.loc H), some m', some o, some (.bl k), some (.tup (ms.set p m')), some (.loc n9), none, none] L = .ok true L := by
      obtain ⟨x, q, rfl⟩ := item_tup hit
      simp [fiT, hPL, hHL, hg, hg1, hn1']
    rw [ht]
    show finM ((fiB _ _).bd _) = _
    simp [fiB, d1, tupG_tup, add]
  · have ht : fiT [some b, some (.tup ms), some (.int (p : Int)), some (.loc (lh.length + 1)), some (.loc H), some m', some o, some (.bl k), some (.tup (ms.set p m')), some (.loc n9), none, none] L = .ok false L := by
      rcases R.oo with rfl | hit
      · simp [fiT]
      · have hge : offN yss (r + 1) = p + 1 := by
          have := G.h2
          by_cases hh : p + 1 < offN yss (r + 1)
          · exact absurd ⟨hit, hh⟩ hcase
          · omega
        obtain ⟨x, q, rfl⟩ := item_tup hit
        by_cases hn1 : p + 1 < yss.flatten.length
        · obtain ⟨r2, c1, c2, c3⟩ := homes_row yss (p + 1) hn1
          have hrr : r2 ≠ r := fun z => by subst z; omega
          have hg1 : atI (homesF 0 yss) ((p : Int) + 1) = some (.int (r2 : Int)) := by
            rw [show ((p : Int) + 1) = ((p + 1 : Nat) : Int) by omega]
            exact atI_nat (by rw [homes_get yss 0 r2 (p + 1) c1 c2 c3, Nat.zero_add])
          have hn1' : (p : Int) + 1 < (yss.flatten.length : Int) := by omega
          simp only [List.length_flatten] at hn1'
          have : ¬ (r2 : Int) = (r : Int) := by omega
          simp [fiT, hPL, hHL, hg, hg1, hn1', this]
        · have hn1' : ¬ (p : Int) + 1 < (yss.flatten.length : Int) := by omega
          simp only [List.length_flatten] at hn1'
          simp [fiT, hPL, hn1']
    have hA : downA yss.flatten (offN yss (r + 1) - (p + 1)) (p + 1) (ms.set p m') [] o = (ms.set p m', [], o) := by
      rcases R.oo with rfl | hit
      · exact downA_non ..
      · have hge : offN yss (r + 1) - (p + 1) = 0 := by
          by_cases hh : p + 1 < offN yss (r + 1)
          · exact absurd ⟨hit, hh⟩ hcase
          · omega
        rw [hge]
        rfl
    rw [hA, ht]
    refine ⟨n9, L.length, L ++ [.lst (outL o r)], ?_, gL.trans (.app _ _), by rw [List.append_nil]; exact get_app h9, by simp⟩
    show finM (fiR _ _) = _
    rcases R.oo with rfl | hit
    · simp [fiR, outL]
    · obtain ⟨x, q, rfl⟩ := item_tup hit
      simp [fiR, outL, hHL, hg]
end NP
set_option maxRecDepth 100000
set_option maxHeartbeats 4000000
/-! a timer rings: fired. -/
namespace NP
open PySem PySem.Spec L2 NL
theorem intL_map : ∀ g : List Int, intL (g.map D.int) = some g
  | [] => rfl
  | x :: r => by
    show (intL (r.map D.int)).map (x :: ·) = _
    rw [intL_map r]
    rfl
theorem sum_len : ∀ ys : List (List D), (ys.map fun z => (z.length : Int)).sum = (ys.flatten.length : Int)
  | [] => rfl
  | y :: r => by
    rw [List.map_cons, List.sum_cons, sum_len r, List.flatten_cons, List.length_append]
    omega
theorem rows_get {lh : LH} {ds : List D} {yss : List (List D)} (h : RowsAt lh ds yss) {i : Nat} {ys : List D} (e : yss[i]? = some ys) : ∃ n : Nat, ds[i]? = some (.loc n) ∧ lh[n]? = some (.lst ys) := by
  obtain ⟨hi, he⟩ := List.getElem?_eq_some_iff.mp e
  obtain ⟨n, a, b⟩ := h.get i hi
  exact ⟨n, a, by rw [b, he]⟩
theorem place_of_ok {c : CA} {lh : LH} {N LL PL HL r depth : Nat} {yss : List (List D)} (I : InsAt c lh N LL PL HL yss) (hr : r < yss.length) :
    ∃ l', Net_place_of c [.loc N, .int (r : Int), .int (depth : Int)] lh = .ok (.int ((offN yss r + depth : Nat) : Int)) l' ∧ Gr lh l' := by
  obtain ⟨ds, hll, hrow⟩ := I.ll
  have hdl := hrow.len
  have hn4 := I.n4
  have hsl : slM (fldM (c "Net") "line_list" (varM 0)) (noM) (soM (varM 1)) [some (.loc N), some (.int (r : Int)), some (.int (depth : Int)), none] lh = .ok (.loc lh.length) (lh ++ [.lst (ds.take r)]) := by
    rw [← cutL_to (xs := ds) (d := r) (by omega)]
    rw [slM_ap, fldM_ap, varM_0, Re.bind_ok, I.fl, Re.bind_ok, noM_ap, Re.bind_ok]
    show (match sq lh (.loc LL) with | some ds => Re.ok (D.loc lh.length) (lh ++ [Ob.lst (cutL ds none (some (r : Int)))]) | none => .bad) = _
    rw [sq_loc, hll]
  have hit := seqI_loc hsl (xs := ds.take r) (by simp)
  obtain ⟨l1, a1, a2, a3⟩ := lcM_xs (g := nmG 3) (t := yesT) (m := callM lenD (consA (varM 3) (nilA))) (own := [3]) hit (yss.take r) (by rw [List.length_take]; omega) (by show (ds.take r).length + 1 = _; rw [List.length_take, List.length_take, hdl]) (fun _ => true) (fun z => D.int (z.length : Int))
    (fun i z l hz g => by
      have hz' : yss[i]? = some z := by
        rw [List.getElem?_take] at hz
        split at hz
        · exact hz
        · cases hz
      have hir : i < r := by
        have := (List.getElem?_eq_some_iff.mp hz).1
        rw [List.length_take] at this
        omega
      obtain ⟨n, b1, b2⟩ := rows_get hrow hz'
      have hn := g.get (get_app (t := [.lst (ds.take r)]) b2) id
      refine ⟨.loc n, _, l, ?_, rfl, rfl, .refl, fun _ => ⟨l, ?_, .refl⟩⟩
      · rw [itL_nx (g.get (n := lh.length) (o := .lst (ds.take r)) (by simp) id), List.getElem?_take, if_pos hir, b1]
      · simp [wipeD, hn])
    (fun l g => by
      rw [itL_nx (g.get (n := lh.length) (o := .lst (ds.take r)) (by simp) id), List.getElem?_eq_none (by rw [List.length_take, List.length_take]; omega)])
  have hft : (yss.take r).filter (fun _ => true) = yss.take r := List.filter_eq_self.mpr fun _ _ => rfl
  rw [hft] at a3
  have hsum : ∀ n : Nat, l1[n]? = some (.lst ((yss.take r).map fun z => D.int (z.length : Int))) → sumD [.loc n] l1 = .ok (.int (offN yss r : Int)) l1 := fun n h => by
    show (match sq l1 (.loc n) with | some xs => (match intL xs with | some ns => Re.ok (D.int ns.sum) l1 | none => .bad) | none => .bad) = _
    rw [sq_loc, h]
    dsimp only
    rw [show (yss.take r).map (fun z => D.int (z.length : Int)) = ((yss.take r).map fun z => (z.length : Int)).map D.int by rw [List.map_map]; rfl, intL_map]
    dsimp only
    rw [sum_len]
    rfl
  refine ⟨l1, ?_, (Ge.app _ _).trans a2⟩
  unfold Net_place_of
  have hst : stD 4 [.loc N, .int (r : Int), .int (depth : Int)] = [some (.loc N), some (.int (r : Int)), some (.int (depth : Int)), none] := by simp
  rw [fnM_ap, hst, rtS_ap, opM_ap, callM_ap, consA_ap, a1, Re.bind_ok, nilA_ap, Re.bind_ok, Re.bind_ok, hsum _ a3, Re.bind_ok]
  simp
def fd1 (c : CA) : SM := (asS (opM ixD (fldM (c "Net") "homes" (varM 0)) (varM 2)) (nmG 3))
def fd2 (c : CA) : SM := (asS (apM NP.rang (consA (opM ixD (fldM (c "Net") "part_list" (varM 0)) (varM 2)) (consA (opM ixD (varM 1) (varM 2)) (nilA)))) (tupG 3 (consG (nmG 4) (consG (nmG 5) (consG (nmG 6) (nilG))))))
def fd3 : SM := (asS (opM addD (opM addD (slM (varM 1) (noM) (soM (varM 2))) (tupM (consA (varM 4) (nilA)))) (slM (varM 1) (soM (opM addD (varM 2) (conM (.int 1)))) (noM))) (nmG 7))
def fd4 (c : CA) : SM := (asS (apM (NP.put_in c) (consA (varM 0) (consA (varM 7) (consA (varM 3) (consA (opM addD (opM subD (varM 2) (methM (c "Net") "place_of" (NP.Net_place_of c) (varM 0) (consA (varM 3) (consA (conM (.int 0)) (nilA))))) (conM (.int 1))) (consA (varM 5) (nilA))))))) (tupG 3 (consG (nmG 7) (consG (nmG 8) (consG (nmG 9) (nilG))))))
def fd5 : SM := (asS (ifM (blT (opM isD (varM 9) (conM .non))) (lstM (nilA)) (lstM (consA (tupSM (starA (varM 9) (consA (varM 3) (nilA)))) (nilA)))) (nmG 10))
def fd6 : SM := (rtS (tupM (consA (varM 7) (consA (opM addD (opM mulD (lstM (consA (varM 2) (nilA))) (callM intD (consA (varM 6) (nilA)))) (varM 8)) (consA (varM 10) (nilA))))))
theorem fired_eq (c : CA) : fired c = fnM 11 (seqS (fd1 c) (seqS (fd2 c) (seqS fd3 (seqS (fd4 c) (seqS fd5 fd6))))) := rfl
theorem fired_ok {c : CA} {lh : LH} {N LL PL HL p r : Nat} {yss : List (List D)} {ms : List D} (I : InsAt c lh N LL PL HL yss) (G : Rings yss ms p r) :
    ∃ S O l', fired c [.loc N, .tup ms, .int (p : Int)] lh = .ok (.tup [.tup (fireF yss ms p r).1, .loc S, .loc O]) l' ∧ Gr lh l' ∧ l'[S]? = some (.lst (fireF yss ms p r).2.1) ∧ l'[O]? = some (.lst (fireF yss ms p r).2.2) := by
  obtain ⟨m', o, k, R⟩ := G.out
  obtain ⟨pp, mm, e1, e2, e3⟩ := R.at_
  have h16 := I.n16
  have hp := G.lt
  have hpm : p < ms.length := by rw [G.hm.len]; exact hp
  have q1 : atI yss.flatten (p : Int) = some pp := atI_nat e1
  have q2 : atI ms (p : Int) = some mm := atI_nat e2
  have hg : atI (homesF 0 yss) (p : Int) = some (.int (r : Int)) := atI_nat (by rw [homes_get yss 0 r p G.hr G.h1 G.h2, Nat.zero_add])
  have hmset : MemsOk yss.flatten (ms.set p m') := by
    obtain ⟨pp, e, mp⟩ := R.mp
    exact G.hm.set e mp
  have e30 := (e3 lh).2
  have hst : stD 11 [.loc N, .tup ms, .int (p : Int)] = [some (.loc N), some (.tup ms), some (.int (p : Int)), none, none, none, none, none, none, none, none] := by simp
  have s1 : fd1 c [some (.loc N), some (.tup ms), some (.int (p : Int)), none, none, none, none, none, none, none, none] lh = .nx [some (.loc N), some (.tup ms), some (.int (p : Int)), some (.int (r : Int)), none, none, none, none, none, none, none] lh := by
    simp [fd1, fldM_ap, I.fh, I.hl, hg]
  have s2 : fd2 c [some (.loc N), some (.tup ms), some (.int (p : Int)), some (.int (r : Int)), none, none, none, none, none, none, none] lh = .nx [some (.loc N), some (.tup ms), some (.int (p : Int)), some (.int (r : Int)), some m', some o, some (.bl k), none, none, none, none] lh := by
    simp [fd2, fldM_ap, I.fp, I.pl, q1, q2, e30, tupG_tup]
  have s3 : fd3 [some (.loc N), some (.tup ms), some (.int (p : Int)), some (.int (r : Int)), some m', some o, some (.bl k), none, none, none, none] lh = .nx [some (.loc N), some (.tup ms), some (.int (p : Int)), some (.int (r : Int)), some m', some o, some (.bl k), some (.tup (ms.set p m')), none, none, none] lh := by
    have := put_mem (mA := varM 1) (mP := varM 2) (mM := varM 4) (e := [some (.loc N), some (.tup ms), some (.int (p : Int)), some (.int (r : Int)), some m', some o, some (.bl k), none, none, none, none]) (lh := lh) (m' := m') (by simp) (by simp) (by simp) hpm (by rw [G.hm.len]; exact h16)
    unfold fd3
    rw [asS_ap, this]
    simp
  obtain ⟨l1, b1, b2⟩ := place_of_ok (depth := 0) I G.hr
  obtain ⟨d, hd⟩ : ∃ d, offN yss r + d = p + 1 := ⟨p + 1 - offN yss r, by have := G.h1; omega⟩
  have I1 := I.mono b2
  obtain ⟨S, l2, c1, c2, c3⟩ := put_in_ok (depth := d) I1 hmset R.oo G.hr (by have := G.h2; omega)
  rw [hd] at c1 c3
  have eF : fireF yss ms p r = ((downA yss.flatten (offN yss (r + 1) - (p + 1)) (p + 1) (ms.set p m') [] o).1, (if k = true then [.int (p : Int)] else []) ++ (downA yss.flatten (offN yss (r + 1) - (p + 1)) (p + 1) (ms.set p m') [] o).2.1, outL (downA yss.flatten (offN yss (r + 1) - (p + 1)) (p + 1) (ms.set p m') [] o).2.2 r) := by
    unfold fireF
    rw [R.eR]
  obtain ⟨g, hS⟩ := downA_spec I.part (offN yss (r + 1) - (p + 1)) (p + 1) (ms.set p m') [] o (by have := offN_le yss (r + 1); have := G.h2; omega) hmset R.oo
  have hAl : (downA yss.flatten (offN yss (r + 1) - (p + 1)) (p + 1) (ms.set p m') [] o).2.1.length ≤ 16 := by
    rw [hS.eq, List.nil_append, List.length_map]
    have := hS.len
    have := offN_le yss (r + 1)
    omega
  have hoo := (downA_ok I.part (offN yss (r + 1) - (p + 1)) (p + 1) (ms.set p m') [] o (by have := offN_le yss (r + 1); have := G.h2; omega) hmset R.oo).2
  rw [eF]
  generalize downA yss.flatten (offN yss (r + 1) - (p + 1)) (p + 1) (ms.set p m') [] o = A at *
  obtain ⟨m2, s2', t2⟩ := A
  dsimp only at *
  have s4 : fd4 c [some (.loc N), some (.tup ms), some (.int (p : Int)), some (.int (r : Int)), some m', some o, some (.bl k), some (.tup (ms.set p m')), none, none, none] lh = .nx [some (.loc N), some (.tup ms), some (.int (p : Int)), some (.int (r : Int)), some m', some o, some (.bl k), some (.tup m2), some (.loc S), some t2, none] l2 := by
    obtain ⟨fs, z1, _, _, _, z2⟩ := I.o
    have hm : methM (c "Net") "place_of" (NP.Net_place_of c) (varM 0) (consA (varM 3) (consA (conM (.int 0)) (nilA))) [some (.loc N), some (.tup ms), some (.int (p : Int)), some (.int (r : Int)), some m', some o, some (.bl k), some (.tup (ms.set p m')), none, none, none] lh = .ok (.int (offN yss r : Int)) l1 := by
      unfold methM
      rw [varM_0, Re.bind_ok, insAt_of z1]
      dsimp only
      rw [if_pos ⟨rfl, z2⟩]
      have b1' : Net_place_of c [.loc N, .int (r : Int), .int 0] lh = .ok (.int (offN yss r : Int)) l1 := b1
      simp [b1']
    have hz : (p : Int) - (offN yss r : Int) + 1 = (d : Int) := by omega
    simp [fd4, hm, hz, c1, tupG_tup]
  have hSl := (List.getElem?_eq_some_iff.mp c3).1
  have s5 : fd5 [some (.loc N), some (.tup ms), some (.int (p : Int)), some (.int (r : Int)), some m', some o, some (.bl k), some (.tup m2), some (.loc S), some t2, none] l2 = .nx [some (.loc N), some (.tup ms), some (.int (p : Int)), some (.int (r : Int)), some m', some o, some (.bl k), some (.tup m2), some (.loc S), some t2, some (.loc l2.length)] (l2 ++ [.lst (outL t2 r)]) := by
    rcases hoo with rfl | hit
    · simp [fd5, outL]
    · obtain ⟨x, q, rfl⟩ := item_tup hit
      simp [fd5, outL, tupSM, starA, opn]
  have s6 := bl_plus (mA := varM 8) (mB := varM 2) (mC := varM 6) (e := [some (.loc N), some (.tup ms), some (.int (p : Int)), some (.int (r : Int)), some m', some o, some (.bl k), some (.tup m2), some (.loc S), some t2, some (.loc l2.length)]) (L := l2 ++ [.lst (outL t2 r)]) (S := S) (st := s2') (x := .int (p : Int)) (k := k) (by simp) (by simp) (fun l => by simp) (get_app c3) (by omega)
  refine ⟨(l2 ++ [Ob.lst (outL t2 r)]).length + 2, l2.length, (l2 ++ [Ob.lst (outL t2 r)]) ++ [.lst [.int (p : Int)], .lst (if k = true then [.int (p : Int)] else []), .lst ((if k = true then [.int (p : Int)] else []) ++ s2')], ?_, ((b2.trans c2).trans (.app _ _)).trans (.app _ _), ?_, get_app (by simp)⟩
  · rw [fired_eq, fnM_ap, hst, seqS_ap, s1, bd_nx, seqS_ap, s2, bd_nx, seqS_ap, s3, bd_nx, seqS_ap, s4, bd_nx, seqS_ap, s5, bd_nx]
    unfold fd6
    have h7 : varM 7 [some (.loc N), some (.tup ms), some (.int (p : Int)), some (.int (r : Int)), some m', some o, some (.bl k), some (.tup m2), some (.loc S), some t2, some (.loc l2.length)] (l2 ++ [Ob.lst (outL t2 r)]) = .ok (.tup m2) (l2 ++ [Ob.lst (outL t2 r)]) := by simp
    rw [rtS_ap, tupM_ap, consA_ap, h7, Re.bind_ok, consA_ap, s6]
    simp
  · rw [List.getElem?_append_right (by omega)]
    simp
end NP
set_option maxRecDepth 100000
set_option maxHeartbeats 4000000
/-! a state begun anew: in plain terms. -/
namespace NP
open PySem PySem.Spec L2 NL
theorem any_ints (x : Int) : ∀ g : List Int, ((g.map PyData.int).any fun z => PyData.eqv z (.int x)) = g.contains x
  | [] => rfl
  | y :: r => by
    rw [List.map_cons, List.any_cons, any_ints x r, List.contains_cons]
    congr 1
    simp [PyData.eqv]
    exact Bool.eq_iff_iff.mpr (by simp; exact ⟨fun h => h.symm, fun h => h.symm⟩)
theorem inR_ints {lh : LH} {S : Nat} {g : List Int} (x : Int) (hS : lh[S]? = some (.lst (g.map D.int))) (hg : g.length ≤ 100) : inR lh (.int x) (.loc S) = some (g.contains x) := by
  have e1 : rd lh 16 (.loc S) = some (.list (g.map PyData.int)) := by rw [rd_loc lh 15 S _ hS, rd_ints]; rfl
  have h1 := lay_ints g
  have h2 := dep_ints g
  have h3 := line100
  have s1 : SeqAt.shaped (.list (g.map PyData.int)) = true := by
    simp [SeqAt.shaped, PyData.canLay0, PyData.depth, h1]
    omega
  show (match rd lh 16 (.int x), rd lh 16 (.loc S) with
    | some p, some (.list qs) => if SeqAt.shaped p = true ∧ SeqAt.shaped (.list qs) = true then some (qs.any fun z => PyData.eqv z p) else none
    | some p, some (.tuple qs) => if SeqAt.shaped p = true ∧ SeqAt.shaped (.tuple qs) = true then some (qs.any fun z => PyData.eqv z p) else none
    | _, _ => none) = _
  rw [e1, rd_int]
  dsimp only
  rw [if_pos ⟨shaped_int x, s1⟩, any_ints]
theorem inD_ints {lh : LH} {S : Nat} {g : List Int} (x : Int) (hS : lh[S]? = some (.lst (g.map D.int))) (hg : g.length ≤ 100) : inD (.int x) (.loc S) lh = .ok (.bl (g.contains x)) lh := by
  unfold inD
  rw [inR_ints x hS hg]
theorem ninD_ints {lh : LH} {S : Nat} {g : List Int} (x : Int) (hS : lh[S]? = some (.lst (g.map D.int))) (hg : g.length ≤ 100) : ninD (.int x) (.loc S) lh = .ok (.bl (!g.contains x)) lh := by
  unfold ninD
  rw [inR_ints x hS hg]
def onB (ms : List D) (j : Nat) : Bool := match ms[j]? with | some (.tup (.bl b :: _)) => b | _ => false
def keepB (ms : List D) (g : List Int) (j : Nat) : Bool := onB ms j && !g.contains (j : Int)
def newW (ms : List D) (g : List Int) (ws : List D) (j : Nat) : D := if keepB ms g j = true then ws.getD j .non else if g.contains (j : Int) = true then .int 0 else .non
def anewW (ms ws : List D) (g : List Int) : List D := (List.range ws.length).map (newW ms g ws)
def fltO (ms : List D) (g o : List Int) : List Int := o.filter fun p => keepB ms g p.toNat
def anewO (ms : List D) (os : List (List Int)) (g : List Int) : List (List Int) := ordI (fltO ms g os.head! ++ g) :: ((os.map (fltO ms g)).drop 1).filter fun o => !decide (o = [])
def keptL (ms : List D) (g : List Int) (n : Nat) : List D := (List.range n).map fun j : Nat => D.bl (keepB ms g j)
theorem keptL_at {ms : List D} {g : List Int} {n : Nat} {p : Int} (h0 : 0 ≤ p) (h : p.toNat < n) : atI (keptL ms g n) p = some (.bl (keepB ms g p.toNat)) := atI_of h0 (by
  unfold keptL
  rw [List.getElem?_map, List.getElem?_range h]
  rfl)
theorem set_same {a : Type} {l : List a} {n : Nat} {x : a} (h : l[n]? = some x) : l.set n x = l := by
  obtain ⟨h1, h2⟩ := List.getElem?_eq_some_iff.mp h
  subst h2
  simp
theorem anew_loop {E : Option D → LE} {nG : TM} {body : SM} {W : Nat} {base : LH} {wsN ws : List D} (hlen : wsN.length = ws.length) (kp : Nat → Bool) (hk : ∀ j, j < ws.length → kp j = true → wsN[j]? = ws[j]?) (hW : base[W]? = some (.lst ws))
    (hG : ∀ d x l, nG d (E x) l = .nx (E (some d)) l)
    (hb : ∀ (j : Nat) (l : LH) (xs : List D), j < ws.length → xs.length = ws.length → l = base.set W (.lst xs) → body (E (some (.int (j : Int)))) l = if kp j = true then .nx (E (some (.int (j : Int)))) l else .nx (E (some (.int (j : Int)))) (base.set W (.lst (xs.set j (wsN.getD j .non))))) (x0 : Option D) :
    ∃ x, forN (itR 0 ws.length).nx nG body (ws.length + 1) 0 (E x0) base = .nx (E x) (base.set W (.lst wsN)) := by
  have hWl := (List.getElem?_eq_some_iff.mp hW).1
  obtain ⟨e', l', p, q⟩ := forN_inv (nx := (itR 0 ws.length).nx) (g := nG) (body := body)
    (fun i e l => ∃ x, e = E x ∧ l = base.set W (.lst (wsN.take i ++ ws.drop i))) ws.length
    (fun i e l hi I => by
      obtain ⟨x, rfl, rfl⟩ := I
      have hl : (wsN.take i ++ ws.drop i).length = ws.length := by simp; omega
      have hb' := hb i _ _ hi hl rfl
      have hwi : i < wsN.length := by omega
      have hset : (wsN.take i ++ ws.drop i).set i (wsN.getD i .non) = wsN.take (i + 1) ++ ws.drop (i + 1) := by
        rw [List.set_append_right _ _ (by simp; omega), List.length_take, Nat.min_eq_left (by omega), Nat.sub_self, List.drop_eq_getElem_cons hi, List.set_cons_zero, List.take_succ_eq_append_getElem hwi, List.append_assoc]
        rw [List.getD_eq_getElem?_getD, List.getElem?_eq_getElem hwi]
        rfl
      cases hkp : kp i with
      | false =>
        rw [hkp, hset] at hb'
        refine ⟨.int (i : Int), _, _, itR_nx hi, .inl ?_, some (.int (i : Int)), rfl, rfl⟩
        rw [hG, bd_nx]
        exact hb'
      | true =>
        rw [hkp] at hb'
        have : wsN.take i ++ ws.drop i = wsN.take (i + 1) ++ ws.drop (i + 1) := by
          rw [← hset, List.getD_eq_getElem?_getD, hk i hi hkp, List.getElem?_eq_getElem hi]
          rw [List.set_append_right _ _ (by simp; omega), List.length_take, Nat.min_eq_left (by omega), Nat.sub_self, List.drop_eq_getElem_cons hi, List.set_cons_zero]
          rfl
        refine ⟨.int (i : Int), E (some (.int (i : Int))), base.set W (.lst (wsN.take i ++ ws.drop i)), itR_nx hi, .inl ?_, some (.int (i : Int)), rfl, ?_⟩
        · rw [hG, bd_nx]
          exact hb'
        · rw [this])
    (fun e l I => itR_end)
    (ws.length + 1) 0 (E x0) base (by omega) (by omega) ⟨x0, rfl, by
      rw [List.take_zero, List.nil_append, List.drop_zero]
      exact (set_same hW).symm⟩
  obtain ⟨x, rfl, rfl⟩ := q
  rw [List.drop_length, List.append_nil, List.take_of_length_le (by omega)] at p
  exact ⟨x, p⟩
theorem newW_kept {ms ws : List D} {g : List Int} (j : Nat) (hj : j < ws.length) (h : keepB ms g j = true) : (anewW ms ws g)[j]? = ws[j]? := by
  unfold anewW
  rw [List.getElem?_map, List.getElem?_range hj]
  show some (newW ms g ws j) = _
  unfold newW
  rw [if_pos h, List.getD_eq_getElem?_getD, List.getElem?_eq_getElem hj]
  rfl
theorem newW_not {ms ws : List D} {g : List Int} (j : Nat) (hj : j < ws.length) (h : keepB ms g j = false) : (anewW ms ws g).getD j .non = if g.contains (j : Int) = true then .int 0 else .non := by
  unfold anewW
  rw [List.getD_eq_getElem?_getD, List.getElem?_map, List.getElem?_range hj]
  show newW ms g ws j = _
  unfold newW
  rw [if_neg (by rw [h]; exact Bool.false_ne_true)]
theorem anewW_len (ms ws : List D) (g : List Int) : (anewW ms ws g).length = ws.length := by unfold anewW; simp
theorem flt_map (ms : List D) (g o : List Int) : ((o.filter fun p => keepB ms g p.toNat).map D.int) = (fltO ms g o).map D.int := rfl
/-- what the two need of a state and of the rows handed to them -/
structure AnewOk (n : Nat) (ws : List D) (os : List (List Int)) (ms' : List D) (g : List Int) : Prop where
  n16 : n ≤ 16
  wl : ws.length = n
  mm : ∀ j, j < n → ∃ b x, ms'[j]? = some (.tup [.bl b, x])
  ne : os ≠ []
  ol : os.length ≤ 90
  gl : ∀ o ∈ os, o.length ≤ 16
  pl : ∀ o ∈ os, ∀ p ∈ o, 0 ≤ p ∧ p.toNat < n
  g16 : g.length ≤ 16
theorem sort_ints {lh : LH} {n : Nat} {g : List Int} (h : lh[n]? = some (.lst (g.map D.int))) : sortD [.loc n] lh = .ok (.loc lh.length) (lh ++ [Ob.lst ((ordI g).map D.int)]) := by
  show (match sq lh (.loc n) with | some xs => (match intL xs with | some ns => Re.ok (D.loc lh.length) (lh ++ [Ob.lst ((ordI ns).map D.int)]) | none => .bad) | none => .bad) = _
  rw [sq_loc, h]
  dsimp only
  rw [intL_map]
theorem tupleD_loc {lh : LH} {n : Nat} {xs : List D} (h : lh[n]? = some (.lst xs)) : tupleD [.loc n] lh = .ok (.tup xs) lh := by
  show (match sq lh (.loc n) with | some xs => Re.ok (D.tup xs) lh | none => .bad) = _
  rw [sq_loc, h]
end NP
set_option maxRecDepth 100000
set_option maxHeartbeats 4000000
/-! a state begun anew: the law's. -/
namespace NP
open PySem PySem.Spec L2 NL
theorem varM_at {e : LE} {lh : LH} (i : Nat) {d : D} (h : e[i]? = some (some d)) : varM i e lh = .ok d lh := varM_ap e lh i h
theorem kept_in {s : Nat} {m6 : M} {e : LE} {l : LH} {k : Nat} {ms : List D} {g : List Int} {n : Nat} {p : Int} (h6 : m6 e l = .ok (.loc k) l) (hv : varM s e l = .ok (.int p) l) (hk : l[k]? = some (.lst (keptL ms g n))) (h0 : 0 ≤ p) (h : p.toNat < n) :
    truM (opM ixD m6 (varM s)) e l = .ok (keepB ms g p.toNat) l := by
  rw [truM_ap, opM_ap, h6, Re.bind_ok, hv, Re.bind_ok, ixD_loc', hk]
  dsimp only
  rw [keptL_at h0 h]
  rfl
/-- the kept places of a group, as a tuple -/
theorem inner_ok {e : LE} {lh : LH} {so si k n : Nat} {ms : List D} {g o : List Int} {own : List Nat} (hso : varM so e lh = .ok (gD o) lh) (ho : o.length ≤ 16) (hpl : ∀ p ∈ o, 0 ≤ p ∧ p.toNat < n) (hk : lh[k]? = some (.lst (keptL ms g n)))
    (hin : ∀ (d : D) (l : LH), varM si ((wipeD e own).set si (some d)) l = .ok d l ∧ varM 6 ((wipeD e own).set si (some d)) l = .ok (.loc k) l) :
    ∃ l', callM tupleD (consA (lcM (seqI (varM so)) (nmG si) (truM (opM ixD (varM 6) (varM si))) (varM si) own) (nilA)) e lh = .ok (gD (fltO ms g o)) l' ∧ Gr lh l' := by
  have hit : seqI (varM so) e lh = .ok (itT (o.map D.int)) lh := seqI_tup hso
  obtain ⟨l1, a1, a2, a3⟩ := lcM_xs (g := nmG si) (t := truM (opM ixD (varM 6) (varM si))) (m := varM si) (own := own) hit o (by omega) (by show (o.map D.int).length + 1 = _; rw [List.length_map]) (fun p => keepB ms g p.toNat) D.int
    (fun i p l hp gr => by
      obtain ⟨h0, h1⟩ := hpl p (List.mem_of_getElem? hp)
      obtain ⟨z1, z2⟩ := hin (.int p) l
      exact ⟨.int p, (wipeD e own).set si (some (.int p)), l, by rw [itT_nx, List.getElem?_map, hp]; rfl, rfl, kept_in z2 z1 (gr.get hk id) h0 h1, .refl, fun _ => ⟨l, z1, .refl⟩⟩)
    (fun l gr => by rw [itT_nx, List.getElem?_eq_none (by rw [List.length_map]; exact Nat.le_refl _)])
  refine ⟨l1, ?_, a2⟩
  rw [callM_ap, consA_ap, a1, Re.bind_ok, nilA_ap, Re.bind_ok, Re.bind_ok, tupleD_loc a3]
  rfl
/-- all groups -/
theorem outer_ok {mo : M} {e : LE} {lh : LH} {so si k n : Nat} {ms : List D} {g : List Int} {os : List (List Int)} {own own1 : List Nat} (hmo : mo e lh = .ok (.tup (os.map gD)) lh) (hol : os.length ≤ 90) (hgl : ∀ o ∈ os, o.length ≤ 16) (hpl : ∀ o ∈ os, ∀ p ∈ o, 0 ≤ p ∧ p.toNat < n) (hk : lh[k]? = some (.lst (keptL ms g n)))
    (hso : ∀ (d : D) (l : LH), varM so ((wipeD e own).set so (some d)) l = .ok d l)
    (hin : ∀ (d d2 : D) (l : LH), varM si ((wipeD ((wipeD e own).set so (some d2)) own1).set si (some d)) l = .ok d l ∧ varM 6 ((wipeD ((wipeD e own).set so (some d2)) own1).set si (some d)) l = .ok (.loc k) l) :
    ∃ l', lcM (seqI mo) (nmG so) (yesT) (callM tupleD (consA (lcM (seqI (varM so)) (nmG si) (truM (opM ixD (varM 6) (varM si))) (varM si) own1) (nilA))) own e lh = .ok (.loc lh.length) l' ∧ Gr lh l' ∧ l'[lh.length]? = some (.lst ((os.map (fltO ms g)).map gD)) := by
  have hit : seqI mo e lh = .ok (itT (os.map gD)) lh := seqI_tup hmo
  obtain ⟨l1, a1, a2, a3⟩ := lcM_xs (g := nmG so) (t := yesT) (m := callM tupleD (consA (lcM (seqI (varM so)) (nmG si) (truM (opM ixD (varM 6) (varM si))) (varM si) own1) (nilA))) (own := own) hit os (by omega) (by show (os.map gD).length + 1 = _; rw [List.length_map]) (fun _ => true) (fun o => gD (fltO ms g o))
    (fun i o l ho gr => by
      have hm := List.mem_of_getElem? ho
      obtain ⟨l2, b1, b2⟩ := inner_ok (si := si) (own := own1) (hso (gD o) l) (hgl o hm) (hpl o hm) (gr.get hk id) (fun d l => hin d (gD o) l)
      exact ⟨gD o, (wipeD e own).set so (some (gD o)), l, by rw [itT_nx, List.getElem?_map, ho]; rfl, rfl, rfl, .refl, fun _ => ⟨l2, b1, b2⟩⟩)
    (fun l gr => by rw [itT_nx, List.getElem?_eq_none (by rw [List.length_map]; exact Nat.le_refl _)])
  refine ⟨l1, a1, a2, ?_⟩
  rw [a3, List.filter_eq_self.mpr (fun _ _ => rfl), List.map_map]
  rfl
/-- the groups that are not empty -/
theorem full_ok {ma : M} {e : LE} {lh l0 : LH} {so n : Nat} {os : List (List Int)} {own : List Nat} (hma : ma e lh = .ok (.loc n) l0) (hn : l0[n]? = some (.lst (os.map gD))) (hol : os.length ≤ 90) (hgl : ∀ o ∈ os, o.length ≤ 16)
    (hso : ∀ (d : D) (l : LH), varM so ((wipeD e own).set so (some d)) l = .ok d l) :
    ∃ l', lcM (seqI ma) (nmG so) (blT (opM neD (varM so) (tupM (nilA)))) (varM so) own e lh = .ok (.loc l0.length) l' ∧ Gr l0 l' ∧ l'[l0.length]? = some (.lst ((os.filter fun o => !decide (o = [])).map gD)) := by
  have hit : seqI ma e lh = .ok (itL (.loc n) (os.map gD)) l0 := seqI_loc hma hn
  refine lcM_xs (g := nmG so) (t := blT (opM neD (varM so) (tupM (nilA)))) (m := varM so) (own := own) hit os (by omega) (by show (os.map gD).length + 1 = _; rw [List.length_map]) (fun o => !decide (o = [])) gD
    (fun i o l ho gr => ?_)
    (fun l gr => by rw [itL_nx (gr.get hn id), List.getElem?_eq_none (by rw [List.length_map]; exact Nat.le_refl _)])
  have hm := List.mem_of_getElem? ho
  have hl := hgl o hm
  refine ⟨gD o, (wipeD e own).set so (some (gD o)), l, by rw [itL_nx (gr.get hn id), List.getElem?_map, ho]; rfl, rfl, ?_, .refl, fun _ => ⟨l, hso _ _, .refl⟩⟩
  rw [blT_ap, opM_ap, hso, Re.bind_ok, tupM_ap, nilA_ap, Re.bind_ok, Re.bind_ok, neD_g _ _ (by omega), Re.bind_ok]
theorem fltO_le (ms : List D) (g o : List Int) : (fltO ms g o).length ≤ o.length := List.length_filter_le _ _
theorem mem_drop1 {a : Type} {l : List a} {n : Nat} {x : a} (h : x ∈ l.drop n) : x ∈ l := List.mem_of_mem_drop h
theorem head_at {a : Type} [Inhabited a] {l : List a} (h : l ≠ []) : l[0]? = some l.head! := by
  cases l with
  | nil => exact absurd rfl h
  | cons x r => rfl
def an1 : SM := (asS (tupM (consA (callM lenD (consA (apM NP.l_parts (consA (varM 0) (nilA))) (nilA))) (consA (callM listD (consA (opM ixD (varM 1) (conM (.int 1))) (nilA))) (nilA)))) (tupG 2 (consG (nmG 4) (consG (nmG 5) (nilG)))))
def anK : M := (lcM (rngI (consA (callM lenD (consA (varM 5) (nilA))) (nilA))) (nmG 7) (yesT) (orM (opM geD (varM 7) (varM 4)) (andM (opM ixD (opM ixD (varM 2) (varM 7)) (conM (.int 0))) (opM ninD (varM 7) (varM 3)))) [7])
def anBody : SM := (ifS (notT (truM (opM ixD (varM 6) (varM 7)))) (asS (ifM (blT (opM inD (varM 7) (varM 3))) (conM (.int 0)) (conM .non)) (subG (varM 5) (varM 7))) (nxS))
def anO : M := (lcM (seqI (opM ixD (varM 1) (conM (.int 2)))) (nmG 10) (yesT) (callM tupleD (consA (lcM (seqI (varM 10)) (nmG 7) (truM (opM ixD (varM 6) (varM 7))) (varM 7) [7]) (nilA))) [10])
def anS : M := (callM tupleD (consA (callM sortD (consA (opM addD (callM listD (consA (opM ixD (varM 8) (conM (.int 0))) (nilA))) (varM 3)) (nilA))) (nilA)))
def anF : M := (lcM (seqI (slM (varM 8) (soM (conM (.int 1))) (noM))) (nmG 10) (blT (opM neD (varM 10) (tupM (nilA)))) (varM 10) [10])
def anR : SM := (rtS (tupM (consA (varM 2) (consA (callM tupleD (consA (varM 5) (nilA))) (consA (opM addD (tupM (consA (varM 9) (nilA))) (callM tupleD (consA anF (nilA)))) (nilA))))))
theorem l_anew_eq : l_anew = fnM 11 (seqS an1 (seqS (asS anK (nmG 6)) (seqS (forS (rngI (consA (varM 4) (nilA))) (nmG 7) anBody) (seqS (asS anO (nmG 8)) (seqS (asS anS (nmG 9)) anR))))) := rfl
theorem l_anew_ok {lh : LH} {b : D} {yss : List (List D)} {ms ws ms' : List D} {os : List (List Int)} {g : List Int} {S : Nat} (N : NetAt lh b yss) (A : AnewOk yss.flatten.length ws os ms' g) (hS : lh[S]? = some (.lst (g.map D.int))) :
    ∃ l', l_anew [b, stD3 ms ws os, .tup ms', .loc S] lh = .ok (stD3 ms' (anewW ms' ws g) (anewO ms' os g)) l' ∧ Gr lh l' := by
  have h16 := A.n16
  have hwl := A.wl
  have hg16 := A.g16
  have h200 : (200 : Nat) ≤ sizeLine := by decide
  have b1 := l_parts_ok N
  generalize hP : yss.flatten = ps at *
  -- the first statement
  have s1 : an1 [some b, some (stD3 ms ws os), some (.tup ms'), some (.loc S), none, none, none, none, none, none, none] lh =
      .nx [some b, some (stD3 ms ws os), some (.tup ms'), some (.loc S), some (.int (ps.length : Int)), some (.loc (lh.length + 2)), none, none, none, none, none] (lh ++ [.lst [], .lst ps, .lst ws]) := by
    have hl : listD [.tup ws] = fun l => .ok (.loc l.length) (l ++ [.lst ws]) := rfl
    simp [an1, stD3, b1, hl, tupG_tup]
  have hS1 : (lh ++ [Ob.lst [], .lst ps, .lst ws])[S]? = some (.lst (g.map D.int)) := get_app hS
  have hW1 : (lh ++ [Ob.lst [], .lst ps, .lst ws])[lh.length + 2]? = some (.lst ws) := by simp
  have g1 : Gr lh (lh ++ [Ob.lst [], .lst ps, .lst ws]) := .app _ _
  have hSl := (List.getElem?_eq_some_iff.mp hS).1
  generalize hL1 : (lh ++ [Ob.lst [], .lst ps, .lst ws]) = L1 at *
  have hL1l : L1.length = lh.length + 3 := by rw [← hL1]; simp
  generalize hWn : lh.length + 2 = W at *
  -- what is kept
  have hrng : rngI (consA (callM lenD (consA (varM 5) (nilA))) (nilA)) [some b, some (stD3 ms ws os), some (.tup ms'), some (.loc S), some (.int (ps.length : Int)), some (.loc W), none, none, none, none, none] L1 = .ok (itR 0 ps.length) L1 := by
    refine rngI_nat ?_ (by omega)
    simp [hW1, hwl]
  obtain ⟨L2, k1, k2, k3⟩ := lcM_xs (g := nmG 7) (t := yesT) (m := orM (opM geD (varM 7) (varM 4)) (andM (opM ixD (opM ixD (varM 2) (varM 7)) (conM (.int 0))) (opM ninD (varM 7) (varM 3)))) (own := [7]) hrng (List.range ps.length) (by simp only [List.length_range]; omega) (by rw [List.length_range]; rfl) (fun _ => true) (fun j : Nat => D.bl (keepB ms' g j))
    (fun i x l hx gr => by
      obtain ⟨hi, rfl⟩ := range_get hx
      obtain ⟨bb, y, hm⟩ := A.mm x hi
      refine ⟨.int (x : Int), _, l, itR_nx hi, rfl, rfl, .refl, fun _ => ⟨l, ?_, .refl⟩⟩
      have hat : atI ms' (x : Int) = some (.tup [.bl bb, y]) := atI_nat hm
      have hge : ¬ (ps.length : Int) ≤ (x : Int) := by omega
      have hon : onB ms' x = bb := by unfold onB; rw [hm]
      have hnin := ninD_ints (x : Int) (gr.get hS1 id) (show g.length ≤ 100 by omega)
      cases bb with
      | false => simp [wipeD, hat, hge, keepB, hon]
      | true => simp [wipeD, hat, hge, keepB, hon, hnin])
    (fun l gr => by rw [List.length_range]; exact itR_end)
  rw [List.filter_eq_self.mpr (fun _ _ => rfl)] at k3
  have k3' : L2[L1.length]? = some (.lst (keptL ms' g ps.length)) := k3
  have hS2 := k2.get hS1 id
  have hW2 := k2.get hW1 id
  have hL2l : L1.length < L2.length := (List.getElem?_eq_some_iff.mp k3).1
  generalize hKn : L1.length = K at *
  -- the loop
  have hr3 : rngI (consA (varM 4) (nilA)) [some b, some (stD3 ms ws os), some (.tup ms'), some (.loc S), some (.int (ps.length : Int)), some (.loc W), some (.loc K), none, none, none, none] L2 = .ok (itR 0 ps.length) L2 := rngI_nat (by simp) (by omega)
  obtain ⟨x7, lp⟩ := anew_loop (E := fun x => [some b, some (stD3 ms ws os), some (.tup ms'), some (.loc S), some (.int (ps.length : Int)), some (.loc W), some (.loc K), x, none, none, none]) (nG := nmG 7) (body := anBody) (W := W) (base := L2) (wsN := anewW ms' ws g) (ws := ws) (anewW_len _ _ _) (keepB ms' g) (fun j hj h => newW_kept j hj h) hW2 (fun d x l => rfl)
    (fun j l xs hj hxl hl => by
      subst hl
      have hWl := (List.getElem?_eq_some_iff.mp hW2).1
      have hKl : (L2.set W (.lst xs))[K]? = some (.lst (keptL ms' g ps.length)) := by rw [List.getElem?_set_ne (by omega)]; exact k3'
      have hSl' : (L2.set W (.lst xs))[S]? = some (.lst (g.map D.int)) := by rw [List.getElem?_set_ne (by omega)]; exact hS2
      have hWl' : (L2.set W (.lst xs))[W]? = some (.lst xs) := by rw [List.getElem?_set_self hWl]
      have hkp := kept_in (s := 7) (m6 := varM 6) (p := (j : Int)) (e := [some b, some (stD3 ms ws os), some (.tup ms'), some (.loc S), some (.int (ps.length : Int)), some (.loc W), some (.loc K), some (.int (j : Int)), none, none, none]) (by simp) (by simp) hKl (by omega) (by omega)
      rw [Int.toNat_natCast] at hkp
      unfold anBody
      rw [ifS_ap, notT_ap, hkp, Re.bind_ok]
      cases hk : keepB ms' g j with
      | true => simp
      | false =>
        have hin := inD_ints (j : Int) hSl' (show g.length ≤ 100 by omega)
        have hix : ixN xs.length (j : Int) = some j := ixN_lt _ _ (by omega)
        rw [newW_not j hj hk]
        cases hc : g.contains (j : Int) with
        | true => rw [hc] at hin; simp [hin, hWl', hix]
        | false => rw [hc] at hin; simp [hin, hWl', hix])
    none
  rw [hwl] at lp
  have hWl2 := (List.getElem?_eq_some_iff.mp hW2).1
  have hW3 : (L2.set W (.lst (anewW ms' ws g)))[W]? = some (.lst (anewW ms' ws g)) := by rw [List.getElem?_set_self hWl2]
  have hK3 : (L2.set W (.lst (anewW ms' ws g)))[K]? = some (.lst (keptL ms' g ps.length)) := by rw [List.getElem?_set_ne (by omega)]; exact k3'
  have hS3 : (L2.set W (.lst (anewW ms' ws g)))[S]? = some (.lst (g.map D.int)) := by rw [List.getElem?_set_ne (by omega)]; exact hS2
  have g3 : Gr lh (L2.set W (.lst (anewW ms' ws g))) := ⟨by rw [List.length_set]; omega, fun n hn hp => by
    rw [List.getElem?_set_ne (by omega)]
    exact (g1.trans k2).same n hn hp⟩
  generalize L2.set W (.lst (anewW ms' ws g)) = L3 at *
  -- the groups
  obtain ⟨L4, o1, o2, o3⟩ := outer_ok (mo := opM ixD (varM 1) (conM (.int 2))) (e := [some b, some (stD3 ms ws os), some (.tup ms'), some (.loc S), some (.int (ps.length : Int)), some (.loc W), some (.loc K), x7, none, none, none]) (so := 10) (si := 7) (own := [10]) (own1 := [7]) (os := os) (by simp [stD3]) A.ol A.gl A.pl hK3
    (fun d l => by simp [wipeD]) (fun d d2 l => ⟨by simp [wipeD], by simp [wipeD]⟩)
  have hW4 := o2.get hW3 id
  have hS4 := o2.get hS3 id
  -- the first group
  have h0 := head_at A.ne
  have hat0 : atI ((os.map (fltO ms' g)).map gD) 0 = some (gD (fltO ms' g os.head!)) := atI_nat (j := 0) (by rw [List.getElem?_map, List.getElem?_map, h0]; rfl)
  have hfl : (fltO ms' g os.head!).length ≤ 16 := by
    have := A.gl _ (List.mem_of_getElem? h0)
    have := fltO_le ms' g os.head!
    omega
  have s5 : anS [some b, some (stD3 ms ws os), some (.tup ms'), some (.loc S), some (.int (ps.length : Int)), some (.loc W), some (.loc K), x7, some (.loc L3.length), none, none] L4 = .ok (gD (ordI (fltO ms' g os.head! ++ g))) (L4 ++ [.lst ((fltO ms' g os.head!).map D.int), .lst ((fltO ms' g os.head! ++ g).map D.int), .lst ((ordI (fltO ms' g os.head! ++ g)).map D.int)]) := by
    have hl : listD [gD (fltO ms' g os.head!)] = fun l => .ok (.loc l.length) (l ++ [.lst ((fltO ms' g os.head!).map D.int)]) := rfl
    have add := addD_at (l := L4 ++ [.lst ((fltO ms' g os.head!).map D.int)]) (n := L4.length) (m := S) (xs := (fltO ms' g os.head!).map D.int) (ys := g.map D.int) (by simp) (get_app hS4) (by simp; omega)
    rw [← List.map_append] at add
    have srt := sort_ints (lh := L4 ++ [.lst ((fltO ms' g os.head!).map D.int)] ++ [.lst ((fltO ms' g os.head! ++ g).map D.int)]) (n := L4.length + 1) (g := fltO ms' g os.head! ++ g) (by simp)
    have tp := tupleD_loc (lh := L4 ++ [.lst ((fltO ms' g os.head!).map D.int)] ++ [.lst ((fltO ms' g os.head! ++ g).map D.int)] ++ [.lst ((ordI (fltO ms' g os.head! ++ g)).map D.int)]) (n := L4.length + 2) (xs := (ordI (fltO ms' g os.head! ++ g)).map D.int) (by simp)
    unfold anS
    have hx : opM ixD (varM 8) (conM (.int 0)) [some b, some (stD3 ms ws os), some (.tup ms'), some (.loc S), some (.int (ps.length : Int)), some (.loc W), some (.loc K), x7, some (.loc L3.length), none, none] L4 = .ok (gD (fltO ms' g os.head!)) L4 := by
      rw [opM_ap, varM_at 8 (by rfl), Re.bind_ok, conM_ap, Re.bind_ok, ixD_loc _ o3 hat0]
    rw [callM_ap, consA_ap, callM_ap, consA_ap, opM_ap, callM_ap, consA_ap, hx, Re.bind_ok, nilA_ap, Re.bind_ok, Re.bind_ok, hl]
    dsimp only
    rw [Re.bind_ok, varM_at 3 (by rfl), Re.bind_ok, add, Re.bind_ok, nilA_ap, Re.bind_ok, Re.bind_ok]
    rw [show (L4 ++ [Ob.lst ((fltO ms' g os.head!).map D.int)]).length = L4.length + 1 by simp, srt, Re.bind_ok, nilA_ap, Re.bind_ok, Re.bind_ok]
    rw [show (L4 ++ [Ob.lst ((fltO ms' g os.head!).map D.int)] ++ [Ob.lst ((fltO ms' g os.head! ++ g).map D.int)]).length = L4.length + 2 by simp, tp]
    simp [gD]
  have gL5 : Gr lh (L4 ++ [.lst ((fltO ms' g os.head!).map D.int), .lst ((fltO ms' g os.head! ++ g).map D.int), .lst ((ordI (fltO ms' g os.head! ++ g)).map D.int)]) := (g3.trans o2).trans (.app _ _)
  have hW5 := get_app (t := [.lst ((fltO ms' g os.head!).map D.int), .lst ((fltO ms' g os.head! ++ g).map D.int), .lst ((ordI (fltO ms' g os.head! ++ g)).map D.int)]) hW4
  have hO5 := get_app (t := [.lst ((fltO ms' g os.head!).map D.int), .lst ((fltO ms' g os.head! ++ g).map D.int), .lst ((ordI (fltO ms' g os.head! ++ g)).map D.int)]) o3
  generalize (L4 ++ [Ob.lst ((fltO ms' g os.head!).map D.int), .lst ((fltO ms' g os.head! ++ g).map D.int), .lst ((ordI (fltO ms' g os.head! ++ g)).map D.int)]) = L5 at *
  -- the rest of the groups
  have hsl : slM (varM 8) (soM (conM (.int 1))) (noM) [some b, some (stD3 ms ws os), some (.tup ms'), some (.loc S), some (.int (ps.length : Int)), some (.loc W), some (.loc K), x7, some (.loc L3.length), some (gD (ordI (fltO ms' g os.head! ++ g))), none] L5 = .ok (.loc L5.length) (L5 ++ [.lst (((os.map (fltO ms' g)).drop 1).map gD)]) := by
    rw [slM_ap, varM_at 8 (by rfl), Re.bind_ok, soM_ap, conM_ap, Re.bind_ok, Re.bind_ok, noM_ap, Re.bind_ok]
    show (match sq L5 (.loc L3.length) with | some ds => Re.ok (D.loc L5.length) (L5 ++ [Ob.lst (cutL ds (some ((1 : Nat) : Int)) none)]) | none => .bad) = _
    rw [sq_loc, hO5]
    dsimp only
    rw [cutL_from (by have := List.length_pos_iff.mpr A.ne; simp; omega), List.map_drop]
  obtain ⟨L6, f1, f2, f3⟩ := full_ok (so := 10) (own := [10]) (os := (os.map (fltO ms' g)).drop 1) hsl (by simp) (by have := A.ol; simp; omega) (fun o ho => by
      obtain ⟨q, hq, rfl⟩ := List.mem_map.mp (mem_drop1 ho)
      have := A.gl q hq
      have := fltO_le ms' g q
      omega)
    (fun d l => by simp [wipeD])
  have hW6 : L6[W]? = some (.lst (anewW ms' ws g)) := f2.get (get_app hW5) id
  have htW : tupleD [.loc W] L5 = .ok (.tup (anewW ms' ws g)) L5 := tupleD_loc hW5
  have htF := tupleD_loc f3
  have hlf : (((os.map (fltO ms' g)).drop 1).filter fun o => !decide (o = [])).length ≤ 90 := by
    have h1 := List.length_filter_le (fun o => !decide (o = [])) ((os.map (fltO ms' g)).drop 1)
    have h2 := A.ol
    have h3 : ((os.map (fltO ms' g)).drop 1).length ≤ os.length := by simp
    omega
  have hadd : ∀ l, addD (.tup [gD (ordI (fltO ms' g os.head! ++ g))]) (.tup ((((os.map (fltO ms' g)).drop 1).filter fun o => !decide (o = [])).map gD)) l = .ok (.tup ((anewO ms' os g).map gD)) l := fun l => by
    show (if [gD (ordI (fltO ms' g os.head! ++ g))].length + ((((os.map (fltO ms' g)).drop 1).filter fun o => !decide (o = [])).map gD).length ≤ sizeLine then Re.ok (D.tup ([gD (ordI (fltO ms' g os.head! ++ g))] ++ ((((os.map (fltO ms' g)).drop 1).filter fun o => !decide (o = [])).map gD))) l else _) = _
    rw [if_pos (by rw [List.length_map]; simp only [List.length_cons, List.length_nil]; omega)]
    rfl
  refine ⟨L6, ?_, (gL5.trans (.app _ _)).trans f2⟩
  have hst : stD 11 [b, stD3 ms ws os, .tup ms', .loc S] = [some b, some (stD3 ms ws os), some (.tup ms'), some (.loc S), none, none, none, none, none, none, none] := by simp
  rw [l_anew_eq, fnM_ap, hst, seqS_ap, s1, bd_nx, seqS_ap, asS_ap]
  unfold anK
  rw [k1, toS_ok, nmG_ap, bd_nx, seqS_ap, forS_ap]
  show finM ((toSI _ _ (rngI _ [some b, some (stD3 ms ws os), some (.tup ms'), some (.loc S), some (.int (ps.length : Int)), some (.loc W), some (.loc K), none, none, none, none] L2)).bd _) = _
  rw [hr3, toSI_ok]
  show finM ((forN _ _ _ (ps.length + 1) 0 [some b, some (stD3 ms ws os), some (.tup ms'), some (.loc S), some (.int (ps.length : Int)), some (.loc W), some (.loc K), none, none, none, none] _).bd _) = _
  rw [lp, bd_nx, seqS_ap, asS_ap]
  unfold anO
  rw [o1, toS_ok, nmG_ap, bd_nx, seqS_ap, asS_ap]
  show finM ((toS _ _ (anS [some b, some (stD3 ms ws os), some (.tup ms'), some (.loc S), some (.int (ps.length : Int)), some (.loc W), some (.loc K), x7, some (.loc L3.length), none, none] L4)).bd _) = _
  rw [s5, toS_ok, nmG_ap, bd_nx]
  show finM (anR [some b, some (stD3 ms ws os), some (.tup ms'), some (.loc S), some (.int (ps.length : Int)), some (.loc W), some (.loc K), x7, some (.loc L3.length), some (gD (ordI (fltO ms' g os.head! ++ g))), none] L5) = _
  unfold anR anF
  rw [rtS_ap, tupM_ap, consA_ap, varM_at 2 (by rfl), Re.bind_ok, consA_ap, callM_ap, consA_ap, varM_at 5 (by rfl), Re.bind_ok, nilA_ap, Re.bind_ok, Re.bind_ok, htW, Re.bind_ok, consA_ap, opM_ap, tupM_ap, consA_ap, varM_at 9 (by rfl), Re.bind_ok, nilA_ap, Re.bind_ok, Re.bind_ok, Re.bind_ok,
    callM_ap, consA_ap, f1, Re.bind_ok, nilA_ap, Re.bind_ok, Re.bind_ok, htF, Re.bind_ok, hadd, Re.bind_ok, nilA_ap, Re.bind_ok, Re.bind_ok, Re.bind_ok, Re.bind_ok]
  rfl
end NP
set_option maxRecDepth 100000
set_option maxHeartbeats 4000000
/-! a state begun anew: the program's. -/
namespace NP
open PySem PySem.Spec L2 NL
def rs1 : SM := parS 4 5 (consA (opM ixD (varM 1) (conM (.int 1))) (consA (opM ixD (varM 1) (conM (.int 2))) (nilA)))
def rsK (c : CA) : M := (lcM (rngI (consA (callM lenD (consA (varM 4) (nilA))) (nilA))) (nmG 9) (yesT) (orM (opM geD (varM 9) (lenOM (c "Net") (NP.Net___len__ c) (varM 0))) (andM (opM ixD (opM ixD (varM 2) (varM 9)) (conM (.int 0))) (opM ninD (varM 9) (varM 3)))) [9])
def rsO : M := (lcM (seqI (varM 5)) (nmG 11) (yesT) (callM tupleD (consA (lcM (seqI (varM 11)) (nmG 9) (truM (opM ixD (varM 6) (varM 9))) (varM 9) [9]) (nilA))) [11])
def rs4 : SM := (asS (callM listD (consA (varM 4) (nilA))) (nmG 8))
def rsBody : SM := (ifS (notT (truM (opM ixD (varM 6) (varM 9)))) (asS (ifM (blT (opM inD (varM 9) (varM 3))) (conM (.int 0)) (conM .non)) (subG (varM 8) (varM 9))) (nxS))
def rsF : M := (lcM (seqI (slM (varM 7) (soM (conM (.int 1))) (noM))) (nmG 11) (blT (opM neD (varM 11) (tupM (nilA)))) (varM 11) [11])
def rsS : M := (callM tupleD (consA (callM sortD (consA (opM addD (callM listD (consA (opM ixD (varM 7) (conM (.int 0))) (nilA))) (varM 3)) (nilA))) (nilA)))
def rsR : SM := (rtS (tupM (consA (varM 2) (consA (callM tupleD (consA (varM 8) (nilA))) (consA (tupSM (consA rsS (starA (varM 10) (nilA)))) (nilA))))))
theorem restarted_eq (c : CA) : restarted c = fnM 12 (seqS rs1 (seqS (asS (rsK c) (nmG 6)) (seqS (asS rsO (nmG 7)) (seqS rs4 (seqS (forS (rngI (consA (lenOM (c "Net") (NP.Net___len__ c) (varM 0)) (nilA))) (nmG 9) rsBody) (seqS (asS rsF (nmG 10)) rsR)))))) := rfl
theorem restarted_ok {c : CA} {lh : LH} {N LL PL HL : Nat} {yss : List (List D)} {ms ws ms' : List D} {os : List (List Int)} {g : List Int} {S : Nat} (I : InsAt c lh N LL PL HL yss) (A : AnewOk yss.flatten.length ws os ms' g) (hS : lh[S]? = some (.lst (g.map D.int))) :
    ∃ l', restarted c [.loc N, stD3 ms ws os, .tup ms', .loc S] lh = .ok (stD3 ms' (anewW ms' ws g) (anewO ms' os g)) l' ∧ Gr lh l' := by
  have h16 := A.n16
  have hwl := A.wl
  have hg16 := A.g16
  have h200 : (200 : Nat) ≤ sizeLine := by decide
  have ILen : ∀ l, Gr lh l → lenO (c "Net") (Net___len__ c) (.loc N) l = .ok (.int (yss.flatten.length : Int)) l := fun l gr => (I.mono gr).len
  generalize hP : yss.flatten = ps at *
  have s1 : rs1 [some (.loc N), some (stD3 ms ws os), some (.tup ms'), some (.loc S), none, none, none, none, none, none, none, none] lh =
      .nx [some (.loc N), some (stD3 ms ws os), some (.tup ms'), some (.loc S), some (.tup ws), some (.tup (os.map gD)), none, none, none, none, none, none] lh := by
    simp [rs1, stD3]
  have hSl := (List.getElem?_eq_some_iff.mp hS).1
  -- what is kept
  have hrng : rngI (consA (callM lenD (consA (varM 4) (nilA))) (nilA)) [some (.loc N), some (stD3 ms ws os), some (.tup ms'), some (.loc S), some (.tup ws), some (.tup (os.map gD)), none, none, none, none, none, none] lh = .ok (itR 0 ps.length) lh := by
    refine rngI_nat ?_ (by omega)
    simp [hwl]
  obtain ⟨L2, k1, k2, k3⟩ := lcM_xs (g := nmG 9) (t := yesT) (m := orM (opM geD (varM 9) (lenOM (c "Net") (NP.Net___len__ c) (varM 0))) (andM (opM ixD (opM ixD (varM 2) (varM 9)) (conM (.int 0))) (opM ninD (varM 9) (varM 3)))) (own := [9]) hrng (List.range ps.length) (by simp only [List.length_range]; omega) (by rw [List.length_range]; rfl) (fun _ => true) (fun j : Nat => D.bl (keepB ms' g j))
    (fun i x l hx gr => by
      obtain ⟨hi, rfl⟩ := range_get hx
      obtain ⟨bb, y, hm⟩ := A.mm x hi
      refine ⟨.int (x : Int), _, l, itR_nx hi, rfl, rfl, .refl, fun _ => ⟨l, ?_, .refl⟩⟩
      have hat : atI ms' (x : Int) = some (.tup [.bl bb, y]) := atI_nat hm
      have hge : ¬ (ps.length : Int) ≤ (x : Int) := by omega
      have hon : onB ms' x = bb := by unfold onB; rw [hm]
      have hnin := ninD_ints (x : Int) (gr.get hS id) (show g.length ≤ 100 by omega)
      cases bb with
      | false => simp [wipeD, lenOM_ap, ILen l gr, hat, hge, keepB, hon]
      | true => simp [wipeD, lenOM_ap, ILen l gr, hat, hge, keepB, hon, hnin])
    (fun l gr => by rw [List.length_range]; exact itR_end)
  rw [List.filter_eq_self.mpr (fun _ _ => rfl)] at k3
  have k3' : L2[lh.length]? = some (.lst (keptL ms' g ps.length)) := k3
  have hS2 := k2.get hS id
  have hL2l : lh.length < L2.length := (List.getElem?_eq_some_iff.mp k3).1
  generalize hKn : lh.length = K at *
  -- the groups
  obtain ⟨L3, o1, o2, o3⟩ := outer_ok (mo := varM 5) (e := [some (.loc N), some (stD3 ms ws os), some (.tup ms'), some (.loc S), some (.tup ws), some (.tup (os.map gD)), some (.loc K), none, none, none, none, none]) (so := 11) (si := 9) (own := [11]) (own1 := [9]) (os := os) (by simp) A.ol A.gl A.pl k3'
    (fun d l => by simp [wipeD]) (fun d d2 l => ⟨by simp [wipeD], by simp [wipeD]⟩)
  have hS3 := o2.get hS2 id
  have hK3 := o2.get k3' id
  have hOl := (List.getElem?_eq_some_iff.mp o3).1
  generalize hOn : L2.length = O at *
  have s4 : rs4 [some (.loc N), some (stD3 ms ws os), some (.tup ms'), some (.loc S), some (.tup ws), some (.tup (os.map gD)), some (.loc K), some (.loc O), none, none, none, none] L3 =
      .nx [some (.loc N), some (stD3 ms ws os), some (.tup ms'), some (.loc S), some (.tup ws), some (.tup (os.map gD)), some (.loc K), some (.loc O), some (.loc L3.length), none, none, none] (L3 ++ [.lst ws]) := by
    have hl : listD [.tup ws] = fun l => .ok (.loc l.length) (l ++ [.lst ws]) := rfl
    simp [rs4, hl]
  have g4 : Gr lh (L3 ++ [Ob.lst ws]) := (k2.trans o2).trans (.app _ _)
  have hS4 : (L3 ++ [Ob.lst ws])[S]? = some (.lst (g.map D.int)) := get_app hS3
  have hK4 : (L3 ++ [Ob.lst ws])[K]? = some (.lst (keptL ms' g ps.length)) := get_app hK3
  have hO4 : (L3 ++ [Ob.lst ws])[O]? = some (.lst ((os.map (fltO ms' g)).map gD)) := get_app o3
  have hW4 : (L3 ++ [Ob.lst ws])[L3.length]? = some (.lst ws) := by simp
  have hWO : L3.length ≠ O := by omega
  have hWK : L3.length ≠ K := by omega
  have hWS : L3.length ≠ S := by omega
  have hWl : lh.length ≤ L3.length := by have := (k2.trans o2).len; omega
  have hr5 : rngI (consA (lenOM (c "Net") (NP.Net___len__ c) (varM 0)) (nilA)) [some (.loc N), some (stD3 ms ws os), some (.tup ms'), some (.loc S), some (.tup ws), some (.tup (os.map gD)), some (.loc K), some (.loc O), some (.loc L3.length), none, none, none] (L3 ++ [Ob.lst ws]) = .ok (itR 0 ps.length) (L3 ++ [Ob.lst ws]) := by
    refine rngI_nat ?_ (by omega)
    simp [lenOM_ap, ILen _ g4]
  generalize (L3 ++ [Ob.lst ws]) = L4 at *
  generalize hWn : L3.length = W at *
  -- the loop
  obtain ⟨x9, lp⟩ := anew_loop (E := fun x => [some (.loc N), some (stD3 ms ws os), some (.tup ms'), some (.loc S), some (.tup ws), some (.tup (os.map gD)), some (.loc K), some (.loc O), some (.loc W), x, none, none]) (nG := nmG 9) (body := rsBody) (W := W) (base := L4) (wsN := anewW ms' ws g) (ws := ws) (anewW_len _ _ _) (keepB ms' g) (fun j hj h => newW_kept j hj h) hW4 (fun d x l => rfl)
    (fun j l xs hj hxl hl => by
      subst hl
      have hWl := (List.getElem?_eq_some_iff.mp hW4).1
      have hKl : (L4.set W (.lst xs))[K]? = some (.lst (keptL ms' g ps.length)) := by rw [List.getElem?_set_ne hWK]; exact hK4
      have hSl' : (L4.set W (.lst xs))[S]? = some (.lst (g.map D.int)) := by rw [List.getElem?_set_ne hWS]; exact hS4
      have hWl' : (L4.set W (.lst xs))[W]? = some (.lst xs) := by rw [List.getElem?_set_self hWl]
      have hkp := kept_in (s := 9) (m6 := varM 6) (p := (j : Int)) (e := [some (.loc N), some (stD3 ms ws os), some (.tup ms'), some (.loc S), some (.tup ws), some (.tup (os.map gD)), some (.loc K), some (.loc O), some (.loc W), some (.int (j : Int)), none, none]) (by simp) (by simp) hKl (by omega) (by omega)
      rw [Int.toNat_natCast] at hkp
      unfold rsBody
      rw [ifS_ap, notT_ap, hkp, Re.bind_ok]
      cases hk : keepB ms' g j with
      | true => simp
      | false =>
        have hin := inD_ints (j : Int) hSl' (show g.length ≤ 100 by omega)
        have hix : ixN xs.length (j : Int) = some j := ixN_lt _ _ (by omega)
        rw [newW_not j hj hk]
        cases hc : g.contains (j : Int) with
        | true => rw [hc] at hin; simp [hin, hWl', hix]
        | false => rw [hc] at hin; simp [hin, hWl', hix])
    none
  rw [hwl] at lp
  have hWl2 := (List.getElem?_eq_some_iff.mp hW4).1
  have hW5 : (L4.set W (.lst (anewW ms' ws g)))[W]? = some (.lst (anewW ms' ws g)) := by rw [List.getElem?_set_self hWl2]
  have hO5 : (L4.set W (.lst (anewW ms' ws g)))[O]? = some (.lst ((os.map (fltO ms' g)).map gD)) := by rw [List.getElem?_set_ne hWO]; exact hO4
  have hS5 : (L4.set W (.lst (anewW ms' ws g)))[S]? = some (.lst (g.map D.int)) := by rw [List.getElem?_set_ne hWS]; exact hS4
  have g5 : Gr lh (L4.set W (.lst (anewW ms' ws g))) := ⟨by rw [List.length_set]; exact g4.len, fun n hn hp => by
    rw [List.getElem?_set_ne (by omega)]
    exact g4.same n hn hp⟩
  generalize L4.set W (.lst (anewW ms' ws g)) = L5 at *
  -- the rest of the groups
  have hsl : slM (varM 7) (soM (conM (.int 1))) (noM) [some (.loc N), some (stD3 ms ws os), some (.tup ms'), some (.loc S), some (.tup ws), some (.tup (os.map gD)), some (.loc K), some (.loc O), some (.loc W), x9, none, none] L5 = .ok (.loc L5.length) (L5 ++ [.lst (((os.map (fltO ms' g)).drop 1).map gD)]) := by
    rw [slM_ap, varM_at 7 (by rfl), Re.bind_ok, soM_ap, conM_ap, Re.bind_ok, Re.bind_ok, noM_ap, Re.bind_ok]
    show (match sq L5 (.loc O) with | some ds => Re.ok (D.loc L5.length) (L5 ++ [Ob.lst (cutL ds (some ((1 : Nat) : Int)) none)]) | none => .bad) = _
    rw [sq_loc, hO5]
    dsimp only
    rw [cutL_from (by have := List.length_pos_iff.mpr A.ne; simp; omega), List.map_drop]
  obtain ⟨L6, f1, f2, f3⟩ := full_ok (so := 11) (own := [11]) (os := (os.map (fltO ms' g)).drop 1) hsl (by simp) (by have := A.ol; simp; omega) (fun o ho => by
      obtain ⟨q, hq, rfl⟩ := List.mem_map.mp (mem_drop1 ho)
      have := A.gl q hq
      have := fltO_le ms' g q
      omega)
    (fun d l => by simp [wipeD])
  generalize hFn : (L5 ++ [Ob.lst (((os.map (fltO ms' g)).drop 1).map gD)]).length = F at *
  have g6 := (g5.trans (.app _ _)).trans f2
  have hW6 : L6[W]? = some (.lst (anewW ms' ws g)) := f2.get (get_app hW5) id
  have hO6 : L6[O]? = some (.lst ((os.map (fltO ms' g)).map gD)) := f2.get (get_app hO5) id
  have hS6 := f2.get (get_app (t := [.lst (((os.map (fltO ms' g)).drop 1).map gD)]) hS5) id
  have h0 := head_at A.ne
  have hat0 : atI ((os.map (fltO ms' g)).map gD) 0 = some (gD (fltO ms' g os.head!)) := atI_nat (j := 0) (by rw [List.getElem?_map, List.getElem?_map, h0]; rfl)
  have hfl : (fltO ms' g os.head!).length ≤ 16 := by
    have := A.gl _ (List.mem_of_getElem? h0)
    have := fltO_le ms' g os.head!
    omega
  have htW : tupleD [.loc W] L6 = .ok (.tup (anewW ms' ws g)) L6 := tupleD_loc hW6
  have s5 : rsS [some (.loc N), some (stD3 ms ws os), some (.tup ms'), some (.loc S), some (.tup ws), some (.tup (os.map gD)), some (.loc K), some (.loc O), some (.loc W), x9, some (.loc F), none] L6 = .ok (gD (ordI (fltO ms' g os.head! ++ g))) (L6 ++ [.lst ((fltO ms' g os.head!).map D.int), .lst ((fltO ms' g os.head! ++ g).map D.int), .lst ((ordI (fltO ms' g os.head! ++ g)).map D.int)]) := by
    have hl : listD [gD (fltO ms' g os.head!)] = fun l => .ok (.loc l.length) (l ++ [.lst ((fltO ms' g os.head!).map D.int)]) := rfl
    have add := addD_at (l := L6 ++ [.lst ((fltO ms' g os.head!).map D.int)]) (n := L6.length) (m := S) (xs := (fltO ms' g os.head!).map D.int) (ys := g.map D.int) (by simp) (get_app hS6) (by simp; omega)
    rw [← List.map_append] at add
    have srt := sort_ints (lh := L6 ++ [.lst ((fltO ms' g os.head!).map D.int)] ++ [.lst ((fltO ms' g os.head! ++ g).map D.int)]) (n := L6.length + 1) (g := fltO ms' g os.head! ++ g) (by simp)
    have tp := tupleD_loc (lh := L6 ++ [.lst ((fltO ms' g os.head!).map D.int)] ++ [.lst ((fltO ms' g os.head! ++ g).map D.int)] ++ [.lst ((ordI (fltO ms' g os.head! ++ g)).map D.int)]) (n := L6.length + 2) (xs := (ordI (fltO ms' g os.head! ++ g)).map D.int) (by simp)
    unfold rsS
    have hx : opM ixD (varM 7) (conM (.int 0)) [some (.loc N), some (stD3 ms ws os), some (.tup ms'), some (.loc S), some (.tup ws), some (.tup (os.map gD)), some (.loc K), some (.loc O), some (.loc W), x9, some (.loc F), none] L6 = .ok (gD (fltO ms' g os.head!)) L6 := by
      rw [opM_ap, varM_at 7 (by rfl), Re.bind_ok, conM_ap, Re.bind_ok, ixD_loc _ hO6 hat0]
    rw [callM_ap, consA_ap, callM_ap, consA_ap, opM_ap, callM_ap, consA_ap, hx, Re.bind_ok, nilA_ap, Re.bind_ok, Re.bind_ok, hl]
    dsimp only
    rw [Re.bind_ok, varM_at 3 (by rfl), Re.bind_ok, add, Re.bind_ok, nilA_ap, Re.bind_ok, Re.bind_ok]
    rw [show (L6 ++ [Ob.lst ((fltO ms' g os.head!).map D.int)]).length = L6.length + 1 by simp, srt, Re.bind_ok, nilA_ap, Re.bind_ok, Re.bind_ok]
    rw [show (L6 ++ [Ob.lst ((fltO ms' g os.head!).map D.int)] ++ [Ob.lst ((fltO ms' g os.head! ++ g).map D.int)]).length = L6.length + 2 by simp, tp]
    simp [gD]
  have hF7 := get_app (t := [.lst ((fltO ms' g os.head!).map D.int), .lst ((fltO ms' g os.head! ++ g).map D.int), .lst ((ordI (fltO ms' g os.head! ++ g)).map D.int)]) f3
  have g7 : Gr lh (L6 ++ [.lst ((fltO ms' g os.head!).map D.int), .lst ((fltO ms' g os.head! ++ g).map D.int), .lst ((ordI (fltO ms' g os.head! ++ g)).map D.int)]) := g6.trans (.app _ _)
  generalize (L6 ++ [Ob.lst ((fltO ms' g os.head!).map D.int), .lst ((fltO ms' g os.head! ++ g).map D.int), .lst ((ordI (fltO ms' g os.head! ++ g)).map D.int)]) = L7 at *
  have hlf : (((os.map (fltO ms' g)).drop 1).filter fun o => !decide (o = [])).length ≤ 90 := by
    have h1 := List.length_filter_le (fun o => !decide (o = [])) ((os.map (fltO ms' g)).drop 1)
    have h2 := A.ol
    have h3 : ((os.map (fltO ms' g)).drop 1).length ≤ os.length := by simp
    omega
  have hopn : opn L7 (.loc F) = some ((((os.map (fltO ms' g)).drop 1).filter fun o => !decide (o = [])).map gD) := by
    show sq L7 (.loc F) = _
    rw [sq_loc, hF7]
  have htu : tupSM (consA rsS (starA (varM 10) (nilA))) [some (.loc N), some (stD3 ms ws os), some (.tup ms'), some (.loc S), some (.tup ws), some (.tup (os.map gD)), some (.loc K), some (.loc O), some (.loc W), x9, some (.loc F), none] L6 = .ok (.tup ((anewO ms' os g).map gD)) L7 := by
    have hst : starA (varM 10) (nilA) [some (.loc N), some (stD3 ms ws os), some (.tup ms'), some (.loc S), some (.tup ws), some (.tup (os.map gD)), some (.loc K), some (.loc O), some (.loc W), x9, some (.loc F), none] L7 = .ok ((((os.map (fltO ms' g)).drop 1).filter fun o => !decide (o = [])).map gD) L7 := by
      unfold starA
      rw [varM_at 10 (by rfl), Re.bind_ok]
      rw [hopn]
      dsimp only
      rw [nilA_ap, Re.bind_ok, List.append_nil]
    unfold tupSM
    rw [consA_ap, s5, Re.bind_ok, hst, Re.bind_ok, Re.bind_ok, if_pos (by rw [List.length_cons, List.length_map]; omega)]
    rfl
  refine ⟨L7, ?_, g7⟩
  have hst : stD 12 [.loc N, stD3 ms ws os, .tup ms', .loc S] = [some (.loc N), some (stD3 ms ws os), some (.tup ms'), some (.loc S), none, none, none, none, none, none, none, none] := by simp
  rw [restarted_eq, fnM_ap, hst, seqS_ap, s1, bd_nx, seqS_ap, asS_ap]
  unfold rsK
  rw [k1, toS_ok, nmG_ap, bd_nx, seqS_ap, asS_ap]
  unfold rsO
  show finM ((toS _ _ (lcM _ _ _ _ _ [some (.loc N), some (stD3 ms ws os), some (.tup ms'), some (.loc S), some (.tup ws), some (.tup (os.map gD)), some (.loc K), none, none, none, none, none] L2)).bd _) = _
  rw [o1, toS_ok, nmG_ap, bd_nx, seqS_ap]
  show finM ((rs4 [some (.loc N), some (stD3 ms ws os), some (.tup ms'), some (.loc S), some (.tup ws), some (.tup (os.map gD)), some (.loc K), some (.loc O), none, none, none, none] L3).bd _) = _
  rw [s4, bd_nx, seqS_ap, forS_ap, hr5, toSI_ok]
  show finM ((forN _ _ _ (ps.length + 1) 0 [some (.loc N), some (stD3 ms ws os), some (.tup ms'), some (.loc S), some (.tup ws), some (.tup (os.map gD)), some (.loc K), some (.loc O), some (.loc W), none, none, none] _).bd _) = _
  rw [lp, bd_nx, seqS_ap, asS_ap]
  unfold rsF
  rw [f1, toS_ok, nmG_ap, bd_nx]
  show finM (rsR [some (.loc N), some (stD3 ms ws os), some (.tup ms'), some (.loc S), some (.tup ws), some (.tup (os.map gD)), some (.loc K), some (.loc O), some (.loc W), x9, some (.loc F), none] L6) = _
  unfold rsR
  rw [rtS_ap, tupM_ap, consA_ap, varM_at 2 (by rfl), Re.bind_ok, consA_ap, callM_ap, consA_ap, varM_at 8 (by rfl), Re.bind_ok, nilA_ap, Re.bind_ok, Re.bind_ok, htW, Re.bind_ok, consA_ap, htu, Re.bind_ok, nilA_ap, Re.bind_ok, Re.bind_ok, Re.bind_ok, Re.bind_ok]
  rfl
end NP
set_option maxRecDepth 100000
set_option maxHeartbeats 4000000
/-! what holds of each state of a walk. -/
namespace NP
open PySem PySem.Spec L2 NL
structure PlOk (ps ms ws : List D) (p : Int) : Prop where
  p0 : 0 ≤ p
  pt : ∃ w q, w ∈ timedL ∧ ps[p.toNat]? = some (.tup [w, .int q]) ∧ 1 ≤ q
  mm : ∃ x, ms[p.toNat]? = some (.tup [.bl true, x])
  wh : ∃ v : Int, ws[p.toNat]? = some (.int v)
structure StOk (ps ms ws : List D) (os : List (List Int)) (B : Nat) : Prop where
  mem : MemsOk ps ms
  wl : ws.length = ps.length
  one : os ≠ []
  ol : os.length ≤ B
  nd : ∀ g ∈ os, g.Nodup
  pl : ∀ g ∈ os, ∀ p ∈ g, PlOk ps ms ws p
  pw : ∀ w ∈ ws, pd 0 w = true
theorem PlOk.lt {ps ms ws : List D} {p : Int} (h : PlOk ps ms ws p) : p.toNat < ps.length := by
  obtain ⟨w, q, _, e, _⟩ := h.pt
  exact (List.getElem?_eq_some_iff.mp e).1
theorem hole : ∀ (n : Nat) (g : List Int), g.Nodup → (∀ p ∈ g, 0 ≤ p ∧ p.toNat < n) → g.length ≤ n
  | 0, [], _, _ => Nat.le_refl _
  | 0, x :: r, _, h => by have := (h x (List.mem_cons_self ..)).2; omega
  | n + 1, g, hn, h => by
    have h1 := hole n (g.erase (n : Int)) (hn.erase _) (fun p hp => by
      obtain ⟨h1, h2⟩ := (hn.mem_erase_iff).mp hp
      obtain ⟨h3, h4⟩ := h p h2
      exact ⟨h3, by omega⟩)
    have h2 : g.length ≤ (g.erase (n : Int)).length + 1 := by
      rw [List.length_erase]
      split <;> omega
    omega
theorem StOk.gl {ps ms ws : List D} {os : List (List Int)} {B : Nat} (S : StOk ps ms ws os B) : ∀ g ∈ os, g.length ≤ ps.length := fun g hg =>
  hole _ g (S.nd g hg) fun p hp => ⟨(S.pl g hg p hp).p0, (S.pl g hg p hp).lt⟩
theorem bump_len : ∀ (g : List Int) (ws : List D), (bump ws g).length = ws.length
  | [], _ => rfl
  | p :: r, ws => (bump_len r (bump1 ws p)).trans (bump1_len ws p)
theorem bump_ints {ws : List D} {g g2 : List Int} (h : Ints ws g) : Ints (bump ws g2) g := Ints.foldl h
theorem PlOk.bump {ps ms ws : List D} {p : Int} (h : PlOk ps ms ws p) (g : List Int) : PlOk ps ms (bump ws g) p := by
  have : Ints ws [p] := fun q hq => by
    rw [List.mem_singleton] at hq
    subst hq
    exact ⟨h.p0, h.wh⟩
  exact ⟨h.p0, h.pt, h.mm, (bump_ints (g2 := g) this p (List.mem_singleton.mpr rfl)).2⟩
theorem bump_pw : ∀ (g : List Int) {ws : List D}, (∀ w ∈ ws, pd 0 w = true) → ∀ w ∈ bump ws g, pd 0 w = true
  | [], _, h => h
  | p :: r, ws, h => bump_pw r fun w hw => by
    unfold bump1 at hw
    split at hw
    · rcases List.mem_or_eq_of_mem_set hw with hw | rfl
      · exact h w hw
      · rfl
    · exact h w hw
theorem anewW_pw {ms ws : List D} {g : List Int} (h : ∀ w ∈ ws, pd 0 w = true) : ∀ w ∈ anewW ms ws g, pd 0 w = true := fun w hw => by
  unfold anewW at hw
  obtain ⟨j, hj, rfl⟩ := List.mem_map.mp hw
  have hj := List.mem_range.mp hj
  unfold newW
  split
  · rw [List.getD_eq_getElem?_getD, List.getElem?_eq_getElem hj]
    exact h _ (List.getElem_mem hj)
  · split <;> rfl
theorem aged_ok {ps ms ws : List D} {os : List (List Int)} {B : Nat} (hps : ps.length ≤ 16) (S : StOk ps ms ws os B) (hB : B ≤ 80) :
    ∃ ws' os', StOk ps ms ws' os' (B + 1) ∧ ∀ lh, (∃ l', l_older_state [stD3 ms ws os] lh = .ok (stD3 ms ws' os') l' ∧ Gr lh l') ∧ ∃ l', aged [stD3 ms ws os] lh = .ok (stD3 ms ws' os') l' ∧ Gr lh l' := by
  have hone := S.one
  have hol := S.ol
  cases os with
  | nil => exact absurd rfl hone
  | cons g r =>
    have hgl := S.gl g (List.mem_cons_self ..)
    rw [List.length_cons] at hol
    by_cases hg : g = []
    · subst hg
      by_cases hr : r = []
      · subst hr
        refine ⟨ws, [[]], ⟨S.mem, S.wl, S.one, by simp, S.nd, S.pl, S.pw⟩, fun lh => ⟨⟨lh, older_b.1, .refl⟩, ⟨lh, older_b.2, .refl⟩⟩⟩
      · have er : r.dropLast ++ [r.getLast hr] = r := List.dropLast_concat_getLast hr
        generalize r.dropLast = r1 at er
        generalize r.getLast hr = g1 at er
        subst er
        have hg1 : ([] : List Int) :: (r1 ++ [g1]) = [[]] ++ r1 ++ [g1] := by simp
        have m1 : g1 ∈ ([] : List Int) :: (r1 ++ [g1]) := by simp
        have hI : Ints ws g1 := fun p hp => ⟨(S.pl g1 m1 p hp).p0, (S.pl g1 m1 p hp).wh⟩
        rw [List.length_append, List.length_singleton] at hol
        refine ⟨bump ws g1, g1 :: r1, ⟨S.mem, by rw [bump_len]; exact S.wl, (fun h => nomatch h), by rw [List.length_cons]; omega, fun q hq => S.nd q ?_, fun q hq p hp => (S.pl q ?_ p hp).bump g1, bump_pw g1 S.pw⟩, fun lh => ⟨⟨_, older_cl hI (by omega), .app _ _⟩, ⟨_, older_cp hI (by omega), .app _ _⟩⟩⟩
        · rcases List.mem_cons.mp hq with rfl | hq
          · exact m1
          · exact List.mem_cons_of_mem _ (List.mem_append_left _ hq)
        · rcases List.mem_cons.mp hq with rfl | hq
          · exact m1
          · exact List.mem_cons_of_mem _ (List.mem_append_left _ hq)
    · refine ⟨ws, [] :: g :: r, ⟨S.mem, S.wl, (fun h => nomatch h), by simp only [List.length_cons]; omega, fun q hq => ?_, fun q hq p hp => ?_, S.pw⟩, fun lh => ⟨⟨lh, (older_a hg (by omega) (by omega)).1, .refl⟩, ⟨lh, (older_a hg (by omega) (by omega)).2, .refl⟩⟩⟩
      · rcases List.mem_cons.mp hq with rfl | hq
        · exact List.nodup_nil
        · exact S.nd q hq
      · rcases List.mem_cons.mp hq with rfl | hq
        · simp at hp
        · exact S.pl q hq p hp
theorem timed_of {ps ms : List D} (hps : ∀ p ∈ ps, PartD 3 p) (hm : MemsOk ps ms) {j : Nat} {y : D} (h : ms[j]? = some (.tup [.bl true, y])) : ∃ w q, w ∈ timedL ∧ ps[j]? = some (.tup [w, .int q]) ∧ 1 ≤ q := by
  have hj : j < ps.length := by rw [← hm.len]; exact (List.getElem?_eq_some_iff.mp h).1
  have e1 : ps[j]? = some ps[j] := List.getElem?_eq_getElem hj
  have hp := hps _ (List.getElem_mem hj)
  have hmp := hm.at_ j _ _ e1 h
  rw [e1]
  generalize ps[j] = pp at *
  cases hp with
  | timed w q hw h0 _ => exact ⟨w, 1 + q, hw, rfl, by omega⟩
  | change => cases hmp
  | pick s hs =>
    cases hmp with
    | none _ _ h' => exact absurd h' (by simp (decide := true))
    | some _ _ _ h' => exact absurd h' (by simp (decide := true) [timedL])
  | turn x y _ _ _ => cases hmp
theorem MemsOk.two {ps ms : List D} (hm : MemsOk ps ms) (j : Nat) (hj : j < ps.length) : ∃ b x, ms[j]? = some (.tup [.bl b, x]) := by
  have hj2 : j < ms.length := by rw [hm.len]; exact hj
  have := hm.at_ j _ _ (List.getElem?_eq_getElem hj) (List.getElem?_eq_getElem hj2)
  rw [List.getElem?_eq_getElem hj2]
  generalize ms[j] = m at *
  generalize ps[j] = p at *
  cases this with
  | rest => exact ⟨_, _, rfl⟩
  | none => exact ⟨_, _, rfl⟩
  | some => exact ⟨_, _, rfl⟩
  | last => exact ⟨_, _, rfl⟩
/-- rows of places that start -/
structure Starts (ps ms' : List D) (g : List Int) : Prop where
  nd : g.Nodup
  at_ : ∀ x ∈ g, 0 ≤ x ∧ ∃ y, ms'[x.toNat]? = some (.tup [.bl true, y])
theorem Starts.lt {ps ms' : List D} {g : List Int} (h : Starts ps ms' g) (hm : MemsOk ps ms') : ∀ x ∈ g, 0 ≤ x ∧ x.toNat < ps.length := fun x hx => by
  obtain ⟨h0, y, e⟩ := h.at_ x hx
  exact ⟨h0, by rw [← hm.len]; exact (List.getElem?_eq_some_iff.mp e).1⟩
theorem anewOk_of {ps ms ws ms' : List D} {os : List (List Int)} {g : List Int} {B : Nat} (h16 : ps.length ≤ 16) (S : StOk ps ms ws os B) (hB : B ≤ 90) (hm : MemsOk ps ms') (G : Starts ps ms' g) : AnewOk ps.length ws os ms' g :=
  ⟨h16, S.wl, fun j hj => hm.two j hj, S.one, Nat.le_trans S.ol hB, fun o ho => Nat.le_trans (S.gl o ho) h16, fun o ho p hp => ⟨(S.pl o ho p hp).p0, (S.pl o ho p hp).lt⟩, Nat.le_trans (hole _ g G.nd (G.lt hm)) h16⟩
theorem keepB_on {ms : List D} {g : List Int} {j : Nat} (h : keepB ms g j = true) : (∃ x, ms[j]? = some (.tup (.bl true :: x))) ∧ ¬ (j : Int) ∈ g := by
  unfold keepB at h
  rw [Bool.and_eq_true] at h
  refine ⟨?_, fun hj => by have := h.2; simp [hj] at this⟩
  have h1 := h.1
  unfold onB at h1
  split at h1
  · rename_i b x e
    subst h1
    exact ⟨x, e⟩
  · cases h1
theorem mem_fltO {ms : List D} {g o : List Int} {p : Int} (h : p ∈ fltO ms g o) : p ∈ o ∧ keepB ms g p.toNat = true := by
  unfold fltO at h
  exact List.mem_filter.mp h
theorem kept_pl {ps ms ws ms' : List D} {os : List (List Int)} {g o : List Int} {B : Nat} (S : StOk ps ms ws os B) (hm : MemsOk ps ms') (ho : o ∈ os) {p : Int} (hp : p ∈ fltO ms' g o) : PlOk ps ms' (anewW ms' ws g) p := by
  obtain ⟨h1, h2⟩ := mem_fltO hp
  have P := S.pl o ho p h1
  obtain ⟨⟨x, hx⟩, hn⟩ := keepB_on h2
  refine ⟨P.p0, P.pt, ?_, ?_⟩
  · obtain ⟨b, y, e⟩ := hm.two p.toNat P.lt
    rw [e] at hx
    injection hx with hx
    injection hx with hx
    injection hx with hx _
    cases hx
    exact ⟨y, e⟩
  · rw [newW_kept p.toNat (by rw [S.wl]; exact P.lt) h2]
    exact P.wh
theorem st_anew {ps ms ws ms' : List D} {os : List (List Int)} {g : List Int} {B : Nat} (hps : ∀ p ∈ ps, PartD 3 p) (S : StOk ps ms ws os B) (hm : MemsOk ps ms') (G : Starts ps ms' g) : StOk ps ms' (anewW ms' ws g) (anewO ms' os g) B := by
  have h0 := head_at S.one
  have hh := List.mem_of_getElem? h0
  refine ⟨hm, by rw [anewW_len]; exact S.wl, (fun h => nomatch h), ?_, fun o ho => ?_, fun o ho p hp => ?_, anewW_pw S.pw⟩
  · unfold anewO
    have h1 := List.length_filter_le (fun o => !decide (o = [])) ((os.map (fltO ms' g)).drop 1)
    have h2 := S.ol
    have h3 : ((os.map (fltO ms' g)).drop 1).length = os.length - 1 := by simp
    have h4 := List.length_pos_iff.mpr S.one
    rw [List.length_cons]
    omega
  · rcases List.mem_cons.mp ho with rfl | ho
    · rw [(ordI_perm _).nodup_iff]
      refine List.nodup_append.mpr ⟨(S.nd _ hh).filter _, G.nd, fun a ha b hb => ?_⟩
      rintro rfl
      obtain ⟨h1, h2⟩ := mem_fltO ha
      have := (keepB_on h2).2
      rw [Int.toNat_of_nonneg (S.pl _ hh a h1).p0] at this
      exact this hb
    · obtain ⟨ho, _⟩ := List.mem_filter.mp ho
      obtain ⟨q, hq, rfl⟩ := List.mem_map.mp (mem_drop1 ho)
      exact (S.nd q hq).filter _
  · rcases List.mem_cons.mp ho with rfl | ho
    · rcases List.mem_append.mp ((ordI_perm _).mem_iff.mp hp) with hp | hp
      · exact kept_pl S hm hh hp
      · obtain ⟨g0, y, e⟩ := G.at_ p hp
        have hlt := (G.lt hm p hp).2
        have hc : g.contains ((p.toNat : Nat) : Int) = true := by rw [Int.toNat_of_nonneg g0]; simpa using hp
        have hk : keepB ms' g p.toNat = false := by unfold keepB; rw [hc]; simp
        refine ⟨g0, timed_of hps hm e, ⟨y, e⟩, 0, ?_⟩
        have := newW_not (ms := ms') (ws := ws) (g := g) p.toNat (by rw [S.wl]; exact hlt) hk
        rw [hc, if_pos rfl, List.getD_eq_getElem?_getD] at this
        have hl : p.toNat < (anewW ms' ws g).length := by rw [anewW_len, S.wl]; exact hlt
        rw [List.getElem?_eq_getElem hl] at this ⊢
        exact congrArg some this
    · obtain ⟨ho, _⟩ := List.mem_filter.mp ho
      obtain ⟨q, hq, rfl⟩ := List.mem_map.mp (mem_drop1 ho)
      exact kept_pl S hm hq hp
end NP
set_option maxRecDepth 100000
set_option maxHeartbeats 4000000
/-! the places that are due. -/
namespace NP
open PySem PySem.Spec L2 NL
def dueB (ps ws : List D) (p : Int) : Bool := match ps[p.toNat]?, ws[p.toNat]? with
  | some (.tup [_, .int q]), some (.int v) => decide (q = v)
  | _, _ => false
def dueL (ps ws : List D) (os : List (List Int)) : List Int := os.head!.filter (dueB ps ws)
theorem PlOk.due {ps ms ws : List D} {p : Int} (h : PlOk ps ms ws p) : ∃ (w : D) (q v : Int), w ∈ timedL ∧ ps[p.toNat]? = some (.tup [w, .int q]) ∧ ws[p.toNat]? = some (.int v) ∧ dueB ps ws p = decide (q = v) := by
  obtain ⟨w, q, hw, e, _⟩ := h.pt
  obtain ⟨v, ev⟩ := h.wh
  exact ⟨w, q, v, hw, e, ev, by unfold dueB; rw [e, ev]⟩
theorem dec_comm (q v : Int) : (q == v) = decide (q = v) := rfl
theorem l_due_ok {lh : LH} {b : D} {yss : List (List D)} {ms ws : List D} {os : List (List Int)} {B : Nat} (N : NetAt lh b yss) (S : StOk yss.flatten ms ws os B) :
    ∃ n l', l_due_places [b, stD3 ms ws os] lh = .ok (.loc n) l' ∧ Gr lh l' ∧ l'[n]? = some (.lst ((dueL yss.flatten ws os).map D.int)) := by
  have h16 := N.n16
  have b1 := l_parts_ok N
  have h0 := head_at S.one
  have hh := List.mem_of_getElem? h0
  have hgl := S.gl _ hh
  generalize hP : yss.flatten = ps at *
  have hP1 : (lh ++ [Ob.lst [], .lst ps])[lh.length + 1]? = some (.lst ps) := by simp
  have hat0 : atI (os.map gD) 0 = some (gD os.head!) := atI_nat (j := 0) (by rw [List.getElem?_map, h0]; rfl)
  have hit : seqI (opM ixD (opM ixD (varM 1) (conM (.int 2))) (conM (.int 0))) [some b, some (stD3 ms ws os), some (.loc (lh.length + 1)), none] (lh ++ [Ob.lst [], .lst ps]) = .ok (itT (os.head!.map D.int)) (lh ++ [Ob.lst [], .lst ps]) := seqI_tup (by
    simp [stD3, hat0, gD])
  have g1 : Gr lh (lh ++ [Ob.lst [], .lst ps]) := .app _ _
  generalize hL : (lh ++ [Ob.lst [], .lst ps]) = L at *
  obtain ⟨L2, a1, a2, a3⟩ := lcM_xs (g := nmG 3) (t := andT (blT (opM ltD (varM 3) (callM lenD (consA (varM 2) (nilA))))) (blT (opM eqD (apM NP.l_wait (consA (opM ixD (varM 2) (varM 3)) (nilA))) (opM ixD (opM ixD (varM 1) (conM (.int 1))) (varM 3))))) (m := varM 3) (own := [3]) hit os.head! (by omega) (by show (os.head!.map D.int).length + 1 = _; rw [List.length_map]) (dueB ps ws) D.int
    (fun i p l hp gr => by
      have P := S.pl _ hh p (List.mem_of_getElem? hp)
      obtain ⟨w, q, v, hw, e1, e2, e3⟩ := P.due
      have q1 : atI ps p = some (.tup [w, .int q]) := atI_of P.p0 e1
      have q2 : atI ws p = some (.int v) := atI_of P.p0 e2
      have hPl := gr.get hP1 id
      have hlt : p < (ps.length : Int) := by have := P.lt; have := P.p0; omega
      have lw := l_wait_ok (q := q) hw l
      refine ⟨.int p, [some b, some (stD3 ms ws os), some (.loc (lh.length + 1)), some (.int p)], l ++ [.lst timedL], by rw [itT_nx, List.getElem?_map, hp]; rfl, by simp [wipeD], ?_, .app _ _, fun _ => ⟨_, by simp, .refl⟩⟩
      rw [e3]
      simp [hPl, hlt, q1, lw, stD3, q2, dec_comm])
    (fun l gr => by rw [itT_nx, List.getElem?_eq_none (by rw [List.length_map]; exact Nat.le_refl _)])
  refine ⟨L.length, L2, ?_, g1.trans a2, a3⟩
  unfold l_due_places
  have hst : stD 4 [b, stD3 ms ws os] = [some b, some (stD3 ms ws os), none, none] := by simp
  rw [fnM_ap, hst, seqS_ap, asS_ap, apM_ap, consA_ap, varM_0, Re.bind_ok, nilA_ap, Re.bind_ok, Re.bind_ok, b1, toS_ok, nmG_ap, bd_nx, rtS_ap]
  show finM (toS _ _ (lcM _ _ _ _ _ [some b, some (stD3 ms ws os), some (.loc (lh.length + 1)), none] L)) = _
  rw [a1]
  rfl
def dpBody (c : CA) : SM := (ifS (andT (blT (opM ltD (varM 2) (lenOM (c "Net") (NP.Net___len__ c) (varM 0)))) (blT (opM eqD (opM ixD (opM ixD (varM 1) (conM (.int 1))) (varM 2)) (apM NP.wait_of (consA (opM ixD (fldM (c "Net") "part_list" (varM 0)) (varM 2)) (nilA)))))) (rtS (varM 2)) (nxS))
theorem dp_step {c : CA} {lh : LH} {N LL PL HL : Nat} {yss : List (List D)} {ms ws : List D} {os : List (List Int)} {p : Int} (I : InsAt c lh N LL PL HL yss) (P : PlOk yss.flatten ms ws p) :
    dpBody c [some (.loc N), some (stD3 ms ws os), some (.int p)] lh = if dueB yss.flatten ws p = true then .rt (.int p) lh else .nx [some (.loc N), some (stD3 ms ws os), some (.int p)] lh := by
  obtain ⟨w, q, v, hw, e1, e2, e3⟩ := P.due
  have q1 : atI yss.flatten p = some (.tup [w, .int q]) := atI_of P.p0 e1
  have q2 : atI ws p = some (.int v) := atI_of P.p0 e2
  have hlt : p < (yss.flatten.length : Int) := by have := P.lt; have := P.p0; omega
  simp only [List.length_flatten] at hlt
  have lw := wait_of_ok (q := q) hw lh
  have hlen := I.len
  simp only [List.length_flatten] at hlen
  rw [e3]
  by_cases hqv : q = v
  · subst hqv
    simp [dpBody, lenOM_ap, hlen, hlt, fldM_ap, I.fp, I.pl, q1, q2, lw, stD3]
  · have : ¬ v = q := fun h => hqv h.symm
    simp [dpBody, lenOM_ap, hlen, hlt, fldM_ap, I.fp, I.pl, q1, q2, lw, stD3, hqv, this]
theorem dp_loop {c : CA} {lh : LH} {N LL PL HL : Nat} {yss : List (List D)} {ms ws : List D} {os : List (List Int)} {o : List Int} (I : InsAt c lh N LL PL HL yss) (hP : ∀ p ∈ o, PlOk yss.flatten ms ws p) :
    ∀ (k i : Nat) (x : Option D), i + k = o.length →
    (∃ p r, (o.drop i).filter (dueB yss.flatten ws) = p :: r ∧ forN (itT (o.map D.int)).nx (nmG 2) (dpBody c) (k + 1) i [some (.loc N), some (stD3 ms ws os), x] lh = .rt (.int p) lh) ∨
    ((o.drop i).filter (dueB yss.flatten ws) = [] ∧ ∃ x', forN (itT (o.map D.int)).nx (nmG 2) (dpBody c) (k + 1) i [some (.loc N), some (stD3 ms ws os), x] lh = .nx [some (.loc N), some (stD3 ms ws os), x'] lh)
  | 0, i, x, h => .inr ⟨by rw [List.drop_of_length_le (by omega)]; rfl, x, by
      unfold forN
      rw [itT_nx, List.getElem?_eq_none (by rw [List.length_map]; omega)]⟩
  | k + 1, i, x, h => by
    have hi : i < o.length := by omega
    have hx : (o.map D.int)[i]? = some (.int o[i]) := by rw [List.getElem?_map, List.getElem?_eq_getElem hi]; rfl
    have st := dp_step (os := os) I (hP o[i] (List.getElem_mem hi))
    rw [List.drop_eq_getElem_cons hi]
    have e : ∀ f, forN (itT (o.map D.int)).nx (nmG 2) (dpBody c) (f + 1) i [some (.loc N), some (stD3 ms ws os), x] lh = (dpBody c [some (.loc N), some (stD3 ms ws os), some (.int o[i])] lh).lp (forN (itT (o.map D.int)).nx (nmG 2) (dpBody c) f (i + 1)) := fun f => by
      conv => lhs; unfold forN
      rw [itT_nx, hx]
      rfl
    cases hd : dueB yss.flatten ws o[i] with
    | true =>
      rw [hd, if_pos rfl] at st
      refine .inl ⟨o[i], (o.drop (i + 1)).filter (dueB yss.flatten ws), by rw [List.filter_cons_of_pos hd], ?_⟩
      rw [e, st]
      rfl
    | false =>
      rw [hd, if_neg Bool.false_ne_true] at st
      rw [List.filter_cons_of_neg (by rw [hd]; exact Bool.false_ne_true), e, st]
      exact dp_loop I hP k (i + 1) (some (.int o[i])) (by omega)
def optD : List Int → D | [] => .non | p :: _ => .int p
theorem due_ok {c : CA} {lh : LH} {N LL PL HL : Nat} {yss : List (List D)} {ms ws : List D} {os : List (List Int)} {B : Nat} (I : InsAt c lh N LL PL HL yss) (S : StOk yss.flatten ms ws os B) :
    due_place c [.loc N, stD3 ms ws os] lh = .ok (optD (dueL yss.flatten ws os)) lh := by
  have h0 := head_at S.one
  have hh := List.mem_of_getElem? h0
  have hat0 : atI (os.map gD) 0 = some (gD os.head!) := atI_nat (j := 0) (by rw [List.getElem?_map, h0]; rfl)
  have hit : seqI (opM ixD (opM ixD (varM 1) (conM (.int 2))) (conM (.int 0))) [some (.loc N), some (stD3 ms ws os), none] lh = .ok (itT (os.head!.map D.int)) lh := seqI_tup (by
    simp [stD3, hat0, gD])
  have e0 : due_place c = fnM 3 (seqS (forS (seqI (opM ixD (opM ixD (varM 1) (conM (.int 2))) (conM (.int 0)))) (nmG 2) (dpBody c)) (rtS (conM .non))) := rfl
  have hst : stD 3 [.loc N, stD3 ms ws os] = [some (.loc N), some (stD3 ms ws os), none] := by simp
  have hfu : (itT (os.head!.map D.int)).fuel = os.head!.length + 1 := by simp [itT]
  rw [e0, fnM_ap, hst, seqS_ap, forS_ap, hit, toSI_ok, hfu]
  rcases dp_loop (os := os) I (fun p hp => S.pl _ hh p hp) os.head!.length 0 none (by omega) with ⟨p, r, h1, h2⟩ | ⟨h1, x', h2⟩
  · rw [List.drop_zero] at h1
    rw [h2]
    unfold dueL
    rw [h1]
    rfl
  · rw [List.drop_zero] at h1
    rw [h2]
    unfold dueL
    rw [h1]
    rfl
end NP
set_option maxRecDepth 100000
set_option maxHeartbeats 4000000
/-! one ringing: what starts, what is due after it. -/
namespace NP
open PySem PySem.Spec L2 NL
theorem rang_off {w x : D} {n : Int} (hw : w ∈ timedL) (hm : MemP (.tup [w, .int n]) (.tup [.bl true, x])) (h : (rangF (.tup [w, .int n]) (.tup [.bl true, x])).2.2 = false) : ∃ z, (rangF (.tup [w, .int n]) (.tup [.bl true, x])).1 = .tup [.bl false, z] := by
  cases hm with
  | none _ _ h' =>
    rcases h' with rfl | rfl
    · exact ⟨.non, by simp (decide := true) [rangF, rang, tri]⟩
    · exact ⟨.non, by simp (decide := true) [rangF, rang, tri]⟩
  | some _ _ _ h1 h2 hi =>
    obtain ⟨s, q, hs, rfl⟩ := hi
    obtain ⟨y, rfl, _⟩ := abc_str hs
    simp [timedL] at hw
    rcases hw with rfl | rfl | rfl | rfl | rfl | rfl
    · exact ⟨.non, by simp (decide := true) [rangF, rang, tri]⟩
    · exact absurd rfl h2
    · exact ⟨.non, by simp (decide := true) [rangF, rang, tri]⟩
    · exact ⟨.non, by simp (decide := true) [rangF, rang, tri]⟩
    · simp (decide := true) [rangF, rang, tri] at h
    · simp (decide := true) [rangF, rang, tri] at h
theorem item_pd {t : D} {r : Nat} (h : t = .non ∨ ItemD t) : (outL t r).length ≤ 1 ∧ ∀ d ∈ outL t r, pd 2 d = true := by
  rcases h with rfl | h
  · exact ⟨Nat.zero_le _, fun d hd => by simp [outL] at hd⟩
  · obtain ⟨s, q, hs, rfl⟩ := h
    obtain ⟨y, rfl, _⟩ := abc_str hs
    refine ⟨Nat.le_refl _, fun d hd => ?_⟩
    simp [outL] at hd
    subst hd
    simp [pd, pdL]
structure FireS (yss : List (List D)) (ms : List D) (p r : Nat) (g : List Int) : Prop where
  eq : (fireF yss ms p r).2.1 = g.map D.int
  st : Starts yss.flatten (fireF yss ms p r).1 g
  mem : MemsOk yss.flatten (fireF yss ms p r).1
  off : keepB (fireF yss ms p r).1 g p = false
  ol : (fireF yss ms p r).2.2.length ≤ 1
  od : ∀ d ∈ (fireF yss ms p r).2.2, pd 2 d = true
theorem fire_spec {yss : List (List D)} {ms : List D} {p r : Nat} (hps : ∀ p ∈ yss.flatten, PartD 3 p) (G : Rings yss ms p r) : ∃ g, FireS yss ms p r g := by
  obtain ⟨w, q, e1, hw⟩ := G.pt
  obtain ⟨x, e2⟩ := G.mm
  have g1 : yss.flatten.getD p .non = .tup [w, .int q] := by rw [List.getD_eq_getElem?_getD, e1]; rfl
  have g2 : ms.getD p .non = .tup [.bl true, x] := by rw [List.getD_eq_getElem?_getD, e2]; rfl
  obtain ⟨a1, a2, a3, a4⟩ := rangF_ok (x := x) (n := q) hw (G.hm.at_ p _ _ e1 e2)
  have a5 := rang_off (x := x) (n := q) hw (G.hm.at_ p _ _ e1 e2)
  have hpl : p < ms.length := by rw [G.hm.len]; exact G.lt
  have eF : fireF yss ms p r = ((downA yss.flatten (offN yss (r + 1) - (p + 1)) (p + 1) (ms.set p (rangF (.tup [w, .int q]) (.tup [.bl true, x])).1) [] (rangF (.tup [w, .int q]) (.tup [.bl true, x])).2.1).1,
      (if (rangF (.tup [w, .int q]) (.tup [.bl true, x])).2.2 = true then [.int (p : Int)] else []) ++ (downA yss.flatten (offN yss (r + 1) - (p + 1)) (p + 1) (ms.set p (rangF (.tup [w, .int q]) (.tup [.bl true, x])).1) [] (rangF (.tup [w, .int q]) (.tup [.bl true, x])).2.1).2.1,
      outL (downA yss.flatten (offN yss (r + 1) - (p + 1)) (p + 1) (ms.set p (rangF (.tup [w, .int q]) (.tup [.bl true, x])).1) [] (rangF (.tup [w, .int q]) (.tup [.bl true, x])).2.1).2.2 r) := by
    unfold fireF
    rw [g1, g2]
  generalize rangF (.tup [w, .int q]) (.tup [.bl true, x]) = R at *
  obtain ⟨m', o, k⟩ := R
  dsimp only at *
  have hmset : MemsOk yss.flatten (ms.set p m') := G.hm.set e1 a1
  have hle : p + 1 + (offN yss (r + 1) - (p + 1)) ≤ yss.flatten.length := by
    have := offN_le yss (r + 1)
    have := G.h2
    omega
  obtain ⟨g, hS⟩ := downA_spec hps (offN yss (r + 1) - (p + 1)) (p + 1) (ms.set p m') [] o hle hmset a2
  obtain ⟨hmem, hoo⟩ := downA_ok hps (offN yss (r + 1) - (p + 1)) (p + 1) (ms.set p m') [] o hle hmset a2
  have hat : (downA yss.flatten (offN yss (r + 1) - (p + 1)) (p + 1) (ms.set p m') [] o).1[p]? = some m' := by
    rw [hS.be p (by omega), List.getElem?_set_self hpl]
  have hpd := item_pd (r := r) hoo
  generalize downA yss.flatten (offN yss (r + 1) - (p + 1)) (p + 1) (ms.set p m') [] o = A at *
  refine ⟨(if k = true then [(p : Int)] else []) ++ g, ?_, ⟨?_, ?_⟩, ?_, ?_, ?_, ?_⟩
  · rw [eF, List.map_append, hS.eq]
    cases k <;> rfl
  · cases k with
    | false => exact hS.nd
    | true => exact List.nodup_cons.mpr ⟨fun h => by have := hS.lo _ h; omega, hS.nd⟩
  · rw [eF]
    intro z hz
    rcases List.mem_append.mp hz with hz | hz
    · cases k with
      | false => simp at hz
      | true =>
        simp at hz
        subst hz
        obtain ⟨y, rfl⟩ := a3 rfl
        exact ⟨Int.natCast_nonneg _, y, by rw [Int.toNat_natCast]; exact hat⟩
    · exact ⟨by have := hS.lo z hz; omega, hS.on z hz⟩
  · rw [eF]
    exact hmem
  · rw [eF]
    unfold keepB onB
    dsimp only
    rw [hat]
    cases k with
    | true => simp
    | false =>
      obtain ⟨z, rfl⟩ := a5 rfl
      rfl
  · rw [eF]
    exact hpd.1
  · rw [eF]
    exact hpd.2
theorem filt_lt {a : Type} {P Q : a → Bool} {l : List a} {x : a} (hx : x ∈ l) (hP : P x = true) (hQ : Q x = false) : ((l.filter Q).filter P).length < (l.filter P).length := by
  have e : (l.filter Q).filter P = (l.filter P).filter Q := by
    rw [List.filter_filter, List.filter_filter]
    exact List.filter_congr fun y _ => Bool.and_comm ..
  rw [e]
  exact List.length_filter_lt_length_iff_exists.mpr ⟨x, List.mem_filter.mpr ⟨hx, hP⟩, by rw [hQ]; exact Bool.false_ne_true⟩
theorem due_less {ps ms ws ms' : List D} {os : List (List Int)} {g : List Int} {B : Nat} {p : Int} (hps : ∀ p ∈ ps, PartD 3 p) (S : StOk ps ms ws os B) (hm : MemsOk ps ms') (G : Starts ps ms' g) (hp : p ∈ dueL ps ws os) (hk : keepB ms' g p.toNat = false) :
    (dueL ps (anewW ms' ws g) (anewO ms' os g)).length < (dueL ps ws os).length := by
  obtain ⟨hp1, hp2⟩ := List.mem_filter.mp hp
  have h0 := head_at S.one
  have hh := List.mem_of_getElem? h0
  have e1 : (dueL ps (anewW ms' ws g) (anewO ms' os g)).length = ((fltO ms' g os.head! ++ g).filter (dueB ps (anewW ms' ws g))).length := by
    show ((ordI (fltO ms' g os.head! ++ g)).filter _).length = _
    exact ((ordI_perm _).filter _).length_eq
  have e2 : g.filter (dueB ps (anewW ms' ws g)) = [] := List.filter_eq_nil_iff.mpr fun x hx => by
    obtain ⟨g0, y, e⟩ := G.at_ x hx
    have hlt := (G.lt hm x hx).2
    obtain ⟨w, q, _, ep, hq⟩ := timed_of hps hm e
    have hc : g.contains ((x.toNat : Nat) : Int) = true := by rw [Int.toNat_of_nonneg g0]; simpa using hx
    have hkx : keepB ms' g x.toNat = false := by unfold keepB; rw [hc]; simp
    have := newW_not (ms := ms') (ws := ws) (g := g) x.toNat (by rw [S.wl]; exact hlt) hkx
    rw [hc, if_pos rfl, List.getD_eq_getElem?_getD] at this
    have hl : x.toNat < (anewW ms' ws g).length := by rw [anewW_len, S.wl]; exact hlt
    rw [List.getElem?_eq_getElem hl] at this
    have e3 : (anewW ms' ws g)[x.toNat]? = some (.int 0) := by rw [List.getElem?_eq_getElem hl]; exact congrArg some this
    unfold dueB
    rw [ep, e3]
    simp
    omega
  have e3 : (fltO ms' g os.head!).filter (dueB ps (anewW ms' ws g)) = (fltO ms' g os.head!).filter (dueB ps ws) := List.filter_congr fun x hx => by
    obtain ⟨h1, h2⟩ := mem_fltO hx
    unfold dueB
    rw [newW_kept x.toNat (by rw [S.wl]; exact (S.pl _ hh x h1).lt) h2]
  rw [e1, List.filter_append, e2, List.append_nil, e3]
  exact filt_lt hp1 hp2 hk
end NP
set_option maxRecDepth 100000
set_option maxHeartbeats 4000000
/-! the two ways to settle: step by step. -/
namespace NP
open PySem PySem.Spec L2 NL
theorem rings_of {yss : List (List D)} {ms ws : List D} {os : List (List Int)} {B : Nat} {p : Int} (S : StOk yss.flatten ms ws os B) (hp : p ∈ os.head!) : (∃ r, Rings yss ms p.toNat r) ∧ p = (p.toNat : Int) := by
  have hh := List.mem_of_getElem? (head_at S.one)
  have P := S.pl _ hh p hp
  obtain ⟨r, h1, h2, h3⟩ := homes_row yss p.toNat P.lt
  obtain ⟨w, q, hw, e, _⟩ := P.pt
  exact ⟨⟨r, S.mem, ⟨w, q, e, hw⟩, P.mm, h1, h2, h3⟩, (Int.toNat_of_nonneg P.p0).symm⟩
theorem neD_li {lh : LH} {x y : Nat} {g : List Int} (hx : lh[x]? = some (.lst (g.map D.int))) (hy : lh[y]? = some (.lst [])) (hg : g.length ≤ 100) : neD (.loc x) (.loc y) lh = .ok (.bl (!decide (g = []))) lh := by
  have e1 : rd lh 16 (.loc x) = some (.list (g.map PyData.int)) := by rw [rd_loc lh 15 x _ hx, rd_ints]; rfl
  have e2 : rd lh 16 (.loc y) = some (.list []) := by rw [rd_loc lh 15 y [] hy]; rfl
  have h1 := lay_ints g
  have h2 := dep_ints g
  have h3 := line100
  have s1 : SeqAt.shaped (.list (g.map PyData.int)) = true := by
    simp [SeqAt.shaped, PyData.canLay0, PyData.depth, h1]
    omega
  have s2 : SeqAt.shaped (.list []) = true := by decide
  have e3 : eqR lh (.loc x) (.loc y) = some (decide (g = [])) := by
    show (match rd lh 16 (.loc x), rd lh 16 (.loc y) with
      | some p, some q => if SeqAt.shaped p = true ∧ SeqAt.shaped q = true then some (PyData.eqv p q) else none
      | _, _ => none) = _
    rw [e1, e2]
    dsimp only
    rw [if_pos ⟨s1, s2⟩]
    cases g <;> simp [PyData.eqv, PyData.eqvAll]
  unfold neD
  rw [e3]
def lpFire : SM := (seqS (asS (apM NP.l_fire (consA (varM 0) (consA (opM ixD (varM 2) (conM (.int 0))) (consA (opM ixD (varM 5) (conM (.int 0))) (nilA))))) (nmG 6))
  (parS 2 3 (consA (apM NP.l_anew (consA (varM 0) (consA (varM 2) (consA (opM ixD (varM 6) (conM (.int 0))) (consA (opM ixD (varM 6) (conM (.int 1))) (nilA)))))) (consA (opM addD (varM 3) (opM ixD (varM 6) (conM (.int 2)))) (nilA)))))
def lpBody : SM := (seqS (asS (apM NP.l_due_places (consA (varM 0) (consA (varM 2) (nilA)))) (nmG 5))
  (ifS (blT (opM neD (varM 5) (lstM (nilA)))) lpFire (nxS)))
theorem due_le {ps ms ws : List D} {os : List (List Int)} {B : Nat} (S : StOk ps ms ws os B) : (dueL ps ws os).length ≤ ps.length :=
  Nat.le_trans (List.length_filter_le _ _) (S.gl _ (List.mem_of_getElem? (head_at S.one)))
theorem lp_idle {l : LH} {b : D} {yss : List (List D)} {ms ws : List D} {os : List (List Int)} {B : Nat} {s0 x3 x4 x5 x6 : Option D} (N : NetAt l b yss) (S : StOk yss.flatten ms ws os B) (hd : dueL yss.flatten ws os = []) :
    ∃ x5' l', lpBody [some b, s0, some (stD3 ms ws os), x3, x4, x5, x6] l = .nx [some b, s0, some (stD3 ms ws os), x3, x4, x5', x6] l' ∧ Gr l l' := by
  obtain ⟨n, l1, a1, a2, a3⟩ := l_due_ok N S
  rw [hd] at a3
  have hne := neD_li (lh := l1 ++ [.lst []]) (x := n) (y := l1.length) (g := []) (get_app a3) (by simp) (Nat.zero_le _)
  refine ⟨some (.loc n), l1 ++ [.lst []], ?_, a2.trans (.app _ _)⟩
  simp [lpBody, a1, hne]
theorem lp_step {l : LH} {b : D} {yss : List (List D)} {ms ws : List D} {os : List (List Int)} {B O r : Nat} {p : Int} {rest g : List Int} {acc : List D} {s0 x4 x5 x6 : Option D} (N : NetAt l b yss) (S : StOk yss.flatten ms ws os B) (hB : B ≤ 90) (hO : l[O]? = some (.lst acc)) (hacc : acc.length ≤ 100)
    (hd : dueL yss.flatten ws os = p :: rest) (hp : p = (p.toNat : Int)) (G : Rings yss ms p.toNat r) (F : FireS yss ms p.toNat r g) :
    ∃ O' x5' x6' l', lpBody [some b, s0, some (stD3 ms ws os), some (.loc O), x4, x5, x6] l = .nx [some b, s0, some (stD3 (fireF yss ms p.toNat r).1 (anewW (fireF yss ms p.toNat r).1 ws g) (anewO (fireF yss ms p.toNat r).1 os g)), some (.loc O'), x4, x5', x6'] l' ∧ Gr l l' ∧ l'[O']? = some (.lst (acc ++ (fireF yss ms p.toNat r).2.2)) := by
  obtain ⟨n, l1, a1, a2, a3⟩ := l_due_ok N S
  have hdl := due_le S
  have h16 := N.n16
  rw [hd] at a3 hdl
  have hne := neD_li (lh := l1 ++ [.lst []]) (x := n) (y := l1.length) (g := p :: rest) (get_app a3) (by simp) (by omega)
  have g2 : Gr l (l1 ++ [.lst []]) := a2.trans (.app _ _)
  have hn2 : (l1 ++ [Ob.lst []])[n]? = some (.lst ((p :: rest).map D.int)) := get_app a3
  have N2 : NetAt (l1 ++ [.lst []]) b yss := N.mono fun _ _ h => g2.get h id
  obtain ⟨S1, O1, l3, b1, b2, b3, b4⟩ := l_fire_ok N2 G
  rw [F.eq] at b3
  rw [← hp] at b1
  have N3 : NetAt l3 b yss := N2.mono fun _ _ h => b2.get h id
  have A := anewOk_of h16 S hB F.mem F.st
  obtain ⟨l4, c1, c2⟩ := l_anew_ok (ms := ms) N3 A b3
  have hO4 : l4[O]? = some (.lst acc) := c2.get (b2.get (g2.get hO id) id) id
  have hO14 := c2.get b4 id
  have ol := F.ol
  have hsz : (200 : Nat) ≤ sizeLine := by decide
  have add := addD_at hO4 hO14 (by omega)
  generalize (fireF yss ms p.toNat r) = R at *
  refine ⟨l4.length, some (.loc n), some (.tup [.tup R.1, .loc S1, .loc O1]), l4 ++ [.lst (acc ++ R.2.2)], ?_, ((g2.trans b2).trans c2).trans (.app _ _), by simp⟩
  have t1 : (asS (apM NP.l_due_places (consA (varM 0) (consA (varM 2) (nilA)))) (nmG 5)) [some b, s0, some (stD3 ms ws os), some (.loc O), x4, x5, x6] l = .nx [some b, s0, some (stD3 ms ws os), some (.loc O), x4, some (.loc n), x6] l1 := by simp [a1]
  have t2 : (blT (opM neD (varM 5) (lstM (nilA)))) [some b, s0, some (stD3 ms ws os), some (.loc O), x4, some (.loc n), x6] l1 = .ok true (l1 ++ [.lst []]) := by simp [hne]
  have t3 : (asS (apM NP.l_fire (consA (varM 0) (consA (opM ixD (varM 2) (conM (.int 0))) (consA (opM ixD (varM 5) (conM (.int 0))) (nilA))))) (nmG 6)) [some b, s0, some (stD3 ms ws os), some (.loc O), x4, some (.loc n), x6] (l1 ++ [.lst []]) =
      .nx [some b, s0, some (stD3 ms ws os), some (.loc O), x4, some (.loc n), some (.tup [.tup R.1, .loc S1, .loc O1])] l3 := by
    have hi : ixD (stD3 ms ws os) (.int 0) (l1 ++ [.lst []]) = .ok (.tup ms) (l1 ++ [.lst []]) := by simp [stD3]
    simp [hi, hn2, b1]
  have t4 : (parS 2 3 (consA (apM NP.l_anew (consA (varM 0) (consA (varM 2) (consA (opM ixD (varM 6) (conM (.int 0))) (consA (opM ixD (varM 6) (conM (.int 1))) (nilA)))))) (consA (opM addD (varM 3) (opM ixD (varM 6) (conM (.int 2)))) (nilA)))) [some b, s0, some (stD3 ms ws os), some (.loc O), x4, some (.loc n), some (.tup [.tup R.1, .loc S1, .loc O1])] l3 =
      .nx [some b, s0, some (stD3 R.1 (anewW R.1 ws g) (anewO R.1 os g)), some (.loc l4.length), x4, some (.loc n), some (.tup [.tup R.1, .loc S1, .loc O1])] (l4 ++ [.lst (acc ++ R.2.2)]) := by
    simp [c1, add]
  unfold lpBody
  rw [seqS_ap, t1, bd_nx, ifS_ap, t2]
  show lpFire _ _ = _
  unfold lpFire
  rw [seqS_ap, t3, bd_nx, t4]
theorem extD_at {l : LH} {n m : Nat} {xs ys : List D} (h : l[n]? = some (.lst xs)) (h' : l[m]? = some (.lst ys)) (hx : xs.length + ys.length ≤ sizeLine) : extD (.loc n) [.loc m] l = .ok .non (l.set n (.lst (xs ++ ys))) := by
  unfold extD
  dsimp only
  rw [h, h']
  dsimp only
  rw [if_pos hx]
def seBody (c : CA) : SM := (seqS (asS (apM (NP.fired c) (consA (varM 0) (consA (opM ixD (varM 1) (conM (.int 0))) (consA (varM 3) (nilA))))) (tupG 3 (consG (nmG 4) (consG (nmG 5) (consG (nmG 6) (nilG))))))
  (seqS (asS (apM (NP.restarted c) (consA (varM 0) (consA (varM 1) (consA (varM 4) (consA (varM 5) (nilA)))))) (nmG 1))
  (seqS (exS (mtM "list" extD (varM 2) (consA (varM 6) (nilA))))
  (asS (apM (NP.due_place c) (consA (varM 0) (consA (varM 1) (nilA)))) (nmG 3)))))
end NP
set_option maxRecDepth 100000
set_option maxHeartbeats 4000000
/-! one step of settled. -/
namespace NP
open PySem PySem.Spec L2 NL
theorem se_step {c : CA} {base l : LH} {N LL PL HL : Nat} {yss : List (List D)} {ms ws : List D} {os : List (List Int)} {B O r : Nat} {p : Int} {g : List Int} {acc : List D} {x4 x5 x6 : Option D} (I : InsAt c base N LL PL HL yss) (gr : Gr base l) (S : StOk yss.flatten ms ws os B) (hB : B ≤ 90) (hO : l[O]? = some (.lst acc)) (hbO : base.length ≤ O) (hacc : acc.length ≤ 100)
    (hp : p = (p.toNat : Int)) (G : Rings yss ms p.toNat r) (F : FireS yss ms p.toNat r g) (S' : StOk yss.flatten (fireF yss ms p.toNat r).1 (anewW (fireF yss ms p.toNat r).1 ws g) (anewO (fireF yss ms p.toNat r).1 os g) B) :
    ∃ x4' x5' x6' l', seBody c [some (.loc N), some (stD3 ms ws os), some (.loc O), some (.int p), x4, x5, x6] l =
      .nx [some (.loc N), some (stD3 (fireF yss ms p.toNat r).1 (anewW (fireF yss ms p.toNat r).1 ws g) (anewO (fireF yss ms p.toNat r).1 os g)), some (.loc O), some (optD (dueL yss.flatten (anewW (fireF yss ms p.toNat r).1 ws g) (anewO (fireF yss ms p.toNat r).1 os g))), x4', x5', x6'] l' ∧
      Gr base l' ∧ l'[O]? = some (.lst (acc ++ (fireF yss ms p.toNat r).2.2)) := by
  obtain ⟨S1, O1, l3, b1, b2, b3, b4⟩ := fired_ok (I.mono gr) G
  rw [F.eq] at b3
  rw [← hp] at b1
  have A := anewOk_of I.n16 S hB F.mem F.st
  obtain ⟨l4, c1, c2⟩ := restarted_ok (ms := ms) (I.mono (gr.trans b2)) A b3
  have hO4 : l4[O]? = some (.lst acc) := c2.get (b2.get hO id) id
  have hO14 := c2.get b4 id
  have ol := F.ol
  have hsz : (200 : Nat) ≤ sizeLine := by decide
  have hOl := (List.getElem?_eq_some_iff.mp hO4).1
  have g4 := (gr.trans b2).trans c2
  have gS : ∀ xs, Gr base (l4.set O (.lst xs)) := fun xs => ⟨by rw [List.length_set]; exact g4.len, fun n hn hp => by
    rw [List.getElem?_set_ne (by omega)]
    exact g4.same n hn hp⟩
  have dd := due_ok (I.mono (gS (acc ++ (fireF yss ms p.toNat r).2.2))) S'
  generalize (fireF yss ms p.toNat r) = R at *
  have hext := extD_at hO4 hO14 (by omega)
  refine ⟨some (.tup R.1), some (.loc S1), some (.loc O1), l4.set O (.lst (acc ++ R.2.2)), ?_, gS _, by rw [List.getElem?_set_self hOl]⟩
  have t1 : (asS (apM (NP.fired c) (consA (varM 0) (consA (opM ixD (varM 1) (conM (.int 0))) (consA (varM 3) (nilA))))) (tupG 3 (consG (nmG 4) (consG (nmG 5) (consG (nmG 6) (nilG)))))) [some (.loc N), some (stD3 ms ws os), some (.loc O), some (.int p), x4, x5, x6] l =
      .nx [some (.loc N), some (stD3 ms ws os), some (.loc O), some (.int p), some (.tup R.1), some (.loc S1), some (.loc O1)] l3 := by
    have hi : ixD (stD3 ms ws os) (.int 0) l = .ok (.tup ms) l := by simp [stD3]
    simp [hi, b1, tupG_tup]
  have t2 : (asS (apM (NP.restarted c) (consA (varM 0) (consA (varM 1) (consA (varM 4) (consA (varM 5) (nilA)))))) (nmG 1)) [some (.loc N), some (stD3 ms ws os), some (.loc O), some (.int p), some (.tup R.1), some (.loc S1), some (.loc O1)] l3 =
      .nx [some (.loc N), some (stD3 R.1 (anewW R.1 ws g) (anewO R.1 os g)), some (.loc O), some (.int p), some (.tup R.1), some (.loc S1), some (.loc O1)] l4 := by
    rw [asS_ap, apM_ap, consA_ap, varM_at 0 (by rfl), Re.bind_ok, consA_ap, varM_at 1 (by rfl), Re.bind_ok, consA_ap, varM_at 4 (by rfl), Re.bind_ok, consA_ap, varM_at 5 (by rfl), Re.bind_ok, nilA_ap, Re.bind_ok, Re.bind_ok, Re.bind_ok, Re.bind_ok, Re.bind_ok, c1, toS_ok, nmG_ap]
    rfl
  have t3 : (exS (mtM "list" extD (varM 2) (consA (varM 6) (nilA)))) [some (.loc N), some (stD3 R.1 (anewW R.1 ws g) (anewO R.1 os g)), some (.loc O), some (.int p), some (.tup R.1), some (.loc S1), some (.loc O1)] l4 =
      .nx [some (.loc N), some (stD3 R.1 (anewW R.1 ws g) (anewO R.1 os g)), some (.loc O), some (.int p), some (.tup R.1), some (.loc S1), some (.loc O1)] (l4.set O (.lst (acc ++ R.2.2))) := by
    simp [tyOk_loc hO4, hext]
  unfold seBody
  rw [seqS_ap, t1, bd_nx, seqS_ap, t2, bd_nx, seqS_ap, t3, bd_nx]
  simp [dd]
end NP
set_option maxRecDepth 100000
set_option maxHeartbeats 4000000
/-! the two ways to settle: whole. -/
namespace NP
open PySem PySem.Spec L2 NL
theorem forN_go {n i f : Nat} {g : TM} {body : SM} {e : LE} {l : LH} (h : i < n) : forN (itR 0 n).nx g body (f + 1) i e l = ((g (.int (i : Int)) e l).bd body).lp (forN (itR 0 n).nx g body f (i + 1)) := by
  conv => lhs; unfold forN
  rw [itR_nx h]
theorem forN_stop {n f : Nat} {g : TM} {body : SM} {e : LE} {l : LH} : forN (itR 0 n).nx g body (f + 1) n e l = .nx e l := by
  unfold forN
  rw [itR_end]
theorem law_idle {yss : List (List D)} {ms ws : List D} {os : List (List Int)} {B n : Nat} {b : D} {s0 x3 : Option D} (S : StOk yss.flatten ms ws os B) (hd : dueL yss.flatten ws os = []) :
    ∀ (j i : Nat) (x4 x5 x6 : Option D) (l : LH), i + j = n → NetAt l b yss →
    ∃ x4' x5' x6' l', forN (itR 0 n).nx (nmG 4) lpBody (j + 1) i [some b, s0, some (stD3 ms ws os), x3, x4, x5, x6] l = .nx [some b, s0, some (stD3 ms ws os), x3, x4', x5', x6'] l' ∧ Gr l l'
  | 0, i, x4, x5, x6, l, h, N => by
    have : i = n := by omega
    subst this
    exact ⟨x4, x5, x6, l, forN_stop, .refl⟩
  | j + 1, i, x4, x5, x6, l, h, N => by
    obtain ⟨x5', l1, a1, a2⟩ := lp_idle (s0 := s0) (x3 := x3) (x4 := some (.int (i : Int))) (x5 := x5) (x6 := x6) N S hd
    obtain ⟨y4, y5, y6, l2, b1, b2⟩ := law_idle (n := n) (s0 := s0) (x3 := x3) S hd j (i + 1) (some (.int (i : Int))) x5' x6 l1 (by omega) (N.mono fun _ _ h => a2.get h id)
    refine ⟨y4, y5, y6, l2, ?_, a2.trans b2⟩
    rw [forN_go (by omega)]
    show (lpBody [some b, s0, some (stD3 ms ws os), x3, some (.int (i : Int)), x5, x6] l).lp _ = _
    rw [a1]
    exact b1
def seTest : MT := (blT (opM isntD (varM 3) (conM .non)))
structure PassOk (yss : List (List D)) (ms ws : List D) (os : List (List Int)) (B k : Nat) (ms2 ws2 : List D) (os2 : List (List Int)) (outs : List D) : Prop where
  st : StOk yss.flatten ms2 ws2 os2 B
  ol : outs.length ≤ k
  od : ∀ d ∈ outs, pd 2 d = true
  law : ∀ (n j i O : Nat) (l : LH) (b : D) (acc : List D) (s0 x4 x5 x6 : Option D), NetAt l b yss → l[O]? = some (.lst acc) → acc.length + k ≤ 100 → k ≤ j → i + j = n →
    ∃ O' x4' x5' x6' l', forN (itR 0 n).nx (nmG 4) lpBody (j + 1) i [some b, s0, some (stD3 ms ws os), some (.loc O), x4, x5, x6] l = .nx [some b, s0, some (stD3 ms2 ws2 os2), some (.loc O'), x4', x5', x6'] l' ∧ Gr l l' ∧ l'[O']? = some (.lst (acc ++ outs))
  prog : ∀ (c : CA) (base l : LH) (N LL PL HL O f : Nat) (acc : List D) (x4 x5 x6 : Option D), InsAt c base N LL PL HL yss → Gr base l → base.length ≤ O → l[O]? = some (.lst acc) → acc.length + k ≤ 100 → k < f →
    ∃ x4' x5' x6' l', whN seTest (seBody c) f [some (.loc N), some (stD3 ms ws os), some (.loc O), some (optD (dueL yss.flatten ws os)), x4, x5, x6] l = .nx [some (.loc N), some (stD3 ms2 ws2 os2), some (.loc O), some .non, x4', x5', x6'] l' ∧ Gr base l' ∧ l'[O]? = some (.lst (acc ++ outs))
theorem pass_loop {yss : List (List D)} (hps : ∀ p ∈ yss.flatten, PartD 3 p) (h16 : yss.flatten.length ≤ 16) {B : Nat} (hB : B ≤ 90) : ∀ (k : Nat) (ms ws : List D) (os : List (List Int)), StOk yss.flatten ms ws os B → (dueL yss.flatten ws os).length ≤ k →
    ∃ ms2 ws2 os2 outs, PassOk yss ms ws os B k ms2 ws2 os2 outs := by
  intro k
  induction k with
  | zero =>
    intro ms ws os S hk
    have hd : dueL yss.flatten ws os = [] := List.eq_nil_of_length_eq_zero (by omega)
    refine ⟨ms, ws, os, [], S, Nat.le_refl _, fun d hd => by simp at hd, ?_, ?_⟩
    · intro n j i O l b acc s0 x4 x5 x6 N hO _ _ hij
      obtain ⟨y4, y5, y6, l2, b1, b2⟩ := law_idle (s0 := s0) (x3 := some (.loc O)) S hd j i x4 x5 x6 l hij N
      exact ⟨O, y4, y5, y6, l2, b1, b2, by rw [List.append_nil]; exact b2.get hO id⟩
    · intro c base l N LL PL HL O f acc x4 x5 x6 I gr hb hO _ hf
      obtain ⟨f, rfl⟩ : ∃ m, f = m + 1 := ⟨f - 1, by omega⟩
      refine ⟨x4, x5, x6, l, ?_, gr, by rw [List.append_nil]; exact hO⟩
      rw [hd]
      rfl
  | succ k ih =>
    intro ms ws os S hk
    cases hd : dueL yss.flatten ws os with
    | nil =>
      refine ⟨ms, ws, os, [], S, Nat.zero_le _, fun d hd => by simp at hd, ?_, ?_⟩
      · intro n j i O l b acc s0 x4 x5 x6 N hO _ _ hij
        obtain ⟨y4, y5, y6, l2, b1, b2⟩ := law_idle (s0 := s0) (x3 := some (.loc O)) S hd j i x4 x5 x6 l hij N
        exact ⟨O, y4, y5, y6, l2, b1, b2, by rw [List.append_nil]; exact b2.get hO id⟩
      · intro c base l N LL PL HL O f acc x4 x5 x6 I gr hb hO _ hf
        obtain ⟨f, rfl⟩ : ∃ m, f = m + 1 := ⟨f - 1, by omega⟩
        refine ⟨x4, x5, x6, l, ?_, gr, by rw [List.append_nil]; exact hO⟩
        rw [hd]
        rfl
    | cons p rest =>
      have hpm : p ∈ dueL yss.flatten ws os := by rw [hd]; exact List.mem_cons_self ..
      obtain ⟨⟨r, G⟩, hp⟩ := rings_of S (List.mem_filter.mp hpm).1
      obtain ⟨g, F⟩ := fire_spec hps G
      have S' := st_anew hps S F.mem F.st
      have less := due_less hps S F.mem F.st hpm F.off
      obtain ⟨ms2, ws2, os2, outs, P⟩ := ih _ _ _ S' (by omega)
      have ol := F.ol
      refine ⟨ms2, ws2, os2, (fireF yss ms p.toNat r).2.2 ++ outs, P.st, by rw [List.length_append]; have := P.ol; omega, fun d hd => ?_, ?_, ?_⟩
      · rcases List.mem_append.mp hd with h | h
        · exact F.od d h
        · exact P.od d h
      · intro n j i O l b acc s0 x4 x5 x6 N hO hacc hkj hij
        obtain ⟨j, rfl⟩ : ∃ m, j = m + 1 := ⟨j - 1, by omega⟩
        obtain ⟨O1, x5', x6', l1, a1, a2, a3⟩ := lp_step (s0 := s0) (x4 := some (.int (i : Int))) (x5 := x5) (x6 := x6) N S hB hO (by omega) hd hp G F
        obtain ⟨O2, y4, y5, y6, l2, b1, b2, b3⟩ := P.law n j (i + 1) O1 l1 b _ s0 (some (.int (i : Int))) x5' x6' (N.mono fun _ _ h => a2.get h id) a3 (by rw [List.length_append]; omega) (by omega) (by omega)
        refine ⟨O2, y4, y5, y6, l2, ?_, a2.trans b2, by rw [b3, List.append_assoc]⟩
        rw [forN_go (by omega)]
        show (lpBody [some b, s0, some (stD3 ms ws os), some (.loc O), some (.int (i : Int)), x5, x6] l).lp _ = _
        rw [a1]
        exact b1
      · intro c base l N LL PL HL O f acc x4 x5 x6 I gr hb hO hacc hf
        obtain ⟨f, rfl⟩ : ∃ m, f = m + 1 := ⟨f - 1, by omega⟩
        obtain ⟨x4', x5', x6', l1, a1, a2, a3⟩ := se_step (x4 := x4) (x5 := x5) (x6 := x6) I gr S hB hO hb (by omega) hp G F S'
        obtain ⟨y4, y5, y6, l2, b1, b2, b3⟩ := P.prog c base l1 N LL PL HL O f _ x4' x5' x6' I a2 hb a3 (by rw [List.length_append]; omega) (by omega)
        refine ⟨y4, y5, y6, l2, ?_, b2, by rw [b3, List.append_assoc]⟩
        rw [hd]
        show (seBody c [some (.loc N), some (stD3 ms ws os), some (.loc O), some (.int p), x4, x5, x6] l).lp (whN seTest (seBody c) f) = _
        rw [a1]
        exact b1
theorem settled_eq (c : CA) : settled c = fnM 7 (seqS (parS 2 3 (consA (lstM (nilA)) (consA (apM (NP.due_place c) (consA (varM 0) (consA (varM 1) (nilA)))) (nilA)))) (seqS (whS fuel0 seTest (seBody c)) (rtS (tupM (consA (varM 1) (consA (varM 2) (nilA))))))) := rfl
theorem l_pass_eq : l_pass = fnM 7 (seqS (parS 2 3 (consA (apM NP.l_older_state (consA (varM 1) (nilA))) (consA (lstM (nilA)) (nilA)))) (seqS (forS (rngI (consA (opM addD (callM lenD (consA (apM NP.l_parts (consA (varM 0) (nilA))) (nilA))) (conM (.int 1))) (nilA))) (nmG 4) lpBody) (rtS (tupM (consA (varM 2) (consA (varM 3) (nilA))))))) := rfl
/-- one moment passes: the law's way and the program's give one state and one row of items -/
theorem passes {yss : List (List D)} (hps : ∀ p ∈ yss.flatten, PartD 3 p) (h16 : yss.flatten.length ≤ 16) {ms ws : List D} {os : List (List Int)} {B : Nat} (S : StOk yss.flatten ms ws os B) (hB : B ≤ 70) :
    ∃ ms2 ws2 os2 outs, StOk yss.flatten ms2 ws2 os2 (B + 1) ∧ outs.length ≤ 16 ∧ (∀ d ∈ outs, pd 2 d = true) ∧
      (∀ (lh : LH) (b : D), NetAt lh b yss → ∃ O l', l_pass [b, stD3 ms ws os] lh = .ok (.tup [stD3 ms2 ws2 os2, .loc O]) l' ∧ Gr lh l' ∧ l'[O]? = some (.lst outs)) ∧
      (∀ (c : CA) (lh : LH) (N LL PL HL : Nat), InsAt c lh N LL PL HL yss → ∃ O l', passed c [.loc N, stD3 ms ws os] lh = .ok (.tup [stD3 ms2 ws2 os2, .loc O]) l' ∧ Gr lh l' ∧ l'[O]? = some (.lst outs)) := by
  obtain ⟨ws1, os1, S1, hag⟩ := aged_ok h16 S (by omega)
  have hdl := due_le S1
  obtain ⟨ms2, ws2, os2, outs, P⟩ := pass_loop hps h16 (show B + 1 ≤ 90 by omega) yss.flatten.length ms ws1 os1 S1 hdl
  refine ⟨ms2, ws2, os2, outs, P.st, Nat.le_trans P.ol h16, P.od, fun lh b N => ?_, fun c lh N LL PL HL I => ?_⟩
  · obtain ⟨⟨l1, a1, a2⟩, _⟩ := hag lh
    have N1 : NetAt (l1 ++ [.lst []]) b yss := N.mono fun _ _ h => get_app (a2.get h id)
    have b1 := l_parts_ok N1
    have hO : (l1 ++ [Ob.lst []])[l1.length]? = some (.lst []) := by simp
    have gL : Gr lh (l1 ++ [Ob.lst []]) := a2.trans (.app _ _)
    have s1 : (parS 2 3 (consA (apM NP.l_older_state (consA (varM 1) (nilA))) (consA (lstM (nilA)) (nilA)))) [some b, some (stD3 ms ws os), none, none, none, none, none] lh = .nx [some b, some (stD3 ms ws os), some (stD3 ms ws1 os1), some (.loc l1.length), none, none, none] (l1 ++ [.lst []]) := by
      simp [a1]
    generalize (l1 ++ [Ob.lst []]) = L at *
    have hr : rngI (consA (opM addD (callM lenD (consA (apM NP.l_parts (consA (varM 0) (nilA))) (nilA))) (conM (.int 1))) (nilA)) [some b, some (stD3 ms ws os), some (stD3 ms ws1 os1), some (.loc l1.length), none, none, none] L = .ok (itR 0 (yss.flatten.length + 1)) (L ++ [.lst [], .lst yss.flatten]) := by
      refine rngI_nat ?_ (by omega)
      rw [consA_ap, opM_ap, callM_ap, consA_ap, apM_ap, consA_ap, varM_at 0 (by rfl), Re.bind_ok, nilA_ap, Re.bind_ok, Re.bind_ok, b1, Re.bind_ok, nilA_ap, Re.bind_ok, Re.bind_ok, lenD_loc]
      simp
    have g2 : Gr L (L ++ [.lst [], .lst yss.flatten]) := .app _ _
    obtain ⟨O, y4, y5, y6, l2, c1, c2, c3⟩ := P.law (yss.flatten.length + 1) (yss.flatten.length + 1) 0 l1.length (L ++ [.lst [], .lst yss.flatten]) b [] (some (stD3 ms ws os)) none none none (N1.mono fun _ _ h => g2.get h id) (g2.get hO id) (by simp only [List.length_nil]; omega) (by omega) (by omega)
    refine ⟨O, l2, ?_, (gL.trans g2).trans c2, c3⟩
    have hst : stD 7 [b, stD3 ms ws os] = [some b, some (stD3 ms ws os), none, none, none, none, none] := by simp
    have hfu : (itR 0 (yss.flatten.length + 1)).fuel = yss.flatten.length + 1 + 1 := rfl
    rw [l_pass_eq, fnM_ap, hst, seqS_ap, s1, bd_nx, seqS_ap, forS_ap, hr, toSI_ok, hfu, c1, bd_nx, rtS_ap, tupM_ap, consA_ap, varM_at 2 (by rfl), Re.bind_ok, consA_ap, varM_at 3 (by rfl), Re.bind_ok, nilA_ap, Re.bind_ok, Re.bind_ok, Re.bind_ok]
    rfl
  · obtain ⟨_, l1, a1, a2⟩ := hag lh
    have I1 := I.mono a2
    have dd := due_ok (I1.mono (.app _ [.lst []])) S1
    have s1 : (parS 2 3 (consA (lstM (nilA)) (consA (apM (NP.due_place c) (consA (varM 0) (consA (varM 1) (nilA)))) (nilA)))) [some (.loc N), some (stD3 ms ws1 os1), none, none, none, none, none] l1 = .nx [some (.loc N), some (stD3 ms ws1 os1), some (.loc l1.length), some (optD (dueL yss.flatten ws1 os1)), none, none, none] (l1 ++ [.lst []]) := by
      simp [dd]
    obtain ⟨y4, y5, y6, l2, c1, c2, c3⟩ := P.prog c l1 (l1 ++ [.lst []]) N LL PL HL l1.length fuel0 [] none none none I1 (.app _ _) (Nat.le_refl _) (by simp) (by simp only [List.length_nil]; omega) (by unfold fuel0; omega)
    refine ⟨l1.length, l2, ?_, a2.trans c2, c3⟩
    have hst : stD 7 [.loc N, stD3 ms ws1 os1] = [some (.loc N), some (stD3 ms ws1 os1), none, none, none, none, none] := by simp
    have hse : settled c [.loc N, stD3 ms ws1 os1] l1 = .ok (.tup [stD3 ms2 ws2 os2, .loc l1.length]) l2 := by
      rw [settled_eq, fnM_ap, hst, seqS_ap, s1, bd_nx, seqS_ap]
      unfold whS
      rw [c1, bd_nx, rtS_ap, tupM_ap, consA_ap, varM_at 1 (by rfl), Re.bind_ok, consA_ap, varM_at 2 (by rfl), Re.bind_ok, nilA_ap, Re.bind_ok, Re.bind_ok, Re.bind_ok]
      rfl
    have hst2 : stD 2 [.loc N, stD3 ms ws os] = [some (.loc N), some (stD3 ms ws os)] := by simp
    unfold passed
    rw [fnM_ap, hst2, rtS_ap, apM_ap, consA_ap, varM_at 0 (by rfl), Re.bind_ok, consA_ap, apM_ap, consA_ap, varM_at 1 (by rfl), Re.bind_ok, nilA_ap, Re.bind_ok, Re.bind_ok, a1, Re.bind_ok, nilA_ap, Re.bind_ok, Re.bind_ok, Re.bind_ok, hse]
    rfl
end NP
set_option maxRecDepth 100000
set_option maxHeartbeats 4000000
/-! an item enters: each line in turn. -/
namespace NP
open PySem PySem.Spec L2 NL
theorem parS3_ap (i j l : Nat) (ma : MA) (e : LE) (lh : LH) : parS3 i j l ma e lh = toSA e (fun ds h => match ds with | [a, b, c] => .nx (((e.set i (some a)).set j (some b)).set l (some c)) h | _ => .bad) (ma e lh) := rfl
theorem timed_str {s : D} (h : s ∈ timedL) : ∃ x, s = .str x ∧ PyData.strOk x = true := by
  simp [timedL] at h
  rcases h with rfl | rfl | rfl | rfl | rfl | rfl <;> exact ⟨_, rfl, by decide +kernel⟩
theorem part_rd {p : D} {n : Int} (h : PartD n p) : ∃ q, (∀ lh k, rd lh (k + 1) p = some q) ∧ PyData.canLay0 q = true ∧ PyData.depth q ≤ 2 := by
  have hc : PyData.strOk (PySem.Str.ofString "change") = true := by decide +kernel
  have hp : PyData.strOk (PySem.Str.ofString "pick") = true := by decide +kernel
  have ht : PyData.strOk (PySem.Str.ofString "turn") = true := by decide +kernel
  cases h with
  | timed w q hw _ _ =>
    obtain ⟨x, rfl, hx⟩ := timed_str hw
    exact ⟨.tuple [.str x, .int (1 + q)], fun lh k => by rw [rd_tup]; simp, by simp [PyData.canLay0, PyData.canLayAll0, hx], by simp [PyData.depth, PyData.depthAll]⟩
  | change => exact ⟨.tuple [.str (PySem.Str.ofString "change")], fun lh k => by rw [rd_tup]; simp, by simp [PyData.canLay0, PyData.canLayAll0, hc], by simp [PyData.depth, PyData.depthAll]⟩
  | pick s hs =>
    obtain ⟨x, rfl, hx⟩ := oft_str hs
    exact ⟨.tuple [.str (PySem.Str.ofString "pick"), .str x], fun lh k => by rw [rd_tup]; simp, by simp [PyData.canLay0, PyData.canLayAll0, hp, hx], by simp [PyData.depth, PyData.depthAll]⟩
  | turn u v hu hv _ =>
    obtain ⟨x, rfl, hx⟩ := abc_str hu
    obtain ⟨y, rfl, hy⟩ := abc_str hv
    exact ⟨.tuple [.str (PySem.Str.ofString "turn"), .str x, .str y], fun lh k => by rw [rd_tup]; simp, by simp [PyData.canLay0, PyData.canLayAll0, ht, hx, hy], by simp [PyData.depth, PyData.depthAll]⟩
theorem row_rd {n : Int} : ∀ {ys : List D}, (∀ p ∈ ys, PartD n p) → ∃ qs, (∀ lh k, ys.mapM (rd lh (k + 1)) = some qs) ∧ PyData.canLayAll0 qs = true ∧ PyData.depthAll qs ≤ 2 ∧ qs.length = ys.length
  | [], _ => ⟨[], fun _ _ => rfl, by simp [PyData.canLayAll0], by simp [PyData.depthAll], rfl⟩
  | p :: r, h => by
    obtain ⟨q, a1, a2, a3⟩ := part_rd (h p (List.mem_cons_self ..))
    obtain ⟨qs, b1, b2, b3, b4⟩ := row_rd fun x hx => h x (List.mem_cons_of_mem _ hx)
    exact ⟨q :: qs, fun lh k => by rw [List.mapM_cons, a1, b1]; rfl, by simp [PyData.canLayAll0, a2, b2], by simp [PyData.depthAll]; omega, by simp [b4]⟩
theorem eqD_row {lh : LH} {n m : Nat} {ys : List D} {k : Int} (hn : lh[n]? = some (.lst ys)) (hm : lh[m]? = some (.lst [])) (h : ∀ p ∈ ys, PartD k p) (hl : ys.length ≤ 4) : eqD (.loc n) (.loc m) lh = .ok (.bl (decide (ys = []))) lh := by
  obtain ⟨qs, b1, b2, b3, b4⟩ := row_rd h
  have e1 : rd lh 16 (.loc n) = some (.list qs) := by rw [rd_loc lh 15 n _ hn, b1]; rfl
  have e2 : rd lh 16 (.loc m) = some (.list []) := by rw [rd_loc lh 15 m [] hm]; rfl
  have s1 : SeqAt.shaped (.list qs) = true := by
    simp [SeqAt.shaped, PyData.canLay0, PyData.depth, b2]
    omega
  have s2 : SeqAt.shaped (.list []) = true := by decide
  have e3 : eqR lh (.loc n) (.loc m) = some (decide (ys = [])) := by
    show (match rd lh 16 (.loc n), rd lh 16 (.loc m) with
      | some p, some q => if SeqAt.shaped p = true ∧ SeqAt.shaped q = true then some (PyData.eqv p q) else none
      | _, _ => none) = _
    rw [e1, e2]
    dsimp only
    rw [if_pos ⟨s1, s2⟩]
    cases ys with
    | nil => cases qs with
      | nil => simp [PyData.eqv, PyData.eqvAll]
      | cons _ _ => simp at b4
    | cons y r => cases qs with
      | nil => simp at b4
      | cons _ _ => simp [PyData.eqv, PyData.eqvAll]
  unfold eqD
  rw [e3]
def homesI : Nat → List (List D) → List Int
  | _, [] => []
  | i, y :: r => List.replicate y.length (i : Int) ++ homesI (i + 1) r
theorem homesI_map : ∀ (yss : List (List D)) (i : Nat), homesF i yss = (homesI i yss).map D.int
  | [], _ => rfl
  | y :: r, i => by
    show List.replicate _ _ ++ homesF (i + 1) r = (List.replicate _ _ ++ homesI (i + 1) r).map D.int
    rw [homesI_map r (i + 1), List.map_append, List.map_replicate]
theorem homesI_at {yss : List (List D)} {j : Nat} {z : Int} (h : (homesF 0 yss)[j]? = some (.int z)) : (homesI 0 yss)[j]? = some z := by
  rw [homesI_map, List.getElem?_map] at h
  cases e : (homesI 0 yss)[j]? with
  | none => rw [e] at h; cases h
  | some y => rw [e] at h; cases h; rfl
theorem fstI_of {x : Int} : ∀ {l : List Int} {j : Nat}, l[j]? = some x → (∀ m, m < j → l[m]? ≠ some x) → fstI x l = some j
  | [], _, h, _ => by simp at h
  | y :: r, 0, h, _ => by
    simp at h
    subst h
    unfold fstI
    rw [if_pos rfl]
  | y :: r, j + 1, h, h2 => by
    have hy : y ≠ x := fun e => h2 0 (Nat.succ_pos _) (by simp [e])
    unfold fstI
    rw [if_neg hy, fstI_of (l := r) (j := j) (by simpa using h) (fun m hm => by simpa using h2 (m + 1) (Nat.succ_lt_succ hm))]
    rfl
theorem index_ok {lh : LH} {H r : Nat} {yss : List (List D)} (hH : lh[H]? = some (.lst (homesF 0 yss))) (hr : r < yss.length) (hne : offN yss r < offN yss (r + 1)) : indexD (.loc H) [.int (r : Int)] lh = .ok (.int (offN yss r : Int)) lh := by
  have h1 := homesI_at (homes_get yss 0 r (offN yss r) hr (Nat.le_refl _) hne)
  rw [Nat.zero_add] at h1
  have hlt : offN yss r < yss.flatten.length := by have := offN_le yss (r + 1); omega
  have e : fstI (r : Int) (homesI 0 yss) = some (offN yss r) := fstI_of h1 fun m hm h => by
    obtain ⟨r2, a1, a2, a3⟩ := homes_row yss m (by omega)
    have h2 := homesI_at (homes_get yss 0 r2 m a1 a2 a3)
    rw [h] at h2
    injection h2 with h2
    have h3 : r2 = r := by omega
    subst h3
    omega
  unfold indexD
  dsimp only
  rw [sq_loc, hH]
  dsimp only
  rw [homesI_map, intL_map]
  dsimp only
  rw [e]
end NP
set_option maxRecDepth 100000
set_option maxHeartbeats 4000000
/-! an item enters: l_enter whole. -/
namespace NP
open PySem PySem.Spec L2 NL
def enterF (yss : List (List D)) (t : D) : Nat → Nat → List D → List D → List D → List D × List D × List D
  | 0, _, ms, st, outs => (ms, st, outs)
  | k + 1, i, ms, st, outs => if offN yss i = offN yss (i + 1) then enterF yss t k (i + 1) ms st (outs ++ outL t i) else
    enterF yss t k (i + 1) (downA yss.flatten (offN yss (i + 1) - offN yss i) (offN yss i) ms [] t).1 (st ++ (downA yss.flatten (offN yss (i + 1) - offN yss i) (offN yss i) ms [] t).2.1) (outs ++ outL (downA yss.flatten (offN yss (i + 1) - offN yss i) (offN yss i) ms [] t).2.2 i)
structure EnS (yss : List (List D)) (ms st outs : List D) (i : Nat) (g : List Int) : Prop where
  eq : st = g.map D.int
  mem : MemsOk yss.flatten ms
  st : Starts yss.flatten ms g
  lo : ∀ x ∈ g, x < (offN yss i : Int)
  gl : g.length ≤ offN yss i
  ol : outs.length ≤ i
  od : ∀ d ∈ outs, pd 2 d = true
theorem enS_empty {yss : List (List D)} {ms st outs : List D} {i : Nat} {g : List Int} {t : D} (E : EnS yss ms st outs i g) (h : offN yss i = offN yss (i + 1)) (ht : ItemD t) : EnS yss ms st (outs ++ outL t i) (i + 1) g := by
  obtain ⟨p1, p2⟩ := item_pd (r := i) (.inr ht)
  refine ⟨E.eq, E.mem, E.st, by rw [← h]; exact E.lo, by rw [← h]; exact E.gl, by rw [List.length_append]; have := E.ol; omega, fun d hd => ?_⟩
  rcases List.mem_append.mp hd with h | h
  · exact E.od d h
  · exact p2 d h
theorem enS_row {yss : List (List D)} {ms st outs : List D} {i : Nat} {g : List Int} {t : D} (hps : ∀ p ∈ yss.flatten, PartD 3 p) (E : EnS yss ms st outs i g) (ht : ItemD t) :
    ∃ g', EnS yss (downA yss.flatten (offN yss (i + 1) - offN yss i) (offN yss i) ms [] t).1 (st ++ (downA yss.flatten (offN yss (i + 1) - offN yss i) (offN yss i) ms [] t).2.1) (outs ++ outL (downA yss.flatten (offN yss (i + 1) - offN yss i) (offN yss i) ms [] t).2.2 i) (i + 1) g' := by
  have hle := offN_le yss (i + 1)
  have hmo := offN_mono yss (show i ≤ i + 1 by omega)
  obtain ⟨gA, hS⟩ := downA_spec hps (offN yss (i + 1) - offN yss i) (offN yss i) ms [] t (by omega) E.mem (.inr ht)
  obtain ⟨hmem, hoo⟩ := downA_ok hps (offN yss (i + 1) - offN yss i) (offN yss i) ms [] t (by omega) E.mem (.inr ht)
  obtain ⟨p1, p2⟩ := item_pd (r := i) hoo
  generalize downA yss.flatten (offN yss (i + 1) - offN yss i) (offN yss i) ms [] t = A at *
  refine ⟨g ++ gA, by rw [E.eq, hS.eq, List.nil_append, List.map_append], hmem, ⟨List.nodup_append.mpr ⟨E.st.nd, hS.nd, fun a ha b hb => by have := E.lo a ha; have := hS.lo b hb; omega⟩, fun x hx => ?_⟩, fun x hx => ?_, by rw [List.length_append]; have := E.gl; have := hS.len; omega, by rw [List.length_append]; have := E.ol; omega, fun d hd => ?_⟩
  · rcases List.mem_append.mp hx with hx | hx
    · obtain ⟨h0, y, e⟩ := E.st.at_ x hx
      have := E.lo x hx
      exact ⟨h0, y, by rw [hS.be x.toNat (by omega)]; exact e⟩
    · exact ⟨by have := hS.lo x hx; omega, hS.on x hx⟩
  · rcases List.mem_append.mp hx with hx | hx
    · have := E.lo x hx; omega
    · have := hS.hi x hx; omega
  · rcases List.mem_append.mp hd with h | h
    · exact E.od d h
    · exact p2 d h
def enBody : SM := (ifS (blT (opM eqD (opM ixD (opM ixD (varM 0) (conM (.int 1))) (varM 6)) (lstM (nilA)))) (asS (opM addD (varM 5) (lstM (consA (tupM (consA (opM ixD (varM 2) (conM (.int 0))) (consA (opM ixD (varM 2) (conM (.int 1))) (consA (varM 6) (nilA))))) (nilA)))) (nmG 5)) (seqS (asS (apM NP.l_down (consA (varM 0) (consA (varM 1) (consA (mtM "list" indexD (varM 3) (consA (varM 6) (nilA))) (consA (varM 2) (nilA)))))) (tupG 3 (consG (nmG 1) (consG (nmG 7) (consG (nmG 8) (nilG))))))
  (parS 4 5 (consA (opM addD (varM 4) (varM 7)) (consA (opM addD (varM 5) (varM 8)) (nilA))))))
theorem l_enter_eq : l_enter = fnM 9 (seqS (parS3 3 4 5 (consA (apM NP.l_homes (consA (varM 0) (nilA))) (consA (lstM (nilA)) (consA (lstM (nilA)) (nilA))))) (seqS (forS (rngI (consA (callM lenD (consA (opM ixD (varM 0) (conM (.int 1))) (nilA))) (nilA))) (nmG 6) enBody) (rtS (tupM (consA (varM 1) (consA (varM 4) (consA (varM 5) (nilA)))))))) := rfl
theorem en_step {base l : LH} {b t : D} {yss : List (List D)} {ms st outs : List D} {i H S O : Nat} {g : List Int} {x7 x8 : Option D} (N : NetAt base b yss) (gr : Gr base l) (hH : base[H]? = some (.lst (homesF 0 yss))) (ht : ItemD t) (hi : i < yss.length)
    (E : EnS yss ms st outs i g) (hS : l[S]? = some (.lst st)) (hO : l[O]? = some (.lst outs)) :
    ∃ ms' st' outs' g' S' O' x7' x8' l', enBody [some b, some (.tup ms), some t, some (.loc H), some (.loc S), some (.loc O), some (.int (i : Int)), x7, x8] l =
      .nx [some b, some (.tup ms'), some t, some (.loc H), some (.loc S'), some (.loc O'), some (.int (i : Int)), x7', x8'] l' ∧ Gr base l' ∧ EnS yss ms' st' outs' (i + 1) g' ∧ l'[S']? = some (.lst st') ∧ l'[O']? = some (.lst outs') ∧
      ∀ k, enterF yss t (k + 1) i ms st outs = enterF yss t k (i + 1) ms' st' outs' := by
  have hps : ∀ p ∈ yss.flatten, PartD 3 p := fun p hp => by
    obtain ⟨ys, hy, hp⟩ := List.mem_flatten.mp hp
    exact (N.r4 ys hy).2 p hp
  have h16 := N.n16
  have h4 := N.n4
  have Nl : NetAt l b yss := N.mono fun _ _ h => gr.get h id
  have hHl := gr.get hH id
  have hsz : (200 : Nat) ≤ sizeLine := by decide
  have hle := offN_le yss (i + 1)
  have hsucc := offN_succ yss i hi
  have egl := E.gl
  have eol := E.ol
  have hri := N.r4 _ (List.getElem_mem hi)
  obtain ⟨s, R, ds, rfl, a, r⟩ := Nl.ex
  obtain ⟨n, hn, hy⟩ := r.get i hi
  have hat : atI ds (i : Int) = some (.loc n) := atI_nat hn
  have heq := eqD_row (lh := l ++ [.lst []]) (m := l.length) (get_app hy) (by simp) hri.2 hri.1
  have htest : (blT (opM eqD (opM ixD (opM ixD (varM 0) (conM (.int 1))) (varM 6)) (lstM (nilA)))) [some (.tup [s, .loc R]), some (.tup ms), some t, some (.loc H), some (.loc S), some (.loc O), some (.int (i : Int)), x7, x8] l = .ok (decide (yss[i] = [])) (l ++ [.lst []]) := by
    simp [a, hat, heq]
  have gr1 : Gr base (l ++ [.lst []]) := gr.trans (.app _ _)
  have hS1 := get_app (t := [.lst []]) hS
  have hO1 := get_app (t := [.lst []]) hO
  have hH1 := get_app (t := [.lst []]) hHl
  by_cases hem : yss[i] = []
  · have hz : offN yss i = offN yss (i + 1) := by rw [hsucc, hem]; rfl
    obtain ⟨x, q, rfl⟩ := item_tup ht
    have add := addD_at (l := l ++ [.lst []] ++ [.lst [.tup [x, q, .int (i : Int)]]]) (n := O) (m := l.length + 1) (xs := outs) (ys := [.tup [x, q, .int (i : Int)]]) (get_app hO1) (by simp) (by simp only [List.length_cons, List.length_nil]; omega)
    refine ⟨ms, st, outs ++ outL (.tup [x, q]) i, g, S, l.length + 2, x7, x8, l ++ [.lst []] ++ [.lst [.tup [x, q, .int (i : Int)]]] ++ [.lst (outs ++ [.tup [x, q, .int (i : Int)]])], ?_, (gr1.trans (.app _ _)).trans (.app _ _), enS_empty E hz ht, get_app (get_app hS1), by simp [outL], fun k => ?_⟩
    · unfold enBody
      rw [ifS_ap, htest]
      simp only [List.append_assoc, List.cons_append, List.nil_append] at add
      simp [hem, add]
    · conv => lhs; unfold enterF
      rw [if_pos hz]
  · have hpos : 0 < yss[i].length := List.length_pos_iff.mpr hem
    have hlt : offN yss i < offN yss (i + 1) := by omega
    have N1 : NetAt (l ++ [.lst []]) (.tup [s, .loc R]) yss := Nl.mono fun _ _ h => get_app h
    have ix := index_ok hH1 hi hlt
    obtain ⟨S1, O1, l2, d1, d2, d3, d4⟩ := l_down_ok N1 E.mem ht hi (Nat.le_refl _) hlt
    obtain ⟨g', E'⟩ := enS_row hps E ht
    obtain ⟨gA, hSS⟩ := downA_spec hps (offN yss (i + 1) - offN yss i) (offN yss i) ms [] t (by omega) E.mem (.inr ht)
    have ho1 := (item_pd (r := i) (downA_ok hps (offN yss (i + 1) - offN yss i) (offN yss i) ms [] t (by omega) E.mem (.inr ht)).2).1
    have hef : ∀ k, enterF yss t (k + 1) i ms st outs = enterF yss t k (i + 1) (downA yss.flatten (offN yss (i + 1) - offN yss i) (offN yss i) ms [] t).1 (st ++ (downA yss.flatten (offN yss (i + 1) - offN yss i) (offN yss i) ms [] t).2.1) (outs ++ outL (downA yss.flatten (offN yss (i + 1) - offN yss i) (offN yss i) ms [] t).2.2 i) := fun k => by
      conv => lhs; unfold enterF
      rw [if_neg (by omega)]
    have hAl : (downA yss.flatten (offN yss (i + 1) - offN yss i) (offN yss i) ms [] t).2.1.length ≤ 16 := by
      rw [hSS.eq, List.nil_append, List.length_map]
      have := hSS.len
      omega
    generalize downA yss.flatten (offN yss (i + 1) - offN yss i) (offN yss i) ms [] t = A at *
    have hstl : st.length ≤ 16 := by rw [E.eq, List.length_map]; omega
    have add1 := addD_at (l := l2) (n := S) (m := S1) (d2.get hS1 id) d3 (by omega)
    have add2 := addD_at (l := l2 ++ [.lst (st ++ A.2.1)]) (n := O) (m := O1) (get_app (d2.get hO1 id)) (get_app d4) (by omega)
    refine ⟨A.1, st ++ A.2.1, outs ++ outL A.2.2 i, g', l2.length, l2.length + 1, some (.loc S1), some (.loc O1), l2 ++ [.lst (st ++ A.2.1)] ++ [.lst (outs ++ outL A.2.2 i)], ?_, ((gr1.trans d2).trans (.app _ _)).trans (.app _ _), E', by simp, by simp, hef⟩
    unfold enBody
    rw [ifS_ap, htest]
    have hty : tyOk "list" (.loc H) (l ++ [Ob.lst []]) = true := tyOk_loc hH1
    simp [hem, hty, ix, d1, tupG_tup, add1, add2]
theorem l_enter_ok {lh : LH} {b t : D} {yss : List (List D)} {ms : List D} (N : NetAt lh b yss) (hm : MemsOk yss.flatten ms) (ht : ItemD t) :
    ∃ g S O l', l_enter [b, .tup ms, t] lh = .ok (.tup [.tup (enterF yss t yss.length 0 ms [] []).1, .loc S, .loc O]) l' ∧ Gr lh l' ∧ l'[S]? = some (.lst (enterF yss t yss.length 0 ms [] []).2.1) ∧ l'[O]? = some (.lst (enterF yss t yss.length 0 ms [] []).2.2) ∧
      EnS yss (enterF yss t yss.length 0 ms [] []).1 (enterF yss t yss.length 0 ms [] []).2.1 (enterF yss t yss.length 0 ms [] []).2.2 yss.length g := by
  obtain ⟨H, lA, a1, a2, a3, a4⟩ := l_homes_ok N
  have h4 := N.n4
  have hHl := (List.getElem?_eq_some_iff.mp a3).1
  have s1 : (parS3 3 4 5 (consA (apM NP.l_homes (consA (varM 0) (nilA))) (consA (lstM (nilA)) (consA (lstM (nilA)) (nilA))))) [some b, some (.tup ms), some t, none, none, none, none, none, none] lh =
      .nx [some b, some (.tup ms), some t, some (.loc H), some (.loc lA.length), some (.loc (lA.length + 1)), none, none, none] (lA ++ [.lst [], .lst []]) := by
    simp [parS3_ap, a1]
  have gb : Gr lh (lA ++ [Ob.lst [], .lst []]) := a2.trans (.app _ _)
  have hSb : (lA ++ [Ob.lst [], .lst []])[lA.length]? = some (.lst []) := by simp
  have hOb : (lA ++ [Ob.lst [], .lst []])[lA.length + 1]? = some (.lst []) := by simp
  have hHb : (lA ++ [Ob.lst [], .lst []])[H]? = some (.lst (homesF 0 yss)) := get_app a3
  have Nb : NetAt (lA ++ [Ob.lst [], .lst []]) b yss := N.mono fun _ _ h => gb.get h id
  generalize (lA ++ [Ob.lst [], .lst []]) = base at *
  have hr : rngI (consA (callM lenD (consA (opM ixD (varM 0) (conM (.int 1))) (nilA))) (nilA)) [some b, some (.tup ms), some t, some (.loc H), some (.loc lA.length), some (.loc (lA.length + 1)), none, none, none] base = .ok (itR 0 yss.length) base := by
    obtain ⟨s, R, ds, rfl, a, r⟩ := Nb.ex
    have := r.len
    refine rngI_nat ?_ (by omega)
    simp [a, this]
  obtain ⟨e', l', p, q⟩ := forN_inv (nx := (itR 0 yss.length).nx) (g := nmG 6) (body := enBody)
    (fun i e l => ∃ (ms' st' outs' : List D) (g' : List Int) (S' O' : Nat) (x6 x7 x8 : Option D), e = [some b, some (.tup ms'), some t, some (.loc H), some (.loc S'), some (.loc O'), x6, x7, x8] ∧ Gr base l ∧ EnS yss ms' st' outs' i g' ∧ l[S']? = some (.lst st') ∧ l[O']? = some (.lst outs') ∧
      enterF yss t (yss.length - i) i ms' st' outs' = enterF yss t yss.length 0 ms [] []) yss.length
    (fun i e l hi I => by
      obtain ⟨ms', st', outs', g', S', O', x6, x7, x8, rfl, gr, E, hS, hO, hef⟩ := I
      obtain ⟨ms2, st2, outs2, g2, S2, O2, y7, y8, l2, b1, b2, b3, b4, b5, b6⟩ := en_step (x7 := x7) (x8 := x8) Nb gr hHb ht hi E hS hO
      refine ⟨.int (i : Int), _, l2, itR_nx hi, .inl b1, ms2, st2, outs2, g2, S2, O2, some (.int (i : Int)), y7, y8, rfl, b2, b3, b4, b5, ?_⟩
      rw [← hef, show yss.length - i = (yss.length - (i + 1)) + 1 by omega, b6])
    (fun e l I => itR_end)
    (yss.length + 1) 0 [some b, some (.tup ms), some t, some (.loc H), some (.loc lA.length), some (.loc (lA.length + 1)), none, none, none] base (by omega) (by omega)
    ⟨ms, [], [], [], lA.length, lA.length + 1, none, none, none, rfl, .refl, ⟨rfl, hm, ⟨List.nodup_nil, fun x hx => by simp at hx⟩, fun x hx => by simp at hx, Nat.zero_le _, Nat.zero_le _, fun d hd => by simp at hd⟩, hSb, hOb, rfl⟩
  obtain ⟨ms', st', outs', g', S', O', x6, x7, x8, rfl, gr, E, hS, hO, hef⟩ := q
  rw [Nat.sub_self] at hef
  have hef' : enterF yss t yss.length 0 ms [] [] = (ms', st', outs') := hef.symm
  rw [hef']
  refine ⟨g', S', O', l', ?_, gb.trans gr, hS, hO, E⟩
  have hst : stD 9 [b, .tup ms, t] = [some b, some (.tup ms), some t, none, none, none, none, none, none] := by simp
  have hfu : (itR 0 yss.length).fuel = yss.length + 1 := rfl
  rw [l_enter_eq, fnM_ap, hst, seqS_ap, s1, bd_nx, seqS_ap, forS_ap, hr, toSI_ok, hfu, p, bd_nx, rtS_ap, tupM_ap, consA_ap, varM_at 1 (by rfl), Re.bind_ok, consA_ap, varM_at 4 (by rfl), Re.bind_ok, consA_ap, varM_at 5 (by rfl), Re.bind_ok, nilA_ap, Re.bind_ok, Re.bind_ok, Re.bind_ok, Re.bind_ok]
  rfl
end NP
set_option maxRecDepth 100000
set_option maxHeartbeats 4000000
/-! l_send, l_first, l_tries. -/
namespace NP
open PySem PySem.Spec L2 NL
theorem StOk.up {ps ms ws : List D} {os : List (List Int)} {B B' : Nat} (S : StOk ps ms ws os B) (h : B ≤ B') : StOk ps ms ws os B' := ⟨S.mem, S.wl, S.one, Nat.le_trans S.ol h, S.nd, S.pl, S.pw⟩
theorem l_send_ok {lh : LH} {b x q : D} {yss : List (List D)} {ms ws : List D} {os : List (List Int)} {B : Nat} (N : NetAt lh b yss) (S : StOk yss.flatten ms ws os B) (hB : B ≤ 90) (ht : ItemD (.tup [x, q])) :
    ∃ g O l', l_send [b, stD3 ms ws os, x, q] lh = .ok (.tup [stD3 (enterF yss (.tup [x, q]) yss.length 0 ms [] []).1 (anewW (enterF yss (.tup [x, q]) yss.length 0 ms [] []).1 ws g) (anewO (enterF yss (.tup [x, q]) yss.length 0 ms [] []).1 os g), .loc O]) l' ∧ Gr lh l' ∧
      l'[O]? = some (.lst (enterF yss (.tup [x, q]) yss.length 0 ms [] []).2.2) ∧ EnS yss (enterF yss (.tup [x, q]) yss.length 0 ms [] []).1 (enterF yss (.tup [x, q]) yss.length 0 ms [] []).2.1 (enterF yss (.tup [x, q]) yss.length 0 ms [] []).2.2 yss.length g ∧
      StOk yss.flatten (enterF yss (.tup [x, q]) yss.length 0 ms [] []).1 (anewW (enterF yss (.tup [x, q]) yss.length 0 ms [] []).1 ws g) (anewO (enterF yss (.tup [x, q]) yss.length 0 ms [] []).1 os g) B := by
  have hps : ∀ p ∈ yss.flatten, PartD 3 p := fun p hp => by
    obtain ⟨ys, hy, hp⟩ := List.mem_flatten.mp hp
    exact (N.r4 ys hy).2 p hp
  obtain ⟨g, S1, O1, l1, a1, a2, a3, a4, E⟩ := l_enter_ok N S.mem ht
  generalize enterF yss (.tup [x, q]) yss.length 0 ms [] [] = R at *
  rw [E.eq] at a3
  have A := anewOk_of N.n16 S hB E.mem E.st
  obtain ⟨l2, c1, c2⟩ := l_anew_ok (ms := ms) (N.mono fun _ _ h => a2.get h id) A a3
  refine ⟨g, O1, l2, ?_, a2.trans c2, c2.get a4 id, E, st_anew hps S E.mem E.st⟩
  have hst : stD 5 [b, stD3 ms ws os, x, q] = [some b, some (stD3 ms ws os), some x, some q, none] := by simp
  have hi : ixD (stD3 ms ws os) (.int 0) lh = .ok (.tup ms) lh := by simp [stD3]
  have t1 : (asS (apM NP.l_enter (consA (varM 0) (consA (opM ixD (varM 1) (conM (.int 0))) (consA (tupM (consA (varM 2) (consA (varM 3) (nilA)))) (nilA))))) (nmG 4)) [some b, some (stD3 ms ws os), some x, some q, none] lh = .nx [some b, some (stD3 ms ws os), some x, some q, some (.tup [.tup R.1, .loc S1, .loc O1])] l1 := by
    simp [hi, a1]
  unfold l_send
  rw [fnM_ap, hst, seqS_ap, t1, bd_nx]
  simp [c1]
theorem l_first_ok {lh : LH} {b : D} {yss : List (List D)} (N : NetAt lh b yss) :
    ∃ l', l_first [b] lh = .ok (stD3 (List.replicate yss.flatten.length (.tup [.bl false, .non])) (List.replicate yss.flatten.length .non) [[]]) l' ∧ Gr lh l' ∧ StOk yss.flatten (List.replicate yss.flatten.length (.tup [.bl false, .non])) (List.replicate yss.flatten.length .non) [[]] 1 := by
  have h16 := N.n16
  have b1 := l_parts_ok N
  refine ⟨_, ?_, .app lh [.lst [], .lst yss.flatten], ⟨⟨by simp, fun i p m hp hm => ?_⟩, by simp, (fun h => nomatch h), Nat.le_refl _, fun g hg => ?_, fun g hg p hp => ?_, fun w hw => by rw [(List.mem_replicate.mp hw).2]; rfl⟩⟩
  · have m1 : ∀ (x : D) (l : LH), mulTD (.tup [x]) (.int (yss.flatten.length : Int)) l = .ok (.tup (List.replicate yss.flatten.length x)) l := fun x l => by
      show (if [x] ≠ [] ∧ (0 : Int) ≤ (yss.flatten.length : Int) ∧ (yss.flatten.length : Int) ≤ 1000 ∧ [x].length ≤ 1000 then Re.ok (D.tup (List.replicate (yss.flatten.length : Int).toNat [x]).flatten) l else .bad) = _
      rw [if_pos ⟨(fun h => nomatch h), by omega, by omega, by simp⟩, Int.toNat_natCast, rep1]
    generalize yss.flatten = ps at *
    simp [l_first, b1, m1, stD3, gD]
  · have : m = .tup [.bl false, .non] := by
      have h2 := List.mem_of_getElem? hm
      exact (List.mem_replicate.mp h2).2
    subst this
    exact .rest p
  · rw [List.mem_singleton] at hg
    subst hg
    exact List.nodup_nil
  · rw [List.mem_singleton] at hg
    subst hg
    simp at hp
def letL : List D := [so "a", so "b", so "ab", so "ac", so "abc"]
theorem let_cps {s : D} (h : s ∈ letL) : ∃ z, s = .str z ∧ z.cps.toList ≠ [] ∧ z.cps.toList.length ≤ 3 ∧ ∀ c ∈ z.cps.toList, D.str ⟨#[c]⟩ ∈ abcL := by
  have ea : D.str ⟨#[97]⟩ ∈ abcL := by
    have : so "a" = D.str ⟨#[97]⟩ := congrArg D.str (by decide +kernel)
    rw [← this]; simp [abcL]
  have eb : D.str ⟨#[98]⟩ ∈ abcL := by
    have : so "b" = D.str ⟨#[98]⟩ := congrArg D.str (by decide +kernel)
    rw [← this]; simp [abcL]
  have ec : D.str ⟨#[99]⟩ ∈ abcL := by
    have : so "c" = D.str ⟨#[99]⟩ := congrArg D.str (by decide +kernel)
    rw [← this]; simp [abcL]
  simp [letL] at h
  rcases h with rfl | rfl | rfl | rfl | rfl
  · have e : (PySem.Str.ofString "a").cps.toList = [97] := by decide +kernel
    refine ⟨_, rfl, by rw [e]; exact (fun h => nomatch h), by rw [e]; decide, fun c hc => ?_⟩
    rw [e] at hc
    simp at hc
    subst hc
    exact ea
  · have e : (PySem.Str.ofString "b").cps.toList = [98] := by decide +kernel
    refine ⟨_, rfl, by rw [e]; exact (fun h => nomatch h), by rw [e]; decide, fun c hc => ?_⟩
    rw [e] at hc
    simp at hc
    subst hc
    exact eb
  · have e : (PySem.Str.ofString "ab").cps.toList = [97, 98] := by decide +kernel
    refine ⟨_, rfl, by rw [e]; exact (fun h => nomatch h), by rw [e]; decide, fun c hc => ?_⟩
    rw [e] at hc
    simp at hc
    rcases hc with rfl | rfl
    · exact ea
    · exact eb
  · have e : (PySem.Str.ofString "ac").cps.toList = [97, 99] := by decide +kernel
    refine ⟨_, rfl, by rw [e]; exact (fun h => nomatch h), by rw [e]; decide, fun c hc => ?_⟩
    rw [e] at hc
    simp at hc
    rcases hc with rfl | rfl
    · exact ea
    · exact ec
  · have e : (PySem.Str.ofString "abc").cps.toList = [97, 98, 99] := by decide +kernel
    refine ⟨_, rfl, by rw [e]; exact (fun h => nomatch h), by rw [e]; decide, fun c hc => ?_⟩
    rw [e] at hc
    simp at hc
    rcases hc with rfl | rfl | rfl
    · exact ea
    · exact eb
    · exact ec
theorem l_tries_ok {lh : LH} {s x : D} (h : s ∈ letL) : ∃ n ds l', l_tries [.tup [s, x]] lh = .ok (.loc n) l' ∧ Gr lh l' ∧ l'[n]? = some (.lst (so "" :: ds)) ∧ ds ≠ [] ∧ ds.length ≤ 3 ∧ (∀ d ∈ ds, d ∈ abcL) ∧ lh.length ≤ n := by
  obtain ⟨z, rfl, h1, h2, h3⟩ := let_cps h
  have hit : seqI (opM ixD (varM 0) (conM (.int 0))) [some (.tup [.str z, x]), none] (lh ++ [.lst [so ""]]) = .ok (itS z) (lh ++ [.lst [so ""]]) := by
    rw [seqI_ap, opM_ap, varM_at 0 (by rfl), Re.bind_ok, conM_ap, Re.bind_ok, ixD_tup', atI_0]
    rfl
  obtain ⟨l1, a1, a2, a3⟩ := lcM_xs (g := nmG 1) (t := yesT) (m := varM 1) (own := [1]) hit z.cps.toList (by omega) rfl (fun _ => true) (fun c => D.str ⟨#[c]⟩)
    (fun i c l hc gr => ⟨.str ⟨#[c]⟩, [some (.tup [.str z, x]), some (.str ⟨#[c]⟩)], l, by simp only [itS]; rw [hc]; rfl, by simp [wipeD], rfl, .refl, fun _ => ⟨l, by simp, .refl⟩⟩)
    (fun l gr => by simp only [itS]; rw [List.getElem?_eq_none (Nat.le_refl _)]; rfl)
  rw [List.filter_eq_self.mpr (fun _ _ => rfl)] at a3
  have hsz : (200 : Nat) ≤ sizeLine := by decide
  have e1 : l1[lh.length]? = some (.lst [so ""]) := a2.get (by simp) id
  have add := addD_at (l := l1) (n := lh.length) (m := (lh ++ [Ob.lst [so ""]]).length) (xs := [so ""]) (ys := z.cps.toList.map fun c => D.str ⟨#[c]⟩) e1 a3 (by rw [List.length_map]; simp only [List.length_cons, List.length_nil]; omega)
  refine ⟨l1.length, z.cps.toList.map fun c => D.str ⟨#[c]⟩, l1 ++ [.lst ([so ""] ++ z.cps.toList.map fun c => D.str ⟨#[c]⟩)], ?_, ((Ge.app _ _).trans a2).trans (.app _ _), by simp, fun e => h1 (List.map_eq_nil_iff.mp e), by rw [List.length_map]; exact h2, fun d hd => ?_, by have := a2.len; simp at this; omega⟩
  · have hst : stD 2 [.tup [.str z, x]] = [some (.tup [.str z, x]), none] := by simp
    unfold l_tries
    rw [fnM_ap, hst, rtS_ap, opM_ap, lstM_ap, consA_ap, conM_ap, Re.bind_ok, nilA_ap, Re.bind_ok, Re.bind_ok, Re.bind_ok, a1, Re.bind_ok, add]
    rfl
  · obtain ⟨c, hc, rfl⟩ := List.mem_map.mp hd
    exact h3 c hc
end NP
set_option maxRecDepth 100000
set_option maxHeartbeats 4000000
/-! a walk of the law's own: its states. -/
namespace NP
open PySem PySem.Spec L2 NL
/-- what the bag is not -/
theorem Bag.not {lh : LH} {b n : Nat} {xs : List D} (hB : Bag lh b) (h : lh[n]? = some (.lst xs)) (hx : xs.length ≠ 5 ∨ ∀ c r, xs ≠ .loc c :: r) : n ≠ b := by
  rintro rfl
  obtain ⟨c, i, r, z, k, cells, hb, _⟩ := hB.ex
  rw [h] at hb
  unfold bagO at hb
  injection hb with hb
  injection hb with hb
  subst hb
  rcases hx with hx | hx
  · exact hx rfl
  · exact hx _ _ rfl
theorem RowsAt.fr {lh l : LH} {b : Nat} (hB : Bag lh b) (F : Fr b lh l) : ∀ {ds : List D} {yss : List (List D)}, RowsAt lh ds yss → (∀ ys ∈ yss, ys.length ≤ 4) → RowsAt l ds yss
  | _, _, .nil, _ => .nil
  | _, _, .cons a t, h => .cons (F.get a (hB.not a (.inl (by have := h _ (List.mem_cons_self ..); omega)))) (t.fr hB F fun ys hy => h ys (List.mem_cons_of_mem _ hy))
theorem NetAt.fr {lh l : LH} {b : Nat} {d : D} {yss : List (List D)} (N : NetAt lh d yss) (hB : Bag lh b) (F : Fr b lh l) : NetAt l d yss := by
  obtain ⟨s, R, ds, e, a, r⟩ := N.ex
  have := r.len
  have := N.n4
  exact ⟨⟨s, R, ds, e, F.get a (hB.not a (.inl (by omega))), r.fr hB F fun ys hy => (N.r4 ys hy).1⟩, N.ne, N.n4, N.r4⟩
theorem InsAt.fr {c : CA} {lh l : LH} {b N LL PL HL : Nat} {yss : List (List D)} (I : InsAt c lh N LL PL HL yss) (hB : Bag lh b) (F : Fr b lh l) : InsAt c l N LL PL HL yss := by
  obtain ⟨fs, a, q⟩ := I.o
  obtain ⟨ds, h, r⟩ := I.ll
  have := r.len
  have := I.n4
  have hN : N ≠ b := by
    rintro rfl
    obtain ⟨c, i, r, z, k, cells, hb, _⟩ := hB.ex
    rw [a] at hb
    unfold bagO at hb
    cases hb
  refine ⟨⟨fs, F.get a hN, q⟩, ⟨ds, F.get h (hB.not h (.inl (by omega))), r.fr hB F fun ys hy => (I.r4 ys hy).1⟩, F.get I.pl (hB.not I.pl (.inr fun c r e => ?_)), F.get I.hl (hB.not I.hl (.inr fun c r e => ?_)), I.n4, I.r4⟩
  · have := I.part (.loc c) (by rw [e]; exact List.mem_cons_self ..)
    cases this
  · have h0 : 0 < yss.flatten.length := by rw [← homesF_len yss 0, e]; simp
    obtain ⟨r2, b1, b2, b3⟩ := homes_row yss 0 h0
    have := homes_get yss 0 r2 0 b1 b2 b3
    rw [e] at this
    cases this
def StAt (yss : List (List D)) (B : Nat) (d : D) : Prop := ∃ ms ws os, d = stD3 ms ws os ∧ StOk yss.flatten ms ws os B
theorem l_move_ok {lh : LH} {b mv st : D} {yss : List (List D)} {B : Nat} (N : NetAt lh b yss) (hS : StAt yss B st) (hB : B ≤ 60) (hmv : mv = so "" ∨ mv ∈ abcL) :
    ∃ st' O l', l_move [b, st, mv, .int 0] lh = .ok (.tup [st', .loc O]) l' ∧ Gr lh l' ∧ StAt yss (B + 1) st' := by
  have hps : ∀ p ∈ yss.flatten, PartD 3 p := fun p hp => by
    obtain ⟨ys, hy, hp⟩ := List.mem_flatten.mp hp
    exact (N.r4 ys hy).2 p hp
  obtain ⟨ms, ws, os, rfl, S⟩ := hS
  have hst : stD 4 [b, stD3 ms ws os, mv, .int 0] = [some b, some (stD3 ms ws os), some mv, some (.int 0)] := by simp
  rcases hmv with rfl | hmv
  · obtain ⟨ms2, ws2, os2, outs, S2, _, _, hl, _⟩ := passes hps N.n16 S (by omega)
    obtain ⟨O, l', a1, a2, a3⟩ := hl lh b N
    refine ⟨_, O, l', ?_, a2, ms2, ws2, os2, rfl, S2⟩
    unfold l_move
    rw [fnM_ap, hst]
    simp [a1]
  · have ht : ItemD (.tup [mv, .int 0]) := ⟨mv, 0, hmv, rfl⟩
    obtain ⟨g, O, l', a1, a2, a3, a4, a5⟩ := l_send_ok N S (by omega) ht
    refine ⟨_, O, l', ?_, a2, _, _, _, rfl, a5.up (Nat.le_succ _)⟩
    have he : eqD mv (so "") lh = .ok (.bl false) lh := by
      simp [abcL] at hmv
      rcases hmv with rfl | rfl | rfl <;> simp (decide := true)
    unfold l_move
    rw [fnM_ap, hst, rtS_ap, ifM_ap, blT_ap, opM_ap, varM_at 2 (by rfl), Re.bind_ok, conM_ap, Re.bind_ok, he, Re.bind_ok, Re.bind_ok]
    rw [if_neg Bool.false_ne_true, apM_ap, consA_ap, varM_at 0 (by rfl), Re.bind_ok, consA_ap, varM_at 1 (by rfl), Re.bind_ok, consA_ap, varM_at 2 (by rfl), Re.bind_ok, consA_ap, varM_at 3 (by rfl), Re.bind_ok, nilA_ap, Re.bind_ok, Re.bind_ok, Re.bind_ok, Re.bind_ok, Re.bind_ok, a1]
    rfl
def wkM : M := (ifM (blT (opM gtD (apM NP.l_draw (consA (varM 0) (consA (conM (.int 3)) (nilA)))) (conM (.int 0)))) (conM (.str (PySem.Str.ofString ""))) (apM NP.l_of (consA (varM 0) (consA (slM (apM NP.l_tries (consA (varM 1) (nilA))) (soM (conM (.int 1))) (noM)) (nilA)))))
theorem wk_move {l : LH} {bag : Nat} {s x : D} {e : LE} (h0 : varM 0 e = fun l => .ok (.loc bag) l) (h1 : varM 1 e = fun l => .ok (.tup [s, x]) l) (hs : s ∈ letL) (hB : Bag l bag) :
    ∃ mv l', wkM e l = .ok mv l' ∧ Fr bag l l' ∧ Bag l' bag ∧ (mv = so "" ∨ mv ∈ abcL) := by
  obtain ⟨q, l1, a1, a2, a3, a4, a5⟩ := l_draw_ok (n := 3) hB (by omega) (by omega)
  by_cases hq : 0 < q
  · refine ⟨so "", l1, ?_, a4, a5, .inl rfl⟩
    unfold wkM
    simp [h0, a3, hq]
  · obtain ⟨n, ds, l2, b1, b2, b3, b4, b5, b6, b7⟩ := l_tries_ok (lh := l1) (s := s) (x := x) hs
    have hsl : slD (.loc n) (some 1) none l2 = .ok (.loc l2.length) (l2 ++ [.lst ds]) := by
      show (match sq l2 (.loc n) with | some xs => Re.ok (D.loc l2.length) (l2 ++ [Ob.lst (cutL xs (some ((1 : Nat) : Int)) none)]) | none => .bad) = _
      rw [sq_loc, b3]
      dsimp only
      rw [cutL_from (by simp)]
      rfl
    have B2 := (a5.gr b2).app [.lst ds]
    have hbl := (a5.gr b2).lt
    obtain ⟨d, l3, c1, c2, c3, c4⟩ := l_of_ok (n := l2.length) (ds := ds) B2 (by omega) (by simp) (List.length_pos_iff.mpr b4) (by omega)
    refine ⟨d, l3, ?_, ((a4.trans b2.weak).trans (.app _ _)).trans c3, c4, .inr (b6 d c1)⟩
    unfold wkM
    simp [h0, h1, a3, hq, b1, hsl, c2]
def wkBody : SM := (seqS (asS wkM (nmG 6))
  (seqS (exS (mtM "list" appD (varM 3) (consA (opM ixD (apM NP.l_move (consA (varM 1) (consA (opM ixD (varM 3) (varM 5)) (consA (varM 6) (consA (conM (.int 0)) (nilA)))))) (conM (.int 0))) (nilA))))
  (exS (mtM "list" appD (varM 4) (consA (varM 6) (nilA))))))
theorem l_walk_eq : l_walk = fnM 7 (seqS (parS 3 4 (consA (lstM (consA (apM NP.l_first (consA (varM 1) (nilA))) (nilA))) (consA (lstM (nilA)) (nilA)))) (seqS (forS (rngI (consA (varM 2) (nilA))) (nmG 5) wkBody) (rtS (tupM (consA (varM 3) (consA (varM 4) (nilA))))))) := rfl
structure WkAt (base l : LH) (bag St Wd i : Nat) (yss : List (List D)) (sts wd : List D) : Prop where
  fr : Fr bag base l
  bag : Bag l bag
  st : l[St]? = some (.lst sts)
  ww : l[Wd]? = some (.lst wd)
  sl : sts.length = i + 1
  wl : wd.length = i
  ok : ∀ (j : Nat) (d : D), sts[j]? = some d → StAt yss (j + 1) d
theorem wk_step {base l : LH} {bag St Wd i : Nat} {s R : D} {n5 : D} {x6 : Option D} {yss : List (List D)} {sts wd : List D} (N : NetAt base (.tup [s, R]) yss) (hs : s ∈ letL) (hB0 : Bag base bag) (hSt : base.length ≤ St) (hWd : base.length ≤ Wd) (hne : St ≠ Wd) (W : WkAt base l bag St Wd i yss sts wd) (hi : i < 50) :
    ∃ mv st' l', wkBody [some (.loc bag), some (.tup [s, R]), some n5, some (.loc St), some (.loc Wd), some (.int (i : Int)), x6] l =
      .nx [some (.loc bag), some (.tup [s, R]), some n5, some (.loc St), some (.loc Wd), some (.int (i : Int)), some mv] l' ∧ WkAt base l' bag St Wd (i + 1) yss (sts ++ [st']) (wd ++ [mv]) := by
  obtain ⟨mv, l1, a1, a2, a3, a4⟩ := wk_move (e := [some (.loc bag), some (.tup [s, R]), some n5, some (.loc St), some (.loc Wd), some (.int (i : Int)), x6]) (l := l) rfl rfl hs W.bag
  have hbl := hB0.lt
  have hSt1 : l1[St]? = some (.lst sts) := a2.get W.st (by omega)
  have hWd1 : l1[Wd]? = some (.lst wd) := a2.get W.ww (by omega)
  have N1 : NetAt l1 (.tup [s, R]) yss := N.fr hB0 (W.fr.trans a2)
  have hil : i < sts.length := by have := W.sl; omega
  obtain ⟨st', O, l2, b1, b2, b3⟩ := l_move_ok N1 (W.ok i _ (List.getElem?_eq_getElem hil)) (by omega) a4
  have hat : atI sts (i : Int) = some sts[i] := atI_nat (List.getElem?_eq_getElem hil)
  have hSt2 := b2.get hSt1 id
  have hWd2 := b2.get hWd1 id
  have hB2 := a3.gr b2
  have F2 := (W.fr.trans a2).trans (Ge.weak (p := fun n => n = bag) b2)
  have sl := W.sl
  have wl := W.wl
  have ap1 := appD_at (d := st') hSt2 (by omega)
  have hWd3 : (l2.set St (.lst (sts ++ [st'])))[Wd]? = some (.lst wd) := by rw [List.getElem?_set_ne hne]; exact hWd2
  have ap2 := appD_at (d := mv) hWd3 (by omega)
  have hStl := (List.getElem?_eq_some_iff.mp hSt2).1
  have hWdl := (List.getElem?_eq_some_iff.mp hWd3).1
  refine ⟨mv, st', (l2.set St (.lst (sts ++ [st']))).set Wd (.lst (wd ++ [mv])), ?_, ⟨⟨by simp only [List.length_set]; exact F2.len, fun n hn hp => ?_⟩, ?_, ?_, ?_, by simp [sl], by simp [wl], fun j d hd => ?_⟩⟩
  · have t1 : asS wkM (nmG 6) [some (.loc bag), some (.tup [s, R]), some n5, some (.loc St), some (.loc Wd), some (.int (i : Int)), x6] l = .nx [some (.loc bag), some (.tup [s, R]), some n5, some (.loc St), some (.loc Wd), some (.int (i : Int)), some mv] l1 := by
      rw [asS_ap, a1]
      rfl
    have t2 : (exS (mtM "list" appD (varM 3) (consA (opM ixD (apM NP.l_move (consA (varM 1) (consA (opM ixD (varM 3) (varM 5)) (consA (varM 6) (consA (conM (.int 0)) (nilA)))))) (conM (.int 0))) (nilA)))) [some (.loc bag), some (.tup [s, R]), some n5, some (.loc St), some (.loc Wd), some (.int (i : Int)), some mv] l1 =
        .nx [some (.loc bag), some (.tup [s, R]), some n5, some (.loc St), some (.loc Wd), some (.int (i : Int)), some mv] (l2.set St (.lst (sts ++ [st']))) := by
      simp [tyOk_loc hSt1, hSt1, hat, b1, ap1]
    have t3 : (exS (mtM "list" appD (varM 4) (consA (varM 6) (nilA)))) [some (.loc bag), some (.tup [s, R]), some n5, some (.loc St), some (.loc Wd), some (.int (i : Int)), some mv] (l2.set St (.lst (sts ++ [st']))) =
        .nx [some (.loc bag), some (.tup [s, R]), some n5, some (.loc St), some (.loc Wd), some (.int (i : Int)), some mv] ((l2.set St (.lst (sts ++ [st']))).set Wd (.lst (wd ++ [mv]))) := by
      simp [tyOk_loc hWd3, ap2]
    unfold wkBody
    rw [seqS_ap, t1, bd_nx, seqS_ap, t2, bd_nx, t3]
  · rw [List.getElem?_set_ne (by omega), List.getElem?_set_ne (by omega)]
    exact F2.same n hn hp
  · exact (hB2.set (by omega) (by omega)).set (by omega) (by omega)
  · rw [List.getElem?_set_ne hne.symm, List.getElem?_set_self hStl]
  · rw [List.getElem?_set_self hWdl]
  · by_cases hj : j < sts.length
    · rw [List.getElem?_append_left hj] at hd
      exact W.ok j d hd
    · have hj2 : j = sts.length := by
        have := (List.getElem?_eq_some_iff.mp hd).1
        simp at this
        omega
      subst hj2
      simp at hd
      subst hd
      rw [sl]
      exact b3
theorem l_walk_ok {lh : LH} {bag n : Nat} {s R : D} {yss : List (List D)} (N : NetAt lh (.tup [s, R]) yss) (hs : s ∈ letL) (hB : Bag lh bag) (hn : n ≤ 50) :
    ∃ St Wd sts wd l', l_walk [.loc bag, .tup [s, R], .int (n : Int)] lh = .ok (.tup [.loc St, .loc Wd]) l' ∧ WkAt lh l' bag St Wd n yss sts wd ∧ lh.length ≤ St ∧ lh.length ≤ Wd := by
  obtain ⟨l1, a1, a2, a3⟩ := l_first_ok N
  have hs0 : StAt yss 1 (stD3 (List.replicate yss.flatten.length (.tup [.bl false, .non])) (List.replicate yss.flatten.length .non) [[]]) := ⟨_, _, _, rfl, a3⟩
  generalize stD3 (List.replicate yss.flatten.length (.tup [.bl false, .non])) (List.replicate yss.flatten.length .non) [[]] = sx at a1 hs0
  have hl := a2.len
  have hbl := hB.lt
  have s1 : (parS 3 4 (consA (lstM (consA (apM NP.l_first (consA (varM 1) (nilA))) (nilA))) (consA (lstM (nilA)) (nilA)))) [some (.loc bag), some (.tup [s, R]), some (.int (n : Int)), none, none, none, none] lh =
      .nx [some (.loc bag), some (.tup [s, R]), some (.int (n : Int)), some (.loc l1.length), some (.loc (l1.length + 1)), none, none] (l1 ++ [.lst [sx], .lst []]) := by
    simp [a1]
  have hr : rngI (consA (varM 2) (nilA)) [some (.loc bag), some (.tup [s, R]), some (.int (n : Int)), some (.loc l1.length), some (.loc (l1.length + 1)), none, none] (l1 ++ [.lst [sx], .lst []]) = .ok (itR 0 n) (l1 ++ [.lst [sx], .lst []]) := rngI_nat (by simp) (by omega)
  obtain ⟨e', l', p, q⟩ := forN_inv (nx := (itR 0 n).nx) (g := nmG 5) (body := wkBody)
    (fun i e l => ∃ sts wd x5 x6, e = [some (.loc bag), some (.tup [s, R]), some (.int (n : Int)), some (.loc l1.length), some (.loc (l1.length + 1)), x5, x6] ∧ WkAt lh l bag l1.length (l1.length + 1) i yss sts wd) n
    (fun i e l hi I => by
      obtain ⟨sts, wd, x5, x6, rfl, W⟩ := I
      obtain ⟨mv, st', l2, b1, b2⟩ := wk_step (n5 := .int (n : Int)) (x6 := x6) N hs hB hl (by omega) (by omega) W (by omega)
      exact ⟨.int (i : Int), _, l2, itR_nx hi, .inl b1, _, _, some (.int (i : Int)), some mv, rfl, b2⟩)
    (fun e l I => itR_end)
    (n + 1) 0 [some (.loc bag), some (.tup [s, R]), some (.int (n : Int)), some (.loc l1.length), some (.loc (l1.length + 1)), none, none] (l1 ++ [.lst [sx], .lst []]) (by omega) (by omega)
    ⟨[sx], [], none, none, rfl, ⟨(a2.trans (.app _ _)).weak, (hB.gr a2).app _, by simp, by simp, rfl, rfl, fun j d hd => by
      cases j with
      | zero =>
        simp at hd
        subst hd
        exact hs0
      | succ j => simp at hd⟩⟩
  obtain ⟨sts, wd, x5, x6, rfl, W⟩ := q
  refine ⟨l1.length, l1.length + 1, sts, wd, l', ?_, W, hl, by omega⟩
  have hst : stD 7 [.loc bag, .tup [s, R], .int (n : Int)] = [some (.loc bag), some (.tup [s, R]), some (.int (n : Int)), none, none, none, none] := by simp
  have hfu : (itR 0 n).fuel = n + 1 := rfl
  rw [l_walk_eq, fnM_ap, hst, seqS_ap, s1, bd_nx, seqS_ap, forS_ap, hr, toSI_ok, hfu, p, bd_nx]
  simp
end NP
set_option maxRecDepth 100000
set_option maxHeartbeats 4000000
namespace NP
open PySem PySem.Spec L2 NL
/-! ### letters -/
def isL (x : Str) : Bool := decide ((x.length : Int) = 1) && hasSub (Str.ofString "abc") x
theorem lenD_str (lh : LH) (x : Str) (h : x.length ≤ sizeLine) : lenD [.str x] lh = .ok (.int x.length) lh := by
  show (if x.length ≤ sizeLine then Re.ok (D.int x.length) lh else .bad) = _
  rw [if_pos h]
theorem is_letter_ok (lh : LH) (x : Str) (h : x.length ≤ sizeLine) : is_letter [.str x] lh = .ok (.bl (isL x)) lh := by
  by_cases h1 : (x.length : Int) = 1
  · simp [is_letter, isT, tyNames, lenD_str _ _ h, inD_str, isL, h1]
  · simp [is_letter, isT, tyNames, lenD_str _ _ h, inD_str, isL, h1]
/-- are_letters, of a text -/
def arL (x : Str) : Bool := !decide (x = Str.ofString "") && (x.cps.toList.all fun c => isL ⟨#[c]⟩) && decide (Txt.join (Str.ofString "") (NS.signs x) = x)
theorem bls_map (bs : List Bool) : bls (bs.map D.bl) = some bs := by
  induction bs with
  | nil => rfl
  | cons b r ih =>
    show (bls (r.map D.bl)).map (b :: ·) = _
    rw [ih]; rfl
theorem strL_map : ∀ ys : List Str, strL (ys.map D.str) = some ys
  | [] => rfl
  | y :: r => by
    show (strL (r.map D.str)).map (y :: ·) = _
    rw [strL_map r]; rfl
theorem all_comp (x : Str) (lh : LH) (a : Option D) (h : x.cps.toList.length < 60) : ∃ l2, lcN (itS x).nx (nmG 1) yesT (apM NP.is_letter (consA (varM 1) (nilA))) lh.length [a, none] (itS x).fuel 0 (lh ++ [.lst []]) = .ok (.loc lh.length) l2 ∧
    allD [.loc lh.length] l2 = .ok (.bl (x.cps.toList.all fun c => isL ⟨#[c]⟩)) l2 ∧ Gr lh l2 := by
  obtain ⟨zs, l2, p1, p2, p3, p4⟩ := lcN_inv (nx := (itS x).nx) (g := nmG 1) (t := yesT) (m := apM NP.is_letter (consA (varM 1) (nilA))) (n0 := lh.length) (e := [a, none])
    (fun i zs l => zs = ((x.cps.toList.take i).map fun c => D.bl (isL ⟨#[c]⟩)) ∧ Gr lh l) x.cps.toList.length (by unfold sizeLine; omega)
    (fun i zs l hi I h0 hlz => by
      obtain ⟨rfl, g⟩ := I
      refine ⟨.str ⟨#[x.cps.toList[i]]⟩, [a, some (.str ⟨#[x.cps.toList[i]]⟩)], l, l, .bl (isL ⟨#[x.cps.toList[i]]⟩), l, ?_, rfl, rfl, ?_, h0, ?_, ?_⟩
      · show some ((x.cps.toList[i]?).map fun c => D.str ⟨#[c]⟩) = _
        rw [List.getElem?_eq_getElem hi]; rfl
      · show is_letter [D.str ⟨#[x.cps.toList[i]]⟩] l = _
        exact is_letter_ok l ⟨#[x.cps.toList[i]]⟩ (by show 1 ≤ sizeLine; unfold sizeLine; omega)
      · rw [List.take_add_one, List.getElem?_eq_getElem hi]; simp
      · refine ⟨by have := g.len; simp; omega, fun n hn hp => ?_⟩
        rw [List.getElem?_set_ne (by omega)]
        exact g.same n hn hp)
    (fun zs l I h0 => by
      show some ((x.cps.toList[x.cps.toList.length]?).map fun c => D.str ⟨#[c]⟩) = _
      rw [List.getElem?_eq_none (Nat.le_refl _)]; rfl)
    (itS x).fuel 0 [] (lh ++ [.lst []]) (by omega) (by show _ < x.cps.toList.length + 1 + 0; omega) rfl (by simp) ⟨rfl, .app _ _⟩
  refine ⟨l2, p1, ?_, p4.2⟩
  show (match sq l2 (.loc lh.length) with | some xs => (match bls xs with | some bs => Re.ok (D.bl (bs.all id)) l2 | none => .bad) | none => .bad) = _
  rw [sq_loc, p3]
  dsimp only
  have e : zs = (x.cps.toList.map fun c => isL ⟨#[c]⟩).map D.bl := by rw [p4.1, List.take_length, List.map_map]; rfl
  rw [e, bls_map]
  simp
theorem joinD_at {lh : LH} {n : Nat} {a : Str} {ys : List Str} (h : lh[n]? = some (.lst (ys.map D.str))) (hz : (ys.map fun y : Str => y.length).sum + ys.length * a.length ≤ 16777216) : joinD (.str a) [.loc n] lh = .ok (.str (Txt.join a ys)) lh := by
  show (match sq lh (.loc n) with
    | some xs => (match strL xs with | some ys => if (ys.map fun y : Str => y.length).sum + ys.length * a.length ≤ 16777216 then Re.ok (D.str (Txt.join a ys)) lh else .bad | none => .bad)
    | none => .bad) = _
  rw [sq_loc, h]
  dsimp only
  rw [strL_map]
  dsimp only
  rw [if_pos hz]
theorem adds_one : ∀ (cs : List Nat) (l : List Str), (∀ y ∈ l, y.length = 1) → ∀ y ∈ NS.adds l cs, y.length = 1
  | [], l, h => h
  | c :: r, l, h => by
    refine adds_one r _ fun y hy => ?_
    split at hy
    · exact h y hy
    · rcases List.mem_cons.mp hy with rfl | hy
      · rfl
      · exact h y hy
theorem sum_one : ∀ l : List Str, (∀ y ∈ l, y.length = 1) → (l.map fun y : Str => y.length).sum = l.length
  | [], _ => rfl
  | y :: r, h => by
    have := sum_one r fun z hz => h z (List.mem_cons_of_mem _ hz)
    have h1 := h y List.mem_cons_self
    simp [this, h1]; omega
theorem signs_sum (x : Str) (h : x.cps.toList.length < 60) : ((NS.signs x).map fun y : Str => y.length).sum + (NS.signs x).length * (Str.ofString "").length ≤ 16777216 := by
  have h1 := signs_len x
  have h2 := sum_one (NS.signs x) fun y hy => adds_one x.cps.toList [] (fun _ h => nomatch h) y ((NS.ord_perm _).mem_iff.mp hy)
  have h3 : (Str.ofString "").length = 0 := by decide
  rw [h2, h3]
  omega
theorem srtM_str (e : LE) (lh l : LH) (m : M) (x : Str) (h : m e lh = .ok (.str x) l) (ha : x.cps.all (· < 128) = true) (hz : x.cps.toList.length < 60) : srtM m e lh = .ok (.loc l.length) (l ++ [.lst ((NS.signs x).map D.str)]) := by
  unfold srtM
  rw [h]
  show (if x.cps.all (· < 128) = true ∧ x.cps.toList.length < 60 then _ else _) = _
  rw [if_pos ⟨ha, hz⟩]
theorem are_letters_ok (lh : LH) (x : Str) (ha : x.cps.all (· < 128) = true) (h : x.cps.toList.length < 60) : ∃ l2, are_letters [.str x] lh = .ok (.bl (arL x)) l2 ∧ Gr lh l2 := by
  obtain ⟨l2, a1, a2, a3⟩ := all_comp x lh (some (.str x)) h
  by_cases h1 : x = Str.ofString ""
  · exact ⟨lh, by simp [are_letters, isT, tyNames, h1, arL], .refl⟩
  · have hw : wipeD [some (.str x), none] [1] = [some (.str x), none] := rfl
    cases hb : (x.cps.toList.all fun c => isL ⟨#[c]⟩) with
    | false =>
      rw [hb] at a2
      exact ⟨l2, by simp [are_letters, isT, tyNames, h1, arL, lcM, hw, a1, a2, hb], a3⟩
    | true =>
      rw [hb] at a2
      refine ⟨l2 ++ [.lst ((NS.signs x).map D.str)], ?_, a3.trans (.app _ _)⟩
      have hs := srtM_str [some (.str x), none] l2 l2 (varM 0) x rfl ha h
      have hj := joinD_at (lh := l2 ++ [.lst ((NS.signs x).map D.str)]) (n := l2.length) (a := Str.ofString "") (ys := NS.signs x) (by simp) (signs_sum x h)
      have ht : tyOk "str" (.str (Str.ofString "")) l2 = true := rfl
      simp [are_letters, isT, tyNames, h1, arL, lcM, hw, a1, a2, hb, hs, hj, ht]
example : (["a", "b", "c", "ab", "ac", "bc", "abc"].all fun s => arL (Str.ofString s)) = true := by decide +kernel
example : (["", "ba", "aa", "d", "abcd"].all fun s => !arL (Str.ofString s)) = true := by decide +kernel
end NP
set_option maxRecDepth 100000
set_option maxHeartbeats 4000000
/-! the program's checks of a part, of a line. -/
namespace NP
open PySem PySem.Spec L2 NL
theorem is_between_ok (lh : LH) (v : Int) (h1 : 1 ≤ v) (h9 : v ≤ 9) : is_between [.int v, .int 1, .int 9] lh = .ok (.bl true) lh := by
  simp [is_between, is_number, isT, tyNames, h1, h9]
theorem eqD_tup_nil {ds : List D} {lh : LH} {qs : List PyData} (h0 : ds ≠ []) (h : ds.mapM (rd lh 15) = some qs) (hc : PyData.canLayAll0 qs = true) (hd : PyData.depthAll qs ≤ 3) : eqD (.tup ds) (.tup []) lh = .ok (.bl false) lh := by
  have e1 : rd lh 16 (.tup ds) = some (.tuple qs) := by rw [rd_tup, h]; rfl
  have e2 : rd lh 16 (.tup []) = some (.tuple []) := rfl
  have s1 : SeqAt.shaped (.tuple qs) = true := by
    simp [SeqAt.shaped, PyData.canLay0, PyData.depth, hc]
    omega
  have s2 : SeqAt.shaped (.tuple []) = true := shp_ints [] (Nat.zero_le _)
  have e3 : eqR lh (.tup ds) (.tup []) = some false := by
    show (match rd lh 16 (.tup ds), rd lh 16 (.tup []) with
      | some p, some q => if SeqAt.shaped p = true ∧ SeqAt.shaped q = true then some (PyData.eqv p q) else none
      | _, _ => none) = _
    rw [e1, e2]
    dsimp only
    rw [if_pos ⟨s1, s2⟩]
    cases ds with
    | nil => exact absurd rfl h0
    | cons d r =>
      cases qs with
      | nil => simp [List.mapM_cons, Option.bind_eq_some_iff] at h
      | cons x y => simp [PyData.eqv, PyData.eqvAll]
  unfold eqD
  rw [e3]
theorem oft_let {s : D} (h : s ∈ oftL) (lh : LH) : ∃ l2, are_letters [s] lh = .ok (.bl true) l2 ∧ Gr lh l2 := by
  simp [oftL] at h
  rcases h with rfl | rfl | rfl | rfl | rfl | rfl | rfl
  · have := are_letters_ok lh (PySem.Str.ofString "a") (by decide +kernel) (by decide +kernel); rwa [show arL (PySem.Str.ofString "a") = true by decide +kernel] at this
  · have := are_letters_ok lh (PySem.Str.ofString "b") (by decide +kernel) (by decide +kernel); rwa [show arL (PySem.Str.ofString "b") = true by decide +kernel] at this
  · have := are_letters_ok lh (PySem.Str.ofString "c") (by decide +kernel) (by decide +kernel); rwa [show arL (PySem.Str.ofString "c") = true by decide +kernel] at this
  · have := are_letters_ok lh (PySem.Str.ofString "ab") (by decide +kernel) (by decide +kernel); rwa [show arL (PySem.Str.ofString "ab") = true by decide +kernel] at this
  · have := are_letters_ok lh (PySem.Str.ofString "ac") (by decide +kernel) (by decide +kernel); rwa [show arL (PySem.Str.ofString "ac") = true by decide +kernel] at this
  · have := are_letters_ok lh (PySem.Str.ofString "bc") (by decide +kernel) (by decide +kernel); rwa [show arL (PySem.Str.ofString "bc") = true by decide +kernel] at this
  · have := are_letters_ok lh (PySem.Str.ofString "abc") (by decide +kernel) (by decide +kernel); rwa [show arL (PySem.Str.ofString "abc") = true by decide +kernel] at this
theorem let_oft {s : D} (h : s ∈ letL) : s ∈ oftL := by
  simp [letL] at h
  rcases h with rfl | rfl | rfl | rfl | rfl <;> simp [oftL]
theorem is_letter_abc {s : D} (h : s ∈ abcL) (lh : LH) : is_letter [s] lh = .ok (.bl true) lh := by
  simp [abcL] at h
  rcases h with rfl | rfl | rfl
  · rw [is_letter_ok lh (PySem.Str.ofString "a") (by decide +kernel), show isL (PySem.Str.ofString "a") = true by decide +kernel]
  · rw [is_letter_ok lh (PySem.Str.ofString "b") (by decide +kernel), show isL (PySem.Str.ofString "b") = true by decide +kernel]
  · rw [is_letter_ok lh (PySem.Str.ofString "c") (by decide +kernel), show isL (PySem.Str.ofString "c") = true by decide +kernel]
theorem is_part_ok {p : D} (hp : PartD 3 p) (lh : LH) : ∃ l', is_part [p] lh = .ok (.bl true) l' ∧ Gr lh l' := by
  have hc : PyData.strOk (PySem.Str.ofString "change") = true := by decide +kernel
  have hpk : PyData.strOk (PySem.Str.ofString "pick") = true := by decide +kernel
  have htn : PyData.strOk (PySem.Str.ofString "turn") = true := by decide +kernel
  cases hp with
  | timed w q hw h0 h1 =>
    have hb := is_between_ok lh (1 + q) (by omega) (by omega)
    obtain ⟨x, rfl, hx⟩ := timed_str hw
    have hn := eqD_tup_nil (lh := lh) (ds := [.str x, .int (1 + q)]) (qs := [.str x, .int (1 + q)]) (fun h => nomatch h) (by simp) (by simp [PyData.canLayAll0, PyData.canLay0, hx]) (by simp [PyData.depthAll, PyData.depth])
    refine ⟨lh, ?_, .refl⟩
    simp [timedL] at hw
    rcases hw with rfl | rfl | rfl | rfl | rfl | rfl <;> simp (decide := true) [is_part, isT, tyNames, hn, inD_tup, strsB, isS, PyData.strOk, hb]
  | change =>
    have hn := eqD_tup_nil (lh := lh) (ds := [so "change"]) (qs := [.str (PySem.Str.ofString "change")]) (fun h => nomatch h) (by simp) (by simp [PyData.canLayAll0, PyData.canLay0, hc]) (by simp [PyData.depthAll, PyData.depth])
    have he : eqD (.tup [so "change"]) (.tup [so "change"]) lh = .ok (.bl true) lh := by
      have e1 : rd lh 16 (.tup [so "change"]) = some (.tuple [.str (PySem.Str.ofString "change")]) := by rw [rd_tup]; simp
      have s1 : SeqAt.shaped (.tuple [.str (PySem.Str.ofString "change")]) = true := by
        simp [SeqAt.shaped, PyData.canLay0, PyData.canLayAll0, PyData.depth, PyData.depthAll, hc]
      have e3 : eqR lh (.tup [so "change"]) (.tup [so "change"]) = some true := by
        show (match rd lh 16 (.tup [so "change"]), rd lh 16 (.tup [so "change"]) with
          | some p, some q => if SeqAt.shaped p = true ∧ SeqAt.shaped q = true then some (PyData.eqv p q) else none
          | _, _ => none) = _
        rw [e1]
        dsimp only
        rw [if_pos ⟨s1, s1⟩]
        simp [PyData.eqv, PyData.eqvAll]
      unfold eqD
      rw [e3]
    exact ⟨lh, by simp (decide := true) [is_part, isT, tyNames, hn, he, inD_tup, strsB, isS, PyData.strOk], .refl⟩
  | pick s hs =>
    obtain ⟨x, rfl, hx⟩ := oft_str hs
    have hn := eqD_tup_nil (lh := lh) (ds := [so "pick", .str x]) (qs := [.str (PySem.Str.ofString "pick"), .str x]) (fun h => nomatch h) (by simp) (by simp [PyData.canLayAll0, PyData.canLay0, hpk, hx]) (by simp [PyData.depthAll, PyData.depth])
    obtain ⟨l2, a1, a2⟩ := oft_let hs lh
    exact ⟨l2, by simp (decide := true) [is_part, isT, tyNames, hn, inD_tup, strsB, isS, PyData.strOk, a1], a2⟩
  | turn u v hu hv hne =>
    have l1 := is_letter_abc hu lh
    have l2 := is_letter_abc hv lh
    obtain ⟨x, rfl, hx⟩ := abc_str hu
    obtain ⟨y, rfl, hy⟩ := abc_str hv
    have hxy : ¬ x = y := fun e => hne (by rw [e])
    have hn := eqD_tup_nil (lh := lh) (ds := [so "turn", .str x, .str y]) (qs := [.str (PySem.Str.ofString "turn"), .str x, .str y]) (fun h => nomatch h) (by simp) (by simp [PyData.canLayAll0, PyData.canLay0, htn, hx, hy]) (by simp [PyData.depthAll, PyData.depth])
    exact ⟨lh, by simp (decide := true) [is_part, isT, tyNames, hn, inD_tup, strsB, isS, PyData.strOk, l1, l2, hxy], .refl⟩
theorem is_line_ok {lh : LH} {n : Nat} {ys : List D} (hn : lh[n]? = some (.lst ys)) (h4 : ys.length ≤ 4) (hp : ∀ p ∈ ys, PartD 3 p) : ∃ l', is_line [.loc n] lh = .ok (.bl true) l' ∧ Gr lh l' := by
  have hit : seqI (varM 0) [some (.loc n), none] lh = .ok (itL (.loc n) ys) lh := seqI_loc (by simp) hn
  obtain ⟨l1, a1, a2, a3⟩ := lcM_xs (g := nmG 1) (t := yesT) (m := apM NP.is_part (consA (varM 1) (nilA))) (own := [1]) hit ys (by omega) rfl (fun _ => true) (fun _ => D.bl true)
    (fun i p l hi gr => by
      obtain ⟨l2, b1, b2⟩ := is_part_ok (hp p (List.mem_of_getElem? hi)) l
      exact ⟨p, [some (.loc n), some p], l, by rw [itL_nx (gr.get hn id), hi], by simp [wipeD], rfl, .refl, fun _ => ⟨l2, by simp [b1], b2⟩⟩)
    (fun l gr => by rw [itL_nx (gr.get hn id), List.getElem?_eq_none (Nat.le_refl _)])
  rw [List.filter_eq_self.mpr (fun _ _ => rfl), List.map_const'] at a3
  refine ⟨l1, ?_, a2⟩
  have ha : allD [.loc lh.length] l1 = .ok (.bl true) l1 := by
    show (match sq l1 (.loc lh.length) with | some xs => (match bls xs with | some bs => Re.ok (D.bl (bs.all id)) l1 | none => .bad) | none => .bad) = _
    rw [sq_loc, a3]
    dsimp only
    rw [bls_rep]
    simp
  have hty : tyOf lh (.loc n) = some "list" := by
    show (match lh[n]? with | some (.lst _) => some "list" | _ => none) = _
    rw [hn]
  have hil : is_listed [.loc n] lh = .ok (.bl true) lh := by simp [is_listed, hty, isT, tyNames]
  have h4' : (ys.length : Int) ≤ 4 := by omega
  simp [is_line, hil, hn, h4', a1, ha]
end NP
set_option maxRecDepth 100000
set_option maxHeartbeats 4000000
/-! comprehensions of two clauses; copies of rows. -/
namespace NP
open PySem PySem.Spec L2 NL
theorem set_gr {base l : LH} {n : Nat} {o : Ob} (g : Gr base l) (h : base.length ≤ n) : Gr base (l.set n o) := ⟨by rw [List.length_set]; exact g.len, fun k hk hp => by
  rw [List.getElem?_set_ne (by omega)]
  exact g.same k hk hp⟩
theorem inN_ok {A : Type} {nx : Nat → LH → Option (Option D)} {g : TM} {t : MT} {m : M} {e : LE} {base : LH} {kont : LH → Re D} (xs : List A) (keep : A → Bool) (f : A → D)
    (hstep : ∀ (i : Nat) (x : A) (lh : LH), xs[i]? = some x → Gr base lh → ∃ d e1 l2, nx i lh = some (some d) ∧ g d e lh = .nx e1 lh ∧ t e1 lh = .ok (keep x) l2 ∧ Gr lh l2 ∧ (keep x = true → ∃ l3, m e1 l2 = .ok (f x) l3 ∧ Gr l2 l3))
    (hend : ∀ lh, Gr base lh → nx xs.length lh = some none) :
    ∀ (k i : Nat) (lh : LH) (acc : List D), i + k = xs.length → Gr base lh → lh[base.length]? = some (.lst acc) → acc.length + k ≤ 1000 →
    ∃ lh', inN nx g t m base.length e kont (k + 1) i lh = kont lh' ∧ Gr base lh' ∧ lh'[base.length]? = some (.lst (acc ++ ((xs.drop i).filter keep).map f))
  | 0, i, lh, acc, hi, hg, hb, _ => by
    have : i = xs.length := by omega
    subst this
    refine ⟨lh, ?_, hg, by rw [List.drop_length]; simpa using hb⟩
    unfold inN
    rw [hend lh hg]
  | k + 1, i, lh, acc, hi, hg, hb, hz => by
    have hlt : i < xs.length := by omega
    obtain ⟨d, e1, l2, a1, a2, a3, a4, a5⟩ := hstep i xs[i] lh (List.getElem?_eq_getElem hlt) hg
    rw [List.drop_eq_getElem_cons hlt]
    unfold inN
    rw [a1]
    dsimp only
    rw [a2]
    dsimp only
    cases hk : keep xs[i] with
    | false =>
      rw [a3, hk]
      obtain ⟨l4, c1, c2, c3⟩ := inN_ok (kont := kont) xs keep f hstep hend k (i + 1) l2 acc (by omega) (hg.trans a4) (a4.get hb id) (by omega)
      exact ⟨l4, c1, c2, by rw [c3, List.filter_cons_of_neg (by rw [hk]; exact Bool.false_ne_true)]⟩
    | true =>
      obtain ⟨l3, b1, b2⟩ := a5 hk
      have hb3 := b2.get (a4.get hb id) id
      obtain ⟨l4, c1, c2, c3⟩ := inN_ok (kont := kont) xs keep f hstep hend k (i + 1) (l3.set base.length (.lst (acc ++ [f xs[i]]))) (acc ++ [f xs[i]]) (by omega) (set_gr ((hg.trans a4).trans b2) (Nat.le_refl _)) (List.getElem?_set_self (List.getElem?_eq_some_iff.mp hb3).1) (by simp; omega)
      refine ⟨l4, ?_, c2, by rw [c3, List.filter_cons_of_pos hk]; simp⟩
      rw [a3, hk]
      dsimp only
      rw [b1]
      dsimp only
      rw [hb3]
      dsimp only
      rw [if_pos (by unfold sizeLine; omega)]
      exact c1
def collect (keep : D → Bool) (f : Nat → D → D) : Nat → List (List D) → List D
  | _, [] => []
  | i, y :: r => (y.filter keep).map (f i) ++ collect keep f (i + 1) r
theorem collect_le (keep : D → Bool) (f : Nat → D → D) : ∀ (yss : List (List D)) (i : Nat), (collect keep f i yss).length ≤ yss.flatten.length
  | [], _ => Nat.le_refl _
  | y :: r, i => by
    have := collect_le keep f r (i + 1)
    have := List.length_filter_le keep y
    show ((y.filter keep).map (f i) ++ collect keep f (i + 1) r).length ≤ _
    rw [List.length_append, List.length_map, List.flatten_cons, List.length_append]
    omega
theorem collect_homes : ∀ (yss : List (List D)) (i : Nat), collect (fun _ => true) (fun i _ => .int (i : Int)) i yss = homesF i yss
  | [], _ => rfl
  | y :: r, i => by
    show (y.filter fun _ => true).map (fun _ => D.int (i : Int)) ++ collect _ _ (i + 1) r = List.replicate y.length (D.int (i : Int)) ++ homesF (i + 1) r
    rw [collect_homes r (i + 1), List.filter_eq_self.mpr (fun _ _ => rfl), List.map_const']
theorem collect_keep (keep : D → Bool) : ∀ (yss : List (List D)) (i : Nat), collect keep (fun _ p => p) i yss = yss.flatten.filter keep
  | [], _ => rfl
  | y :: r, i => by
    show (y.filter keep).map (fun p => p) ++ collect _ _ (i + 1) r = _
    rw [collect_keep keep r (i + 1), List.flatten_cons, List.filter_append, List.map_id']
structure RowIt (base : LH) (g1 : TM) (t1 : MT) (m : M) (own1 : List Nat) (keep : D → Bool) (f : D → D) (e1 : LE) (ys : List D) (it : ItD) : Prop where
  fuel : it.fuel = ys.length + 1
  step : ∀ (i : Nat) (x : D) (lh : LH), ys[i]? = some x → Gr base lh → ∃ d e2 l2, it.nx i lh = some (some d) ∧ g1 d (wipeD e1 own1) lh = .nx e2 lh ∧ t1 e2 lh = .ok (keep x) l2 ∧ Gr lh l2 ∧ (keep x = true → ∃ l3, m e2 l2 = .ok (f x) l3 ∧ Gr l2 l3)
  fin : ∀ lh, Gr base lh → it.nx ys.length lh = some none
theorem ouN_ok {nx : Nat → LH → Option (Option D)} {g g1 : TM} {t t1 : MT} {mi1 : MI} {m : M} {e : LE} {own1 : List Nat} {base : LH} (yss : List (List D)) (hz : yss.flatten.length ≤ 500) (keep : D → Bool) (f : Nat → D → D)
    (hstep : ∀ (i : Nat) (ys : List D) (lh : LH), yss[i]? = some ys → Gr base lh → ∃ d e1 it, nx i lh = some (some d) ∧ g d e lh = .nx e1 lh ∧ t e1 lh = .ok true lh ∧ mi1 e1 lh = .ok it lh ∧ RowIt base g1 t1 m own1 keep (f i) e1 ys it)
    (hend : ∀ lh, Gr base lh → nx yss.length lh = some none) :
    ∀ (k i : Nat) (lh : LH) (acc : List D), i + k = yss.length → Gr base lh → lh[base.length]? = some (.lst acc) → acc.length ≤ (yss.take i).flatten.length →
    ∃ lh', ouN nx g t mi1 g1 t1 m base.length e own1 (k + 1) i lh = .ok (.loc base.length) lh' ∧ Gr base lh' ∧ lh'[base.length]? = some (.lst (acc ++ collect keep f i (yss.drop i)))
  | 0, i, lh, acc, hi, hg, hb, _ => by
    have : i = yss.length := by omega
    subst this
    refine ⟨lh, ?_, hg, by rw [List.drop_length]; simpa [collect] using hb⟩
    unfold ouN
    rw [hend lh hg]
  | k + 1, i, lh, acc, hi, hg, hb, hacc => by
    have hlt : i < yss.length := by omega
    obtain ⟨d, e1, it, a1, a2, a3, a4, R⟩ := hstep i yss[i] lh (List.getElem?_eq_getElem hlt) hg
    have htk : (yss.take (i + 1)).flatten.length = (yss.take i).flatten.length + yss[i].length := offN_succ yss i hlt
    have hle : (yss.take (i + 1)).flatten.length ≤ yss.flatten.length := offN_le yss (i + 1)
    obtain ⟨l2, b1, b2, b3⟩ := inN_ok (kont := ouN nx g t mi1 g1 t1 m base.length e own1 (k + 1) (i + 1)) yss[i] keep (f i) R.step R.fin yss[i].length 0 lh acc (by omega) hg hb (by omega)
    rw [List.drop_zero] at b3
    have hfl := List.length_filter_le keep yss[i]
    obtain ⟨l3, c1, c2, c3⟩ := ouN_ok yss hz keep f hstep hend k (i + 1) l2 _ (by omega) b2 b3 (by rw [List.length_append, List.length_map]; omega)
    refine ⟨l3, ?_, c2, ?_⟩
    · unfold ouN
      rw [a1]
      dsimp only
      rw [a2]
      dsimp only
      rw [a3]
      dsimp only
      rw [a4]
      dsimp only
      rw [R.fuel, b1, c1]
    · rw [c3, List.drop_eq_getElem_cons hlt, List.append_assoc]
      rfl
theorem lcM2_ok {mi mi1 : MI} {g g1 : TM} {t t1 : MT} {m : M} {e : LE} {own own1 : List Nat} {lh l : LH} {it : ItD} (h : mi e lh = .ok it l) (yss : List (List D)) (hz : yss.flatten.length ≤ 500) (hf : it.fuel = yss.length + 1) (keep : D → Bool) (f : Nat → D → D)
    (hstep : ∀ (i : Nat) (ys : List D) (lh : LH), yss[i]? = some ys → Gr l lh → ∃ d e1 it1, it.nx i lh = some (some d) ∧ g d (wipeD e own) lh = .nx e1 lh ∧ t e1 lh = .ok true lh ∧ mi1 e1 lh = .ok it1 lh ∧ RowIt l g1 t1 m own1 keep (f i) e1 ys it1)
    (hend : ∀ lh, Gr l lh → it.nx yss.length lh = some none) :
    ∃ lh', lcM2 mi g t mi1 g1 t1 m own own1 e lh = .ok (.loc l.length) lh' ∧ Gr l lh' ∧ lh'[l.length]? = some (.lst (collect keep f 0 yss)) := by
  obtain ⟨l2, a1, a2, a3⟩ := ouN_ok (e := wipeD e own) yss hz keep f hstep hend yss.length 0 (l ++ [.lst []]) [] (by omega) (.app _ _) (by simp) (Nat.zero_le _)
  refine ⟨l2, ?_, a2, by simpa using a3⟩
  unfold lcM2
  rw [h, Re.bind_ok, hf]
  exact a1
theorem RowsAt.set {lh : LH} {k : Nat} {o : Ob} : ∀ {ds : List D} {yss : List (List D)}, RowsAt lh ds yss → (∀ n, D.loc n ∈ ds → n ≠ k) → RowsAt (lh.set k o) ds yss
  | _, _, .nil, _ => .nil
  | _, _, .cons (n := n) a t, h => .cons (by rw [List.getElem?_set_ne (Ne.symm (h n (List.mem_cons_self ..)))]; exact a) (t.set fun m hm => h m (List.mem_cons_of_mem _ hm))
theorem RowsAt.snoc {lh : LH} {n : Nat} {ys : List D} (h : lh[n]? = some (.lst ys)) : ∀ {ds : List D} {yss : List (List D)}, RowsAt lh ds yss → RowsAt lh (ds ++ [.loc n]) (yss ++ [ys])
  | _, _, .nil => .cons h .nil
  | _, _, .cons a t => .cons a (t.snoc h)
/-- copies of rows -/
theorem copies_ok {mi : MI} {e : LE} {base lh : LH} {it : ItD} {s : Nat} {ds : List D} {yss : List (List D)} (h : mi e lh = .ok it base) (hr : RowsAt base ds yss) (hl : yss.length ≤ 4) (hf : it.fuel = ds.length + 1) (hnx : ∀ i l, Gr base l → it.nx i l = some ds[i]?)
    (hs : ∀ (d : D) (l : LH), varM s ((wipeD e [s]).set s (some d)) l = .ok d l) :
    ∃ zs l', lcM mi (nmG s) (yesT) (callM listD (consA (varM s) (nilA))) [s] e lh = .ok (.loc base.length) l' ∧ Gr base l' ∧ l'[base.length]? = some (.lst zs) ∧ RowsAt l' zs yss := by
  have hlen := hr.len
  obtain ⟨zs, l', p1, p2, p3, p4⟩ := lcN_inv (nx := it.nx) (g := nmG s) (t := yesT) (m := callM listD (consA (varM s) (nilA))) (n0 := base.length) (e := wipeD e [s])
    (fun i zs l => Gr base l ∧ RowsAt l zs (yss.take i) ∧ ∀ n, D.loc n ∈ zs → base.length < n) yss.length (by unfold sizeLine; omega)
    (fun i zs l hi I h0 hlz => by
      obtain ⟨I1, I2, I3⟩ := I
      obtain ⟨n, hn, hy⟩ := hr.get i hi
      have hy' := I1.get hy id
      have h0l : base.length < l.length := (List.getElem?_eq_some_iff.mp h0).1
      have hld : listD [.loc n] l = .ok (.loc l.length) (l ++ [.lst yss[i]]) := listD_sq (by rw [sq_loc, hy'])
      refine ⟨.loc n, (wipeD e [s]).set s (some (.loc n)), l, l, .loc l.length, l ++ [.lst yss[i]], by rw [hnx i l I1, hn], rfl, rfl, ?_, get_app h0, set_gr (I1.trans (.app _ _)) (Nat.le_refl _), ?_, fun k hk => ?_⟩
      · rw [callM_ap, consA_ap, hs, Re.bind_ok, nilA_ap, Re.bind_ok, Re.bind_ok, hld]
      · rw [List.take_succ_eq_append_getElem hi]
        refine (RowsAt.snoc (by simp) (I2.mono fun k o z => get_app z)).set fun k hk => ?_
        rcases List.mem_append.mp hk with hk | hk
        · have := I3 k hk; omega
        · simp at hk; omega
      · rcases List.mem_append.mp hk with hk | hk
        · exact I3 k hk
        · simp at hk; omega)
    (fun zs l I h0 => by rw [hnx _ l I.1, List.getElem?_eq_none (by omega)])
    it.fuel 0 [] (base ++ [.lst []]) (by omega) (by omega) rfl (by simp) ⟨.app _ _, .nil, fun n hn => by simp at hn⟩
  rw [List.take_length] at p4
  refine ⟨zs, l', ?_, p4.1, p3, p4.2.1⟩
  unfold lcM
  rw [h, Re.bind_ok]
  exact p1
end NP
set_option maxRecDepth 100000
set_option maxHeartbeats 4000000
/-! the program's own net is made. -/
namespace NP
open PySem PySem.Spec L2 NL
def timedB (p : D) : Bool := match p with | .tup [_, .int _] => true | _ => false
theorem is_timed_b {p : D} {n : Int} (hp : PartD n p) (lh : LH) : is_timed [p] lh = .ok (.bl (timedB p)) lh := by
  cases hp with
  | timed w q h =>
    simp [timedL] at h
    rcases h with rfl | rfl | rfl | rfl | rfl | rfl <;> simp (decide := true) [is_timed, inD_tup, strsB, isS, PyData.strOk, timedB]
  | change => simp (decide := true) [is_timed, inD_tup, strsB, isS, PyData.strOk, timedB]
  | pick s h =>
    obtain ⟨x, rfl, _⟩ := oft_str h
    simp (decide := true) [is_timed, inD_tup, strsB, isS, PyData.strOk, timedB]
  | turn x y _ _ _ => simp (decide := true) [is_timed, inD_tup, strsB, isS, PyData.strOk, timedB]
theorem stF_at {C : Addr} {f : Str} {mo mv : M} {e : LE} {lh l : LH} {d : D} {N : Nat} {fs : List (Str × D)} (hv : mv e lh = .ok d l) (ho : mo e l = .ok (.loc N) l) (h : l[N]? = some (.ins C fs)) (hl : fs.length < 1000) :
    stF C f mo mv e lh = .nx e (l.set N (.ins C (putD f d fs))) := by
  unfold stF
  rw [hv, toS_ok, ho, toS_ok, insAt_of h]
  dsimp only
  rw [if_pos ⟨rfl, hl⟩]
theorem ne_0 : (PySem.Str.ofString "part_list" == PySem.Str.ofString "line_list") = false := by decide +kernel
theorem ne_1 : (PySem.Str.ofString "part_list" == PySem.Str.ofString "own_letters") = false := by decide +kernel
theorem ne_2 : (PySem.Str.ofString "homes" == PySem.Str.ofString "line_list") = false := by decide +kernel
theorem ne_3 : (PySem.Str.ofString "homes" == PySem.Str.ofString "own_letters") = false := by decide +kernel
theorem ne_4 : (PySem.Str.ofString "homes" == PySem.Str.ofString "part_list") = false := by decide +kernel
theorem ne_5 : (PySem.Str.ofString "place_of" == PySem.Str.ofString "line_list") = false := by decide +kernel
theorem ne_6 : (PySem.Str.ofString "place_of" == PySem.Str.ofString "own_letters") = false := by decide +kernel
theorem ne_7 : (PySem.Str.ofString "place_of" == PySem.Str.ofString "part_list") = false := by decide +kernel
theorem ne_8 : (PySem.Str.ofString "place_of" == PySem.Str.ofString "homes") = false := by decide +kernel
theorem putD_len (f : Str) (d : D) : ∀ fs : List (Str × D), (putD f d fs).length ≤ fs.length + 1
  | [] => Nat.le_refl _
  | (g, x) :: r => by
    have := putD_len f d r
    unfold putD
    split
    · simp
    · simp only [List.length_cons]; omega
/-- over the rows of lists: their parts -/
theorem row_it {base : LH} {e1 : LE} {n : Nat} {ys : List D} {g1 : TM} {t1 : MT} {m : M} {own1 : List Nat} {keep : D → Bool} {f : D → D} (hn : base[n]? = some (.lst ys))
    (hst : ∀ (x : D) (lh : LH), x ∈ ys → Gr base lh → ∃ e2 l2, g1 x (wipeD e1 own1) lh = .nx e2 lh ∧ t1 e2 lh = .ok (keep x) l2 ∧ Gr lh l2 ∧ (keep x = true → ∃ l3, m e2 l2 = .ok (f x) l3 ∧ Gr l2 l3)) :
    RowIt base g1 t1 m own1 keep f e1 ys (itL (.loc n) ys) :=
  ⟨rfl, fun i x lh hx gr => by
    obtain ⟨e2, l2, a⟩ := hst x lh (List.mem_of_getElem? hx) gr
    exact ⟨x, e2, l2, by rw [itL_nx (gr.get hn id), hx], a⟩, fun lh gr => by rw [itL_nx (gr.get hn id), List.getElem?_eq_none (Nat.le_refl _)]⟩
def niA : SM := (forS (enAI (consA (varM 2) (nilA))) (tupG 2 (consG (nmG 3) (consG (nmG 4) (nilG)))) (ifS (notT (truM (apM NP.is_line (consA (varM 4) (nilA))))) (badS) (nxS)))
def niB : SM := (ifS (blT (opM gtD (callM lenD (consA (varM 2) (nilA))) (conM (.int 4)))) (badS) (nxS))
def niC : SM := (ifS (blT (opM eqD (callM lenD (consA (varM 2) (nilA))) (conM (.int 0)))) (badS) (nxS))
def niD : SM := (asS (lcM (seqI (varM 2)) (nmG 4) (yesT) (callM listD (consA (varM 4) (nilA))) [4]) (nmG 5))
def niT : M := (lcM2 (seqI (varM 5)) (nmG 4) (yesT) (seqI (varM 4)) (nmG 6) (truM (apM NP.is_timed (consA (varM 6) (nilA)))) (varM 6) [4, 6] [6])
def niE : SM := (ifS (blT (opM gtD (callM lenD (consA niT (nilA))) (conM (.int 6)))) (badS) (nxS))
def niF : SM := (ifS (notT (truM (apM NP.are_letters (consA (varM 1) (nilA))))) (badS) (nxS))
def niP : M := (lcM2 (seqI (varM 5)) (nmG 4) (yesT) (seqI (varM 4)) (nmG 6) (yesT) (varM 6) [4, 6] [6])
def niH : M := (lcM2 (enAI (consA (varM 5) (nilA))) (tupG 2 (consG (nmG 3) (consG (nmG 4) (nilG)))) (yesT) (seqI (varM 4)) (nmG 6) (yesT) (varM 3) [3, 4, 6] [6])
theorem init_eq (c : CA) : Net___init__ c = fnM 7 (seqS niA (seqS niB (seqS niC (seqS niD (seqS niE (seqS niF (seqS (stF (c "Net") "line_list" (varM 0) (varM 5)) (seqS (stF (c "Net") "own_letters" (varM 0) (varM 1)) (seqS (stF (c "Net") "part_list" (varM 0) niP) (stF (c "Net") "homes" (varM 0) niH)))))))))) := rfl
theorem init_ok {c : CA} {l : LH} {s : D} {zs : List D} {yss : List (List D)} (hs : s ∈ letL) (hr : RowsAt l zs yss) (hne : yss ≠ []) (n4 : yss.length ≤ 4) (r4 : ∀ ys ∈ yss, ys.length ≤ 4 ∧ ∀ p ∈ ys, PartD 3 p) (ht : (yss.flatten.filter timedB).length ≤ 6) :
    ∃ l' LL PL HL, Net___init__ c [.loc l.length, s, .tup zs] (l ++ [.ins (c "Net") []]) = .ok .non l' ∧ Gr l l' ∧ InsAt c l' l.length LL PL HL yss := by
  have hlen := hr.len
  have hpos := List.length_pos_iff.mpr hne
  have h16 : yss.flatten.length ≤ 16 := by
    have := flat_le fun ys hy => (r4 ys hy).1
    omega
  have hps : ∀ p ∈ yss.flatten, PartD 3 p := fun p hp => by
    obtain ⟨ys, hy, hp⟩ := List.mem_flatten.mp hp
    exact (r4 ys hy).2 p hp
  have g0 : Gr l (l ++ [Ob.ins (c "Net") []]) := .app _ _
  have hN0 : (l ++ [Ob.ins (c "Net") []])[l.length]? = some (.ins (c "Net") []) := by simp
  generalize (l ++ [Ob.ins (c "Net") []]) = L0 at *
  have hr0 : RowsAt L0 zs yss := hr.mono fun _ _ z => g0.get z id
  -- the lines looked at
  obtain ⟨e', L1, p1, q1⟩ := forN_inv (nx := (itET zs).nx) (g := tupG 2 (consG (nmG 3) (consG (nmG 4) (nilG)))) (body := ifS (notT (truM (apM NP.is_line (consA (varM 4) (nilA))))) (badS) (nxS))
    (fun i e lh => Gr L0 lh ∧ ∃ x3 x4, e = [some (.loc l.length), some s, some (.tup zs), x3, x4, none, none]) zs.length
    (fun i e lh hi I => by
      obtain ⟨g, x3, x4, rfl⟩ := I
      obtain ⟨n, hn, hy⟩ := hr0.get i (by omega)
      have hi' : i < yss.length := by omega
      have r := r4 _ (List.getElem_mem hi')
      obtain ⟨l2, a1, a2⟩ := is_line_ok (g.get hy id) r.1 r.2
      refine ⟨.tup [.int (i : Nat), .loc n], [some (.loc l.length), some s, some (.tup zs), some (.int (i : Nat)), some (.loc n), none, none], l2, ?_, .inl ?_, g.trans a2, _, _, rfl⟩
      · show (if i ≤ zs.length then some (zs[i]?.map fun y => D.tup [.int (i : Nat), y]) else none) = _
        rw [if_pos (Nat.le_of_lt hi), hn]
        rfl
      · simp [tupG_tup, a1])
    (fun e lh I => by
      show (if zs.length ≤ zs.length then some (zs[zs.length]?.map fun y => D.tup [.int (zs.length : Nat), y]) else none) = _
      rw [if_pos (Nat.le_refl _), List.getElem?_eq_none (Nat.le_refl _)]
      rfl)
    (zs.length + 1) 0 [some (.loc l.length), some s, some (.tup zs), none, none, none, none] L0 (by omega) (by omega) ⟨.refl, _, _, rfl⟩
  obtain ⟨g1, x3, x4, rfl⟩ := q1
  have s1 : niA [some (.loc l.length), some s, some (.tup zs), none, none, none, none] L0 = .nx [some (.loc l.length), some s, some (.tup zs), x3, x4, none, none] L1 := by
    have hit : enAI (consA (varM 2) (nilA)) [some (.loc l.length), some s, some (.tup zs), none, none, none, none] L0 = .ok (itET zs) L0 := rfl
    have hfu : (itET zs).fuel = zs.length + 1 := rfl
    unfold niA
    rw [forS_ap, hit, toSI_ok, hfu, p1]
  have s2 : niB [some (.loc l.length), some s, some (.tup zs), x3, x4, none, none] L1 = .nx [some (.loc l.length), some s, some (.tup zs), x3, x4, none, none] L1 := by
    have : ¬ (4 : Int) < (zs.length : Int) := by omega
    simp [niB, this]
  have s3 : niC [some (.loc l.length), some s, some (.tup zs), x3, x4, none, none] L1 = .nx [some (.loc l.length), some s, some (.tup zs), x3, x4, none, none] L1 := by
    have hz : zs ≠ [] := fun z => by rw [z] at hlen; simp at hlen; omega
    simp [niC, hz]
  -- copies
  have hr1 : RowsAt L1 zs yss := hr0.mono fun _ _ z => g1.get z id
  obtain ⟨cs, L2, c1, c2, c3, c4⟩ := copies_ok (mi := seqI (varM 2)) (e := [some (.loc l.length), some s, some (.tup zs), x3, x4, none, none]) (s := 4) (it := itT zs) (base := L1) (lh := L1) (seqI_tup (lh := L1) (l := L1) (by simp)) hr1 n4 rfl (fun i l _ => rfl) (fun d l => by simp [wipeD])
  have clen := c4.len
  have s4 : niD [some (.loc l.length), some s, some (.tup zs), x3, x4, none, none] L1 = .nx [some (.loc l.length), some s, some (.tup zs), x3, x4, some (.loc L1.length), none] L2 := by
    unfold niD
    rw [asS_ap, c1]
    rfl
  -- the timed ones
  have hit5 : ∀ lh : LH, lh[L1.length]? = some (.lst cs) → seqI (varM 5) [some (.loc l.length), some s, some (.tup zs), x3, x4, some (.loc L1.length), none] lh = .ok (itL (.loc L1.length) cs) lh := fun lh h => seqI_loc (by simp) h
  obtain ⟨L3, t1, t2, t3⟩ := lcM2_ok (g := nmG 4) (t := yesT) (mi1 := seqI (varM 4)) (g1 := nmG 6) (t1 := truM (apM NP.is_timed (consA (varM 6) (nilA)))) (m := varM 6) (own := [4, 6]) (own1 := [6]) (hit5 L2 c3) yss (by omega) (by show cs.length + 1 = _; rw [clen]) timedB (fun _ p => p)
    (fun i ys lh hys gr => by
      obtain ⟨n, hn, hy⟩ := rows_get c4 hys
      refine ⟨.loc n, [some (.loc l.length), some s, some (.tup zs), x3, some (.loc n), some (.loc L1.length), none], itL (.loc n) ys, by rw [itL_nx (gr.get c3 id), hn], by simp [wipeD], rfl, seqI_loc (by simp) (gr.get hy id), row_it hy fun x lh2 hx gr2 => ?_⟩
      have hb := is_timed_b ((r4 ys (List.mem_of_getElem? hys)).2 x hx) lh2
      exact ⟨[some (.loc l.length), some s, some (.tup zs), x3, some (.loc n), some (.loc L1.length), some x], lh2, by simp [wipeD], by simp [hb], .refl, fun _ => ⟨lh2, by simp, .refl⟩⟩)
    (fun lh gr => by rw [itL_nx (gr.get c3 id), List.getElem?_eq_none (by omega)])
  rw [collect_keep] at t3
  have s5 : niE [some (.loc l.length), some s, some (.tup zs), x3, x4, some (.loc L1.length), none] L2 = .nx [some (.loc l.length), some s, some (.tup zs), x3, x4, some (.loc L1.length), none] L3 := by
    have : ¬ (6 : Int) < ((yss.flatten.filter timedB).length : Int) := by omega
    unfold niE
    have hn : niT [some (.loc l.length), some s, some (.tup zs), x3, x4, some (.loc L1.length), none] L2 = .ok (.loc L2.length) L3 := t1
    generalize yss.flatten.filter timedB = tt at *
    simp [hn, t3, this]
  obtain ⟨L4, f1, f2⟩ := oft_let (let_oft hs) L3
  have s6 : niF [some (.loc l.length), some s, some (.tup zs), x3, x4, some (.loc L1.length), none] L3 = .nx [some (.loc l.length), some s, some (.tup zs), x3, x4, some (.loc L1.length), none] L4 := by
    simp [niF, f1]
  -- the fields
  have g14 : Gr L1 L4 := (c2.trans t2).trans f2
  have g04 : Gr L0 L4 := g1.trans g14
  have hN4 := g04.get hN0 id
  have c3' := f2.get (t2.get c3 id) id
  have c4' : RowsAt L4 cs yss := c4.mono fun _ _ z => f2.get (t2.get z id) id
  have hnN : ∀ (lh : LH) (n : Nat) (ys : List D) (C : Addr) (fs : List (Str × D)), lh[l.length]? = some (.ins C fs) → lh[n]? = some (.lst ys) → n ≠ l.length := fun lh n ys C fs h1 h2 e => by
    subst e
    rw [h1] at h2
    cases h2
  have hrN : ∀ (lh : LH) (C : Addr) (fs : List (Str × D)) (o : Ob), lh[l.length]? = some (.ins C fs) → RowsAt lh cs yss → RowsAt (lh.set l.length o) cs yss := fun lh C fs o h1 h2 => h2.set fun n hn => by
    obtain ⟨j, hj⟩ := List.getElem?_of_mem hn
    obtain ⟨m, k1, k2⟩ := h2.get j (by rw [← clen]; exact (List.getElem?_eq_some_iff.mp hj).1)
    rw [hj] at k1
    cases k1
    exact hnN lh n _ C fs h1 k2
  have hNl : ∀ lh : LH, Gr l lh → Gr l (lh.set l.length (.ins (c "Net") [])) := fun lh g => set_gr g (Nat.le_refl _)
  have e7 := stF_at (C := c "Net") (f := "line_list") (mo := varM 0) (mv := varM 5) (e := [some (.loc l.length), some s, some (.tup zs), x3, x4, some (.loc L1.length), none]) (lh := L4) (l := L4) (d := .loc L1.length) (N := l.length) (fs := []) (by simp) (by simp) hN4 (by simp)
  have hl4 : l.length < L4.length := (List.getElem?_eq_some_iff.mp hN4).1
  have hN5 : (L4.set l.length (.ins (c "Net") (putD "line_list" (.loc L1.length) [])))[l.length]? = some (.ins (c "Net") (putD "line_list" (.loc L1.length) [])) := List.getElem?_set_self hl4
  have gl5 : Gr l (L4.set l.length (.ins (c "Net") (putD "line_list" (.loc L1.length) []))) := set_gr (g0.trans g04) (Nat.le_refl _)
  have k5 : (L4.set l.length (.ins (c "Net") (putD "line_list" (.loc L1.length) [])))[L1.length]? = some (.lst cs) := by rw [List.getElem?_set_ne (Ne.symm (hnN L4 _ _ _ _ hN4 c3'))]; exact c3'
  have r5 := hrN L4 _ _ (.ins (c "Net") (putD "line_list" (.loc L1.length) [])) hN4 c4'
  generalize L4.set l.length (.ins (c "Net") (putD "line_list" (.loc L1.length) [])) = L5 at *
  have e8 := stF_at (C := c "Net") (f := "own_letters") (mo := varM 0) (mv := varM 1) (e := [some (.loc l.length), some s, some (.tup zs), x3, x4, some (.loc L1.length), none]) (lh := L5) (l := L5) (d := s) (N := l.length) (by simp) (by simp) hN5 (by simp [putD])
  have hl5 : l.length < L5.length := (List.getElem?_eq_some_iff.mp hN5).1
  have hN6 : (L5.set l.length (.ins (c "Net") (putD "own_letters" s (putD "line_list" (.loc L1.length) []))))[l.length]? = some (.ins (c "Net") (putD "own_letters" s (putD "line_list" (.loc L1.length) []))) := List.getElem?_set_self hl5
  have gl6 : Gr l (L5.set l.length (.ins (c "Net") (putD "own_letters" s (putD "line_list" (.loc L1.length) [])))) := set_gr gl5 (Nat.le_refl _)
  have k6 : (L5.set l.length (.ins (c "Net") (putD "own_letters" s (putD "line_list" (.loc L1.length) []))))[L1.length]? = some (.lst cs) := by rw [List.getElem?_set_ne (Ne.symm (hnN L5 _ _ _ _ hN5 k5))]; exact k5
  have r6 := hrN L5 _ _ (.ins (c "Net") (putD "own_letters" s (putD "line_list" (.loc L1.length) []))) hN5 r5
  generalize L5.set l.length (.ins (c "Net") (putD "own_letters" s (putD "line_list" (.loc L1.length) []))) = L6 at *
  -- the parts
  obtain ⟨L7, u1, u2, u3⟩ := lcM2_ok (g := nmG 4) (t := yesT) (mi1 := seqI (varM 4)) (g1 := nmG 6) (t1 := yesT) (m := varM 6) (own := [4, 6]) (own1 := [6]) (hit5 L6 k6) yss (by omega) (by show cs.length + 1 = _; rw [clen]) (fun _ => true) (fun _ p => p)
    (fun i ys lh hys gr => by
      obtain ⟨n, hn, hy⟩ := rows_get r6 hys
      refine ⟨.loc n, [some (.loc l.length), some s, some (.tup zs), x3, some (.loc n), some (.loc L1.length), none], itL (.loc n) ys, by rw [itL_nx (gr.get k6 id), hn], by simp [wipeD], rfl, seqI_loc (by simp) (gr.get hy id), row_it hy fun x lh2 hx gr2 => ?_⟩
      exact ⟨[some (.loc l.length), some s, some (.tup zs), x3, some (.loc n), some (.loc L1.length), some x], lh2, by simp [wipeD], rfl, .refl, fun _ => ⟨lh2, by simp, .refl⟩⟩)
    (fun lh gr => by rw [itL_nx (gr.get k6 id), List.getElem?_eq_none (by omega)])
  rw [collect_keep, List.filter_eq_self.mpr (fun _ _ => rfl)] at u3
  have u1' : niP [some (.loc l.length), some s, some (.tup zs), x3, x4, some (.loc L1.length), none] L6 = .ok (.loc L6.length) L7 := u1
  have hN7 := u2.get hN6 id
  have e9 := stF_at (C := c "Net") (f := "part_list") (mo := varM 0) (mv := niP) (e := [some (.loc l.length), some s, some (.tup zs), x3, x4, some (.loc L1.length), none]) (lh := L6) (l := L7) (d := .loc L6.length) (N := l.length) u1' (by simp) hN7 (by have h1 := putD_len "own_letters" s (putD "line_list" (.loc L1.length) []); have h2 := putD_len "line_list" (.loc L1.length) []; simp only [List.length_nil] at h2; omega)
  have hl7 : l.length < L7.length := (List.getElem?_eq_some_iff.mp hN7).1
  have k7 := u2.get k6 id
  have r7 : RowsAt L7 cs yss := r6.mono fun _ _ z => u2.get z id
  have gl7 := gl6.trans u2
  have hN8 : (L7.set l.length (.ins (c "Net") (putD "part_list" (.loc L6.length) (putD "own_letters" s (putD "line_list" (.loc L1.length) [])))))[l.length]? = some (.ins (c "Net") (putD "part_list" (.loc L6.length) (putD "own_letters" s (putD "line_list" (.loc L1.length) [])))) := List.getElem?_set_self hl7
  have gl8 : Gr l (L7.set l.length (.ins (c "Net") (putD "part_list" (.loc L6.length) (putD "own_letters" s (putD "line_list" (.loc L1.length) []))))) := set_gr gl7 (Nat.le_refl _)
  have k8 : (L7.set l.length (.ins (c "Net") (putD "part_list" (.loc L6.length) (putD "own_letters" s (putD "line_list" (.loc L1.length) [])))))[L1.length]? = some (.lst cs) := by rw [List.getElem?_set_ne (Ne.symm (hnN L7 _ _ _ _ hN7 k7))]; exact k7
  have v8 : (L7.set l.length (.ins (c "Net") (putD "part_list" (.loc L6.length) (putD "own_letters" s (putD "line_list" (.loc L1.length) [])))))[L6.length]? = some (.lst yss.flatten) := by rw [List.getElem?_set_ne (Ne.symm (hnN L7 _ _ _ _ hN7 u3))]; exact u3
  have r8 := hrN L7 _ _ (.ins (c "Net") (putD "part_list" (.loc L6.length) (putD "own_letters" s (putD "line_list" (.loc L1.length) [])))) hN7 r7
  generalize L7.set l.length (.ins (c "Net") (putD "part_list" (.loc L6.length) (putD "own_letters" s (putD "line_list" (.loc L1.length) [])))) = L8 at *
  -- the homes
  have hitE : enAI (consA (varM 5) (nilA)) [some (.loc l.length), some s, some (.tup zs), x3, x4, some (.loc L1.length), none] L8 = .ok (itE (.loc L1.length) cs) L8 := by
    have h5 : consA (varM 5) (nilA) [some (.loc l.length), some s, some (.tup zs), x3, x4, some (.loc L1.length), none] L8 = .ok [.loc L1.length] L8 := by simp
    unfold enAI
    rw [h5, Re.bind_ok]
    simp [k8]
  have itE_nx : ∀ (i : Nat) (lh : LH), Gr L8 lh → (itE (.loc L1.length) cs).nx i lh = some (cs[i]?.map fun y => .tup [.int (i : Nat), y]) := fun i lh gr => by
    show (sq lh (.loc L1.length)).map (fun ys => ys[i]?.map fun y => D.tup [.int (i : Nat), y]) = _
    rw [sq_loc, gr.get k8 id]
    rfl
  obtain ⟨L9, w1, w2, w3⟩ := lcM2_ok (g := tupG 2 (consG (nmG 3) (consG (nmG 4) (nilG)))) (t := yesT) (mi1 := seqI (varM 4)) (g1 := nmG 6) (t1 := yesT) (m := varM 3) (own := [3, 4, 6]) (own1 := [6]) hitE yss (by omega) (by show cs.length + 1 = _; rw [clen]) (fun _ => true) (fun i _ => .int (i : Int))
    (fun i ys lh hys gr => by
      obtain ⟨n, hn, hy⟩ := rows_get r8 hys
      refine ⟨.tup [.int (i : Nat), .loc n], [some (.loc l.length), some s, some (.tup zs), some (.int (i : Nat)), some (.loc n), some (.loc L1.length), none], itL (.loc n) ys, by rw [itE_nx i lh gr, hn]; rfl, by simp [wipeD, tupG_tup], rfl, seqI_loc (by simp) (gr.get hy id), row_it hy fun x lh2 hx gr2 => ?_⟩
      exact ⟨[some (.loc l.length), some s, some (.tup zs), some (.int (i : Nat)), some (.loc n), some (.loc L1.length), some x], lh2, by simp [wipeD], rfl, .refl, fun _ => ⟨lh2, by simp, .refl⟩⟩)
    (fun lh gr => by rw [itE_nx _ lh gr, List.getElem?_eq_none (by omega)]; rfl)
  rw [collect_homes] at w3
  have w1' : niH [some (.loc l.length), some s, some (.tup zs), x3, x4, some (.loc L1.length), none] L8 = .ok (.loc L8.length) L9 := w1
  have hN9 := w2.get hN8 id
  have e10 := stF_at (C := c "Net") (f := "homes") (mo := varM 0) (mv := niH) (e := [some (.loc l.length), some s, some (.tup zs), x3, x4, some (.loc L1.length), none]) (lh := L8) (l := L9) (d := .loc L8.length) (N := l.length) w1' (by simp) hN9 (by have h0 := putD_len "part_list" (.loc L6.length) (putD "own_letters" s (putD "line_list" (.loc L1.length) [])); have h1 := putD_len "own_letters" s (putD "line_list" (.loc L1.length) []); have h2 := putD_len "line_list" (.loc L1.length) []; simp only [List.length_nil] at h2; omega)
  have hl9 : l.length < L9.length := (List.getElem?_eq_some_iff.mp hN9).1
  have k9 := w2.get k8 id
  have v9 := w2.get v8 id
  have r9 : RowsAt L9 cs yss := r8.mono fun _ _ z => w2.get z id
  refine ⟨L9.set l.length (.ins (c "Net") (putD "homes" (.loc L8.length) (putD "part_list" (.loc L6.length) (putD "own_letters" s (putD "line_list" (.loc L1.length) []))))), L1.length, L6.length, L8.length, ?_, set_gr (n := l.length) (gl8.trans w2) (Nat.le_refl _), ?_⟩
  rotate_left
  · refine ⟨⟨putD "homes" (.loc L8.length) (putD "part_list" (.loc L6.length) (putD "own_letters" s (putD "line_list" (.loc L1.length) []))), List.getElem?_set_self hl9, ?_, ?_, ?_, ?_⟩, ⟨cs, ?_, hrN L9 _ _ _ hN9 r9⟩, ?_, ?_, n4, r4⟩
    · simp (decide := true) [putD, List.lookup, ne_0, ne_1, ne_2, ne_3, ne_4, ne_5, ne_6, ne_7, ne_8]
    · simp (decide := true) [putD, List.lookup, ne_0, ne_1, ne_2, ne_3, ne_4, ne_5, ne_6, ne_7, ne_8]
    · simp (decide := true) [putD, List.lookup, ne_0, ne_1, ne_2, ne_3, ne_4, ne_5, ne_6, ne_7, ne_8]
    · simp (decide := true) [putD, List.lookup, ne_0, ne_1, ne_2, ne_3, ne_4, ne_5, ne_6, ne_7, ne_8]
    · rw [List.getElem?_set_ne (Ne.symm (hnN L9 _ _ _ _ hN9 k9))]; exact k9
    · rw [List.getElem?_set_ne (Ne.symm (hnN L9 _ _ _ _ hN9 v9))]; exact v9
    · rw [List.getElem?_set_ne (Ne.symm (hnN L9 _ _ _ _ hN9 w3))]; exact w3
  · have hst : stD 7 [.loc l.length, s, .tup zs] = [some (.loc l.length), some s, some (.tup zs), none, none, none, none] := by simp
    rw [init_eq, fnM_ap, hst, seqS_ap, s1, bd_nx, seqS_ap, s2, bd_nx, seqS_ap, s3, bd_nx, seqS_ap, s4, bd_nx, seqS_ap, s5, bd_nx, seqS_ap, s6, bd_nx, seqS_ap, e7, bd_nx, seqS_ap, e8, bd_nx, seqS_ap, e9, bd_nx, e10]
    rfl
end NP
set_option maxRecDepth 100000
set_option maxHeartbeats 4000000
/-! l_net. -/
namespace NP
open PySem PySem.Spec L2 NL
theorem mkM_at {c : CA} {ma mk : MA} {e : LE} {l l' : LH} {s : D} {zs : List D} (ha : ma e l = .ok zs l) (hk : mk e l = .ok [s] l) (hz : zs.length ≤ 4) (hi : Net___init__ c [.loc l.length, s, .tup zs] (l ++ [.ins (c "Net") []]) = .ok .non l') :
    mkM (c "Net") (NP.Net___init__ c) ma mk e l = .ok (.loc l.length) l' := by
  unfold mkM
  rw [ha, Re.bind_ok, hk, Re.bind_ok]
  dsimp only
  rw [if_pos (by omega), hi]
  rfl
theorem l_net_ok {c : CA} {lh : LH} {s R : D} {yss : List (List D)} (N : NetAt lh (.tup [s, R]) yss) (hs : s ∈ letL) (ht : (yss.flatten.filter timedB).length ≤ 6) :
    ∃ n l' LL PL HL, l_net c [.tup [s, R]] lh = .ok (.loc n) l' ∧ Gr lh l' ∧ InsAt c l' n LL PL HL yss := by
  obtain ⟨s', R', ds, e, a, r⟩ := N.ex
  cases e
  have hlen := r.len
  have n4 := N.n4
  obtain ⟨zs, l1, c1, c2, c3, c4⟩ := copies_ok (mi := seqI (opM ixD (varM 0) (conM (.int 1)))) (e := [some (.tup [s, .loc R']), none, none]) (s := 2) (it := itL (.loc R') ds) (base := lh) (lh := lh) (seqI_loc (lh := lh) (l := lh) (by simp) a) r n4 rfl (fun i l g => itL_nx (g.get a id)) (fun d l => by simp [wipeD])
  have clen := c4.len
  obtain ⟨l2, LL, PL, HL, i1, i2, i3⟩ := init_ok (c := c) hs c4 N.ne n4 N.r4 ht
  refine ⟨l1.length, l2, LL, PL, HL, ?_, c2.trans i2, i3⟩
  have hst : stD 3 [.tup [s, .loc R']] = [some (.tup [s, .loc R']), none, none] := by simp
  have hk : ∀ l, consA (opM ixD (varM 0) (conM (.int 0))) (nilA) [some (.tup [s, .loc R']), some (.loc lh.length), none] l = .ok [s] l := fun l => by simp
  have hty : lenD [.loc lh.length] l1 = .ok (.int (zs.length : Int)) l1 := by rw [lenD_loc, c3]
  unfold l_net
  rw [fnM_ap, hst, seqS_ap, asS_ap, c1, toS_ok, nmG_ap, bd_nx]
  show finM (seqS _ _ [some (.tup [s, .loc R']), some (.loc lh.length), none] l1) = _
  have hpos := List.length_pos_iff.mpr N.ne
  have hcase : zs.length = 1 ∨ zs.length = 2 ∨ zs.length = 3 ∨ zs.length = 4 := by omega
  rcases hcase with h | h | h | h
  · match zs, h with
    | [z1], _ =>
      have hm := mkM_at (c := c) (ma := (consA (opM ixD (varM 1) (conM (.int 0))) (nilA))) (mk := (consA (opM ixD (varM 0) (conM (.int 0))) (nilA))) (e := [some (.tup [s, .loc R']), some (.loc lh.length), none]) (l := l1) (zs := [z1]) (s := s) (by simp [c3]) (hk _) (by simp) i1
      simp [hty, c3, hm]
  · match zs, h with
    | [z1, z2], _ =>
      have hm := mkM_at (c := c) (ma := (consA (opM ixD (varM 1) (conM (.int 0))) (consA (opM ixD (varM 1) (conM (.int 1))) (nilA)))) (mk := (consA (opM ixD (varM 0) (conM (.int 0))) (nilA))) (e := [some (.tup [s, .loc R']), some (.loc lh.length), none]) (l := l1) (zs := [z1, z2]) (s := s) (by simp [c3]) (hk _) (by simp) i1
      simp [hty, c3, hm]
  · match zs, h with
    | [z1, z2, z3], _ =>
      have hm := mkM_at (c := c) (ma := (consA (opM ixD (varM 1) (conM (.int 0))) (consA (opM ixD (varM 1) (conM (.int 1))) (consA (opM ixD (varM 1) (conM (.int 2))) (nilA))))) (mk := (consA (opM ixD (varM 0) (conM (.int 0))) (nilA))) (e := [some (.tup [s, .loc R']), some (.loc lh.length), none]) (l := l1) (zs := [z1, z2, z3]) (s := s) (by simp [c3]) (hk _) (by simp) i1
      simp [hty, c3, hm]
  · match zs, h with
    | [z1, z2, z3, z4], _ =>
      have hm := mkM_at (c := c) (ma := (consA (opM ixD (varM 1) (conM (.int 0))) (consA (opM ixD (varM 1) (conM (.int 1))) (consA (opM ixD (varM 1) (conM (.int 2))) (consA (opM ixD (varM 1) (conM (.int 3))) (nilA)))))) (mk := (consA (opM ixD (varM 0) (conM (.int 0))) (nilA))) (e := [some (.tup [s, .loc R']), some (.loc lh.length), none]) (l := l1) (zs := [z1, z2, z3, z4]) (s := s) (by simp [c3]) (hk _) (by simp) i1
      simp [hty, c3, hm]
end NP
set_option maxRecDepth 100000
set_option maxHeartbeats 4000000
/-! a net of the law's own, drawn from the bag. -/
namespace NP
open PySem PySem.Spec L2 NL
theorem wait_val {p : D} (hp : PartD 3 p) : ∃ v : Int, (∀ lh, l_wait [p] lh = .ok (.int v) (lh ++ [.lst timedL])) ∧ ((timedB p = true ∧ 0 < v) ∨ (timedB p = false ∧ v = 0)) := by
  cases hp with
  | timed w q hw h0 _ => exact ⟨1 + q, fun lh => l_wait_ok hw lh, .inl ⟨rfl, by omega⟩⟩
  | change => exact ⟨0, fun lh => l_wait_0 (n := 3) .change (fun w q _ e => by cases e) lh, .inr ⟨rfl, rfl⟩⟩
  | pick s hs =>
    obtain ⟨x, rfl, _⟩ := oft_str hs
    exact ⟨0, fun lh => l_wait_0 (n := 3) (.pick _ hs) (fun w q h e => by cases e; simp (decide := true) [timedL] at h) lh, .inr ⟨rfl, rfl⟩⟩
  | turn x y hx hy hn =>
    obtain ⟨x, rfl, _⟩ := abc_str hx
    obtain ⟨y, rfl, _⟩ := abc_str hy
    exact ⟨0, fun lh => l_wait_0 (n := 3) (.turn _ _ hx hy hn) (fun w q _ e => by cases e) lh, .inr ⟨rfl, rfl⟩⟩
def cntT (ys : List D) : Int := ((ys.filter timedB).length : Int)
theorem cntT_snoc (ys : List D) (p : D) : cntT (ys ++ [p]) = cntT ys + if timedB p = true then 1 else 0 := by
  unfold cntT
  rw [List.filter_append, List.length_append]
  cases h : timedB p with
  | true => rw [List.filter_cons_of_pos h]; simp
  | false => rw [List.filter_cons_of_neg (by rw [h]; exact Bool.false_ne_true)]; simp
theorem cntT_app (xs ys : List D) : cntT (xs ++ ys) = cntT xs + cntT ys := by
  unfold cntT
  rw [List.filter_append, List.length_append]
  omega
def snIn : SM := (seqS (asS (apM NP.l_some_part (consA (varM 0) (consA (varM 1) (nilA)))) (nmG 10))
  (ifS (orT (blT (opM eqD (apM NP.l_wait (consA (varM 10) (nilA))) (conM (.int 0)))) (blT (opM gtD (varM 6) (conM (.int 0))))) (seqS (exS (mtM "list" appD (varM 8) (consA (varM 10) (nilA))))
  (asS (opM subD (varM 6) (callM intD (consA (opM gtD (apM NP.l_wait (consA (varM 10) (nilA))) (conM (.int 0))) (nilA)))) (nmG 6))) (nxS)))
structure SnAt (base l : LH) (bag : Nat) (left L0 : Int) (i : Nat) (ys : List D) : Prop where
  fr : Fr bag base l
  bag : Bag l bag
  at_ : l[base.length]? = some (.lst ys)
  le : ys.length ≤ i
  ok : ∀ p ∈ ys, PartD 3 p
  pos : 0 ≤ left
  cnt : left + cntT ys = L0
theorem fr_set {p : Nat → Prop} {base l : LH} {n : Nat} {o : Ob} (F : Ge p base l) (h : base.length ≤ n) : Ge p base (l.set n o) := ⟨by rw [List.length_set]; exact F.len, fun k hk hp => by
  rw [List.getElem?_set_ne (by omega)]
  exact F.same k hk hp⟩
theorem sn_step {base l : LH} {bag : Nat} {left L0 : Int} {i : Nat} {ys : List D} {n2 n3 s R : D} {x7 x9 x10 : Option D} (hbb : bag < base.length) (S : SnAt base l bag left L0 i ys) (hi : i < 50) :
    ∃ left' ys' p l', snIn [some (.loc bag), some (.int 3), some n2, some n3, some s, some R, some (.int left), x7, some (.loc base.length), x9, x10] l =
      .nx [some (.loc bag), some (.int 3), some n2, some n3, some s, some R, some (.int left'), x7, some (.loc base.length), x9, some p] l' ∧ SnAt base l' bag left' L0 (i + 1) ys' := by
  obtain ⟨p, l1, a1, a2, a3, a4⟩ := part_ok (n := 3) S.bag (by omega) (by omega)
  obtain ⟨v, w1, w2⟩ := wait_val a2
  have hY1 : l1[base.length]? = some (.lst ys) := a3.get S.at_ (by omega)
  have F1 := S.fr.trans a3
  have s1 : asS (apM NP.l_some_part (consA (varM 0) (consA (varM 1) (nilA)))) (nmG 10) [some (.loc bag), some (.int 3), some n2, some n3, some s, some R, some (.int left), x7, some (.loc base.length), x9, x10] l =
      .nx [some (.loc bag), some (.int 3), some n2, some n3, some s, some R, some (.int left), x7, some (.loc base.length), x9, some p] l1 := by simp [a1]
  have hY2 := get_app (t := [.lst timedL]) hY1
  have le := S.le
  have pos := S.pos
  have cnt := S.cnt
  have ap := appD_at (d := p) hY2 (by omega)
  have hYl := (List.getElem?_eq_some_iff.mp hY2).1
  have hty := tyOk_loc hY2
  by_cases hadd : v = 0 ∨ 0 < left
  · have ht : (orT (blT (opM eqD (apM NP.l_wait (consA (varM 10) (nilA))) (conM (.int 0)))) (blT (opM gtD (varM 6) (conM (.int 0))))) [some (.loc bag), some (.int 3), some n2, some n3, some s, some R, some (.int left), x7, some (.loc base.length), x9, some p] l1 = .ok true (l1 ++ [.lst timedL]) := by
      by_cases hv : v = 0
      · simp [w1, hv]
      · have : 0 < left := hadd.resolve_left hv
        simp [w1, hv, this]
    refine ⟨left - (if decide (0 < v) = true then 1 else 0), ys ++ [p], p, (l1 ++ [Ob.lst timedL]).set base.length (.lst (ys ++ [p])) ++ [.lst timedL], ?_, ⟨(fr_set (F1.trans (.app _ _)) (Nat.le_refl _)).trans (.app _ _), ((a4.app _).set (by omega) (by omega)).app _, get_app (List.getElem?_set_self hYl), by simp; omega, fun q hq => ?_, ?_, ?_⟩⟩
    · unfold snIn
      rw [seqS_ap, s1, bd_nx, ifS_ap, ht]
      simp [hty, ap, w1]
    · rcases List.mem_append.mp hq with h | h
      · exact S.ok q h
      · simp at h; subst h; exact a2
    · rcases w2 with ⟨_, h⟩ | ⟨_, h⟩
      · have : 0 < left := hadd.resolve_left (by omega)
        simp [h]
        omega
      · simp [h]
        exact pos
    · rw [cntT_snoc]
      rcases w2 with ⟨e, h⟩ | ⟨e, h⟩
      · simp [e, h]
        omega
      · simp [e, h]
        omega
  · have hv : ¬ v = 0 := fun h => hadd (.inl h)
    have hl : ¬ 0 < left := fun h => hadd (.inr h)
    have ht : (orT (blT (opM eqD (apM NP.l_wait (consA (varM 10) (nilA))) (conM (.int 0)))) (blT (opM gtD (varM 6) (conM (.int 0))))) [some (.loc bag), some (.int 3), some n2, some n3, some s, some R, some (.int left), x7, some (.loc base.length), x9, some p] l1 = .ok false (l1 ++ [.lst timedL]) := by
      simp [w1, hv, hl]
    refine ⟨left, ys, p, l1 ++ [.lst timedL], ?_, ⟨F1.trans (.app _ _), a4.app _, hY2, by omega, S.ok, pos, cnt⟩⟩
    unfold snIn
    rw [seqS_ap, s1, bd_nx, ifS_ap, ht]
    rfl
def snOut : SM := (seqS (asS (lstM (nilA)) (nmG 8))
  (seqS (forS (rngI (consA (apM NP.l_draw (consA (varM 0) (consA (conM (.int 5)) (nilA)))) (nilA))) (nmG 9) snIn)
  (exS (mtM "list" appD (varM 5) (consA (varM 8) (nilA))))))
theorem sn_row {l : LH} {bag R : Nat} {left : Int} {n2 n3 s : D} {x7 x8 x9 x10 : Option D} {ds : List D} (hB : Bag l bag) (hp : 0 ≤ left) (hR : l[R]? = some (.lst ds)) (hRb : R ≠ bag) (hRb1 : R + 1 ≠ bag) (hds : ds.length ≤ 50) :
    ∃ left' ys y9 y10 l3, snOut [some (.loc bag), some (.int 3), some n2, some n3, some s, some (.loc R), some (.int left), x7, x8, x9, x10] l =
      .nx [some (.loc bag), some (.int 3), some n2, some n3, some s, some (.loc R), some (.int left'), x7, some (.loc l.length), y9, y10] (l3.set R (.lst (ds ++ [.loc l.length]))) ∧ SnAt l l3 bag left' left 4 ys ∧ l3[R]? = some (.lst ds) := by
  have hbl := hB.lt
  have hRl := (List.getElem?_eq_some_iff.mp hR).1
  obtain ⟨q, l2, a1, a2, a3, a4, a5⟩ := l_draw_ok (n := 5) (hB.app [.lst []]) (by omega) (by omega)
  obtain ⟨k, rfl⟩ := Int.eq_ofNat_of_zero_le a1
  have hr : rngI (consA (apM NP.l_draw (consA (varM 0) (consA (conM (.int 5)) (nilA)))) (nilA)) [some (.loc bag), some (.int 3), some n2, some n3, some s, some (.loc R), some (.int left), x7, some (.loc l.length), x9, x10] (l ++ [.lst []]) = .ok (itR 0 k) l2 := rngI_nat (by simp [a3]) (by omega)
  obtain ⟨e', l3, p, q'⟩ := forN_inv (nx := (itR 0 k).nx) (g := nmG 9) (body := snIn)
    (fun i e m => ∃ lf ys y9 y10, e = [some (.loc bag), some (.int 3), some n2, some n3, some s, some (.loc R), some (.int lf), x7, some (.loc l.length), y9, y10] ∧ SnAt l m bag lf left i ys) k
    (fun i e m hi I => by
      obtain ⟨lf, ys, y9, y10, rfl, S⟩ := I
      obtain ⟨lf', ys', pp, m', b1, b2⟩ := sn_step (n2 := n2) (n3 := n3) (s := s) (R := .loc R) (x7 := x7) (x9 := some (.int (i : Int))) (x10 := y10) hbl S (by omega)
      exact ⟨.int (i : Int), _, m', itR_nx hi, .inl b1, lf', ys', some (.int (i : Int)), some pp, rfl, b2⟩)
    (fun e m I => itR_end)
    (k + 1) 0 [some (.loc bag), some (.int 3), some n2, some n3, some s, some (.loc R), some (.int left), x7, some (.loc l.length), x9, x10] l2 (by omega) (by omega)
    ⟨left, [], x9, x10, rfl, ⟨(Ge.app _ _).trans a4, a5, a4.get (by simp) (by omega), Nat.le_refl _, fun p hp => by simp at hp, hp, by simp [cntT]⟩⟩
  obtain ⟨lf, ys, y9, y10, rfl, S⟩ := q'
  have hR3 : l3[R]? = some (.lst ds) := S.fr.get hR hRb
  have ap := appD_at (d := .loc l.length) hR3 (by omega)
  have hty := tyOk_loc hR3
  refine ⟨lf, ys, y9, y10, l3, ?_, ⟨S.fr, S.bag, S.at_, by have := S.le; omega, S.ok, S.pos, S.cnt⟩, hR3⟩
  have t1 : asS (lstM (nilA)) (nmG 8) [some (.loc bag), some (.int 3), some n2, some n3, some s, some (.loc R), some (.int left), x7, x8, x9, x10] l = .nx [some (.loc bag), some (.int 3), some n2, some n3, some s, some (.loc R), some (.int left), x7, some (.loc l.length), x9, x10] (l ++ [.lst []]) := by simp
  have hfu : (itR 0 k).fuel = k + 1 := rfl
  unfold snOut
  rw [seqS_ap, t1, bd_nx, seqS_ap, forS_ap, hr, toSI_ok, hfu, p, bd_nx]
  simp [hty, ap]
theorem l_some_net_eq : l_some_net = fnM 11 (
  seqS (parS3 4 5 6 (consA (apM NP.l_of (consA (varM 0) (consA (lstM (consA (conM (.str (PySem.Str.ofString "a"))) (consA (conM (.str (PySem.Str.ofString "b"))) (consA (conM (.str (PySem.Str.ofString "ab"))) (consA (conM (.str (PySem.Str.ofString "ac"))) (consA (conM (.str (PySem.Str.ofString "abc"))) (nilA))))))) (nilA)))) (consA (lstM (nilA)) (consA (varM 3) (nilA)))))
  (seqS (forS (rngI (consA (opM addD (conM (.int 1)) (apM NP.l_draw (consA (varM 0) (consA (varM 2) (nilA))))) (nilA))) (nmG 7) snOut)
  (rtS (tupM (consA (varM 4) (consA (varM 5) (nilA))))))) := rfl
theorem l_some_net_ok {lh : LH} {bag : Nat} (hB : Bag lh bag) :
    ∃ s R yss l', l_some_net [.loc bag, .int 3, .int 4, .int 6] lh = .ok (.tup [s, .loc R]) l' ∧ s ∈ letL ∧ NetAt l' (.tup [s, .loc R]) yss ∧ (yss.flatten.filter timedB).length ≤ 6 ∧ Fr bag lh l' ∧ Bag l' bag := by
  have hbl := hB.lt
  obtain ⟨s, l1, a1, a2, a3, a4⟩ := l_of_ok (n := lh.length) (ds := letL) (hB.app [.lst letL]) (by omega) (by simp) (by decide) (by decide)
  have F1 : Fr bag lh l1 := (Ge.app _ _).trans a3
  have hb1 := a4.lt
  have hl1 := F1.len
  have s1 : (parS3 4 5 6 (consA (apM NP.l_of (consA (varM 0) (consA (lstM (consA (conM (.str (PySem.Str.ofString "a"))) (consA (conM (.str (PySem.Str.ofString "b"))) (consA (conM (.str (PySem.Str.ofString "ab"))) (consA (conM (.str (PySem.Str.ofString "ac"))) (consA (conM (.str (PySem.Str.ofString "abc"))) (nilA))))))) (nilA)))) (consA (lstM (nilA)) (consA (varM 3) (nilA))))) [some (.loc bag), some (.int 3), some (.int 4), some (.int 6), none, none, none, none, none, none, none] lh =
      .nx [some (.loc bag), some (.int 3), some (.int 4), some (.int 6), some s, some (.loc l1.length), some (.int 6), none, none, none, none] (l1 ++ [.lst []]) := by
    have a2' : l_of [.loc bag, .loc lh.length] (lh ++ [.lst [so "a", so "b", so "ab", so "ac", so "abc"]]) = .ok s l1 := a2
    simp [parS3_ap, a2']
  obtain ⟨q, l2, b1, b2, b3, b4, b5⟩ := l_draw_ok (n := 4) (a4.app [.lst []]) (by omega) (by omega)
  obtain ⟨k, rfl⟩ := Int.eq_ofNat_of_zero_le b1
  have hr : rngI (consA (opM addD (conM (.int 1)) (apM NP.l_draw (consA (varM 0) (consA (varM 2) (nilA))))) (nilA)) [some (.loc bag), some (.int 3), some (.int 4), some (.int 6), some s, some (.loc l1.length), some (.int 6), none, none, none, none] (l1 ++ [.lst []]) = .ok (itR 0 (k + 1)) l2 := by
    refine rngI_nat ?_ (by omega)
    simp [b3]
    omega
  have hR2 : l2[l1.length]? = some (.lst []) := b4.get (by simp) (by omega)
  have F2 : Fr bag lh l2 := F1.trans ((Ge.app _ _).trans b4)
  obtain ⟨e', l3, p, q'⟩ := forN_inv (nx := (itR 0 (k + 1)).nx) (g := nmG 7) (body := snOut)
    (fun i e m => ∃ lf ds yss y7 y8 y9 y10, e = [some (.loc bag), some (.int 3), some (.int 4), some (.int 6), some s, some (.loc l1.length), some (.int lf), y7, y8, y9, y10] ∧ Fr bag lh m ∧ Bag m bag ∧ m[l1.length]? = some (.lst ds) ∧ RowsAt m ds yss ∧ yss.length = i ∧
      (∀ ys ∈ yss, ys.length ≤ 4 ∧ ∀ p ∈ ys, PartD 3 p) ∧ (∀ n, D.loc n ∈ ds → l1.length < n) ∧ 0 ≤ lf ∧ lf + cntT yss.flatten = 6) (k + 1)
    (fun i e m hi I => by
      obtain ⟨lf, ds, yss, y7, y8, y9, y10, rfl, F, B, hR, rows, hlen, r4, hlo, hpos, hcnt⟩ := I
      have hdl := rows.len
      obtain ⟨lf', ys, z9, z10, m3, c1, S, c3⟩ := sn_row (n2 := .int 4) (n3 := .int 6) (s := s) (x7 := some (.int (i : Int))) (x8 := y8) (x9 := y9) (x10 := y10) B hpos hR (by omega) (by omega) (by omega)
      have hml := (List.getElem?_eq_some_iff.mp hR).1
      refine ⟨.int (i : Int), _, _, itR_nx hi, .inl c1, lf', ds ++ [.loc m.length], yss ++ [ys], some (.int (i : Int)), some (.loc m.length), z9, z10, rfl, fr_set (F.trans S.fr) (by omega), S.bag.set (by omega) (by omega), List.getElem?_set_self (List.getElem?_eq_some_iff.mp c3).1, ?_, by simp [hlen], fun y hy => ?_, fun n hn => ?_, S.pos, ?_⟩
      · refine (RowsAt.snoc S.at_ (rows.fr B S.fr fun ys hy => (r4 ys hy).1)).set fun n hn => ?_
        rcases List.mem_append.mp hn with h | h
        · have := hlo n h; omega
        · simp at h; omega
      · rcases List.mem_append.mp hy with h | h
        · exact r4 y h
        · simp at h
          subst h
          exact ⟨S.le, S.ok⟩
      · rcases List.mem_append.mp hn with h | h
        · exact hlo n h
        · simp at h; omega
      · have := S.cnt
        rw [List.flatten_append, cntT_app, List.flatten_singleton]
        omega)
    (fun e m I => itR_end)
    (k + 1 + 1) 0 [some (.loc bag), some (.int 3), some (.int 4), some (.int 6), some s, some (.loc l1.length), some (.int 6), none, none, none, none] l2 (by omega) (by omega)
    ⟨6, [], [], none, none, none, none, rfl, F2, b5, hR2, .nil, rfl, fun ys hy => by simp at hy, fun n hn => by simp at hn, by omega, by simp [cntT]⟩
  obtain ⟨lf, ds, yss, y7, y8, y9, y10, rfl, F, B, hR, rows, hlen, r4, hlo, hpos, hcnt⟩ := q'
  refine ⟨s, l1.length, yss, l3, ?_, a1, ⟨⟨s, l1.length, ds, rfl, hR, rows⟩, fun h => by rw [h] at hlen; simp at hlen, by omega, r4⟩, by unfold cntT at hcnt; omega, F, B⟩
  have hst : stD 11 [.loc bag, .int 3, .int 4, .int 6] = [some (.loc bag), some (.int 3), some (.int 4), some (.int 6), none, none, none, none, none, none, none] := by simp
  have hfu : (itR 0 (k + 1)).fuel = k + 1 + 1 := rfl
  rw [l_some_net_eq, fnM_ap, hst, seqS_ap, s1, bd_nx, seqS_ap, forS_ap, hr, toSI_ok, hfu, p, bd_nx]
  simp
end NP
set_option maxRecDepth 100000
set_option maxHeartbeats 4000000
/-! plain states; two pairs of a state and outputs. -/
namespace NP
open PySem PySem.Spec L2 NL
theorem pdL_of {n : Nat} : ∀ {ds : List D}, (∀ d ∈ ds, pd n d = true) → pdL n ds = true
  | [], _ => rfl
  | d :: r, h => by
    show (pd n d && pdL n r) = true
    rw [h d (List.mem_cons_self ..), pdL_of fun x hx => h x (List.mem_cons_of_mem _ hx)]
    rfl
theorem pd_up {d : D} (h : pd 0 d = true) (n : Nat) : pd n d = true := by
  cases d <;> first | (cases n <;> rfl) | (simp [pd] at h)
theorem pd_tup {n : Nat} {ds : List D} (hl : ds.length ≤ 1000) (h : ∀ d ∈ ds, pd n d = true) : pd (n + 1) (.tup ds) = true := by
  show (decide (ds.length ≤ 1000) && pdL n ds) = true
  rw [pdL_of h, decide_eq_true hl]
  rfl
theorem pd_item {t : D} (h : ItemD t) : pd 1 t = true := by
  obtain ⟨s, q, hs, rfl⟩ := h
  obtain ⟨y, rfl, _⟩ := abc_str hs
  simp [pd, pdL]
theorem pd_mem {p m : D} (h : MemP p m) : pd 2 m = true := by
  cases h with
  | rest => simp [pd, pdL]
  | none => simp [pd, pdL]
  | some _ _ t _ _ hi =>
    have := pd_item hi
    exact pd_tup (by simp) fun d hd => by
      simp at hd
      rcases hd with rfl | rfl
      · rfl
      · exact this
  | last s hs =>
    rcases List.mem_cons.mp hs with rfl | hs
    · simp [pd, pdL]
    · obtain ⟨y, rfl, _⟩ := abc_str hs
      simp [pd, pdL]
theorem pd_state {ps ms ws : List D} {os : List (List Int)} {B : Nat} (h16 : ps.length ≤ 16) (hB : B ≤ 900) (S : StOk ps ms ws os B) : pd 4 (stD3 ms ws os) = true := by
  have hml : ms.length ≤ 16 := by rw [S.mem.len]; exact h16
  have hwl : ws.length ≤ 16 := by rw [S.wl]; exact h16
  have hol := S.ol
  refine pd_tup (by simp) fun d hd => ?_
  simp at hd
  rcases hd with rfl | rfl | rfl
  · refine pd_tup (by omega) fun m hm => ?_
    obtain ⟨i, hi⟩ := List.getElem?_of_mem hm
    have hi' : i < ps.length := by rw [← S.mem.len]; exact (List.getElem?_eq_some_iff.mp hi).1
    exact pd_mem (S.mem.at_ i _ m (List.getElem?_eq_getElem hi') hi)
  · exact pd_tup (by omega) fun w hw => pd_up (S.pw w hw) 2
  · refine pd_tup (by rw [List.length_map]; omega) fun g hg => ?_
    obtain ⟨o, ho, rfl⟩ := List.mem_map.mp hg
    have := S.gl o ho
    refine pd_tup (n := 1) (by rw [List.length_map]; omega) fun x hx => ?_
    obtain ⟨y, _, rfl⟩ := List.mem_map.mp hx
    rfl
mutual
theorem pd_more : ∀ {n : Nat} {d : D}, pd n d = true → pd (n + 1) d = true
  | _, .non, _ => rfl
  | _, .bl _, _ => rfl
  | _, .int _, _ => rfl
  | _, .str _, _ => rfl
  | 0, .tup _, h => by simp [pd] at h
  | n + 1, .tup ds, h => by
    have h' : (decide (ds.length ≤ 1000) && pdL n ds) = true := h
    rw [Bool.and_eq_true] at h'
    show (decide (ds.length ≤ 1000) && pdL (n + 1) ds) = true
    rw [Bool.and_eq_true]
    exact ⟨h'.1, pdL_more h'.2⟩
  | 0, .loc _, h => by simp [pd] at h
  | _ + 1, .loc _, h => by simp [pd] at h
  | 0, .raw _, h => by simp [pd] at h
  | _ + 1, .raw _, h => by simp [pd] at h
  | 0, .fl _, h => by simp [pd] at h
  | _ + 1, .fl _, h => by simp [pd] at h
theorem pdL_more : ∀ {n : Nat} {ds : List D}, pdL n ds = true → pdL (n + 1) ds = true
  | _, [], _ => rfl
  | n, d :: r, h => by
    have h' : (pd n d && pdL n r) = true := h
    rw [Bool.and_eq_true] at h'
    show (pd (n + 1) d && pdL (n + 1) r) = true
    rw [Bool.and_eq_true]
    exact ⟨pd_more h'.1, pdL_more h'.2⟩
end
theorem sm_pair {lh : LH} {st : D} {A B : Nat} {outs : List D} (hst : pd 4 st = true) (hA : lh[A]? = some (.lst outs)) (hB : lh[B]? = some (.lst outs)) (hl : outs.length ≤ 16) (ho : ∀ d ∈ outs, pd 2 d = true) : Sm lh 5 (.tup [st, .loc A]) (.tup [st, .loc B]) := by
  refine Sm.tupL (by simp) ⟨Sm.pd hst, ?_, trivial⟩
  refine Sm.lstL (n := 3) (ds := outs) (es := outs) (by rw [sq_loc, hA]) (by rw [sq_loc, hB]) (by omega) (SmL.pd (pdL_of fun d hd => ?_))
  have := ho d hd
  exact pd_more this
end NP
set_option maxRecDepth 100000
set_option maxHeartbeats 4000000
/-! an item enters: the program's; sent. -/
namespace NP
open PySem PySem.Spec L2 NL
def epBody (c : CA) : SM := (seqS (asS (apM (NP.put_in c) (consA (varM 0) (consA (varM 1) (consA (varM 5) (consA (conM (.int 0)) (consA (varM 2) (nilA))))))) (tupG 3 (consG (nmG 1) (consG (nmG 6) (consG (nmG 7) (nilG))))))
  (seqS (asS (opM addD (varM 3) (varM 6)) (nmG 3))
  (ifS (blT (opM isntD (varM 7) (conM .non))) (exS (mtM "list" appD (varM 4) (consA (tupSM (starA (varM 7) (consA (varM 5) (nilA)))) (nilA)))) (nxS))))
theorem entered_eq (c : CA) : entered c = fnM 8 (seqS (parS 3 4 (consA (lstM (nilA)) (consA (lstM (nilA)) (nilA)))) (seqS (forS (rngI (consA (callM lenD (consA (fldM (c "Net") "line_list" (varM 0)) (nilA))) (nilA))) (nmG 5) (epBody c)) (rtS (tupM (consA (varM 1) (consA (varM 3) (consA (varM 4) (nilA)))))))) := rfl
theorem ep_step {c : CA} {base l : LH} {N LL PL HL i S O : Nat} {yss : List (List D)} {t : D} {ms st outs : List D} {g : List Int} {x6 x7 : Option D} (I : InsAt c base N LL PL HL yss) (gr : Gr base l) (ht : ItemD t) (hi : i < yss.length) (E : EnS yss ms st outs i g)
    (hS : l[S]? = some (.lst st)) (hO : l[O]? = some (.lst outs)) (hbO : base.length ≤ O) :
    ∃ ms' st' outs' g' S' x6' x7' l', epBody c [some (.loc N), some (.tup ms), some t, some (.loc S), some (.loc O), some (.int (i : Int)), x6, x7] l =
      .nx [some (.loc N), some (.tup ms'), some t, some (.loc S'), some (.loc O), some (.int (i : Int)), x6', x7'] l' ∧ Gr base l' ∧ EnS yss ms' st' outs' (i + 1) g' ∧ l'[S']? = some (.lst st') ∧ l'[O]? = some (.lst outs') ∧
      ∀ k, enterF yss t (k + 1) i ms st outs = enterF yss t k (i + 1) ms' st' outs' := by
  have h16 := I.n16
  have h4 := I.n4
  have hmo := offN_mono yss (show i ≤ i + 1 by omega)
  have hle := offN_le yss (i + 1)
  have hsz : (200 : Nat) ≤ sizeLine := by decide
  have Il := I.mono gr
  obtain ⟨S1, l1, a1, a2, a3⟩ := put_in_ok (depth := 0) Il E.mem (.inr ht) hi hmo
  rw [Nat.add_zero] at a1 a3
  have hoo := (downA_ok I.part (offN yss (i + 1) - offN yss i) (offN yss i) ms [] t (by omega) E.mem (.inr ht)).2
  obtain ⟨gA, hSS⟩ := downA_spec I.part (offN yss (i + 1) - offN yss i) (offN yss i) ms [] t (by omega) E.mem (.inr ht)
  have hAl : (downA yss.flatten (offN yss (i + 1) - offN yss i) (offN yss i) ms [] t).2.1.length ≤ 16 := by
    rw [hSS.eq, List.nil_append, List.length_map]
    have := hSS.len
    omega
  obtain ⟨g', E', hef⟩ : ∃ g', EnS yss (downA yss.flatten (offN yss (i + 1) - offN yss i) (offN yss i) ms [] t).1 (st ++ (downA yss.flatten (offN yss (i + 1) - offN yss i) (offN yss i) ms [] t).2.1) (outs ++ outL (downA yss.flatten (offN yss (i + 1) - offN yss i) (offN yss i) ms [] t).2.2 i) (i + 1) g' ∧
      ∀ k, enterF yss t (k + 1) i ms st outs = enterF yss t k (i + 1) (downA yss.flatten (offN yss (i + 1) - offN yss i) (offN yss i) ms [] t).1 (st ++ (downA yss.flatten (offN yss (i + 1) - offN yss i) (offN yss i) ms [] t).2.1) (outs ++ outL (downA yss.flatten (offN yss (i + 1) - offN yss i) (offN yss i) ms [] t).2.2 i) := by
    by_cases hz : offN yss i = offN yss (i + 1)
    · have e0 : downA yss.flatten (offN yss (i + 1) - offN yss i) (offN yss i) ms [] t = (ms, [], t) := by
        rw [show offN yss (i + 1) - offN yss i = 0 by omega]
        rfl
      rw [e0]
      refine ⟨g, by rw [List.append_nil]; exact enS_empty E hz ht, fun k => ?_⟩
      conv => lhs; unfold enterF
      rw [if_pos hz, List.append_nil]
    · obtain ⟨g', E'⟩ := enS_row I.part E ht
      refine ⟨g', E', fun k => ?_⟩
      conv => lhs; unfold enterF
      rw [if_neg hz]
  have egl := E.gl
  have eol := E.ol
  have hstl : st.length ≤ 16 := by
    have := offN_le yss i
    rw [E.eq, List.length_map]
    omega
  generalize downA yss.flatten (offN yss (i + 1) - offN yss i) (offN yss i) ms [] t = A at *
  have add := addD_at (l := l1) (n := S) (m := S1) (a2.get hS id) a3 (by omega)
  have hO2 : (l1 ++ [Ob.lst (st ++ A.2.1)])[O]? = some (.lst outs) := get_app (a2.get hO id)
  have g2 : Gr base (l1 ++ [Ob.lst (st ++ A.2.1)]) := (gr.trans a2).trans (.app _ _)
  have t1 : asS (apM (NP.put_in c) (consA (varM 0) (consA (varM 1) (consA (varM 5) (consA (conM (.int 0)) (consA (varM 2) (nilA))))))) (tupG 3 (consG (nmG 1) (consG (nmG 6) (consG (nmG 7) (nilG))))) [some (.loc N), some (.tup ms), some t, some (.loc S), some (.loc O), some (.int (i : Int)), x6, x7] l =
      .nx [some (.loc N), some (.tup A.1), some t, some (.loc S), some (.loc O), some (.int (i : Int)), some (.loc S1), some A.2.2] l1 := by
    have a1' : put_in c [.loc N, .tup ms, .int (i : Int), .int 0, t] l = .ok (.tup [.tup A.1, .loc S1, A.2.2]) l1 := a1
    rw [asS_ap, apM_ap, consA_ap, varM_at 0 (by rfl), Re.bind_ok, consA_ap, varM_at 1 (by rfl), Re.bind_ok, consA_ap, varM_at 5 (by rfl), Re.bind_ok, consA_ap, conM_ap, Re.bind_ok, consA_ap, varM_at 2 (by rfl), Re.bind_ok, nilA_ap, Re.bind_ok, Re.bind_ok, Re.bind_ok, Re.bind_ok, Re.bind_ok, Re.bind_ok, a1', toS_ok]
    simp [tupG_tup]
  have t2 : asS (opM addD (varM 3) (varM 6)) (nmG 3) [some (.loc N), some (.tup A.1), some t, some (.loc S), some (.loc O), some (.int (i : Int)), some (.loc S1), some A.2.2] l1 =
      .nx [some (.loc N), some (.tup A.1), some t, some (.loc l1.length), some (.loc O), some (.int (i : Int)), some (.loc S1), some A.2.2] (l1 ++ [Ob.lst (st ++ A.2.1)]) := by
    simp [add]
  have hS2 : (l1 ++ [Ob.lst (st ++ A.2.1)])[l1.length]? = some (.lst (st ++ A.2.1)) := by simp
  have hOl : O ≠ l1.length := by
    have := (List.getElem?_eq_some_iff.mp (a2.get hO id)).1
    omega
  generalize (l1 ++ [Ob.lst (st ++ A.2.1)]) = L at *
  rcases hoo with hn | hit
  · refine ⟨A.1, st ++ A.2.1, outs ++ outL A.2.2 i, g', l1.length, some (.loc S1), some A.2.2, L, ?_, g2, E', hS2, by rw [hn]; simpa [outL] using hO2, hef⟩
    unfold epBody
    rw [seqS_ap, t1, bd_nx, seqS_ap, t2, bd_nx, hn]
    simp
  · obtain ⟨x, q, hx⟩ := item_tup hit
    have ap := appD_at (d := .tup [x, q, .int (i : Int)]) hO2 (by omega)
    have hty := tyOk_loc hO2
    refine ⟨A.1, st ++ A.2.1, outs ++ outL A.2.2 i, g', l1.length, some (.loc S1), some A.2.2, L.set O (.lst (outs ++ [.tup [x, q, .int (i : Int)]])), ?_, set_gr g2 hbO, E', by rw [List.getElem?_set_ne hOl]; exact hS2, by rw [hx, List.getElem?_set_self (List.getElem?_eq_some_iff.mp hO2).1]; rfl, hef⟩
    unfold epBody
    rw [seqS_ap, t1, bd_nx, seqS_ap, t2, bd_nx, hx]
    simp [hty, tupSM, starA, opn, ap]
theorem entered_ok {c : CA} {lh : LH} {N LL PL HL : Nat} {yss : List (List D)} {t : D} {ms : List D} (I : InsAt c lh N LL PL HL yss) (hm : MemsOk yss.flatten ms) (ht : ItemD t) :
    ∃ S O l', entered c [.loc N, .tup ms, t] lh = .ok (.tup [.tup (enterF yss t yss.length 0 ms [] []).1, .loc S, .loc O]) l' ∧ Gr lh l' ∧ l'[S]? = some (.lst (enterF yss t yss.length 0 ms [] []).2.1) ∧ l'[O]? = some (.lst (enterF yss t yss.length 0 ms [] []).2.2) := by
  have h4 := I.n4
  have s1 : (parS 3 4 (consA (lstM (nilA)) (consA (lstM (nilA)) (nilA)))) [some (.loc N), some (.tup ms), some t, none, none, none, none, none] lh = .nx [some (.loc N), some (.tup ms), some t, some (.loc lh.length), some (.loc (lh.length + 1)), none, none, none] (lh ++ [.lst [], .lst []]) := by simp
  have gb : Gr lh (lh ++ [Ob.lst [], .lst []]) := .app _ _
  have hSb : (lh ++ [Ob.lst [], .lst []])[lh.length]? = some (.lst []) := by simp
  have hOb : (lh ++ [Ob.lst [], .lst []])[lh.length + 1]? = some (.lst []) := by simp
  generalize (lh ++ [Ob.lst [], .lst []]) = L0 at *
  have I0 := I.mono gb
  obtain ⟨ds, hll, hrow⟩ := I0.ll
  have hdl := hrow.len
  have hr : rngI (consA (callM lenD (consA (fldM (c "Net") "line_list" (varM 0)) (nilA))) (nilA)) [some (.loc N), some (.tup ms), some t, some (.loc lh.length), some (.loc (lh.length + 1)), none, none, none] L0 = .ok (itR 0 yss.length) L0 := by
    refine rngI_nat ?_ (by omega)
    simp [fldM_ap, I0.fl, hll, hdl]
  obtain ⟨e', l', p, q⟩ := forN_inv (nx := (itR 0 yss.length).nx) (g := nmG 5) (body := epBody c)
    (fun i e l => ∃ (ms' st' outs' : List D) (g' : List Int) (S' : Nat) (x5 x6 x7 : Option D), e = [some (.loc N), some (.tup ms'), some t, some (.loc S'), some (.loc (lh.length + 1)), x5, x6, x7] ∧ Gr lh l ∧ EnS yss ms' st' outs' i g' ∧ l[S']? = some (.lst st') ∧ l[lh.length + 1]? = some (.lst outs') ∧
      enterF yss t (yss.length - i) i ms' st' outs' = enterF yss t yss.length 0 ms [] []) yss.length
    (fun i e l hi J => by
      obtain ⟨ms', st', outs', g', S', x5, x6, x7, rfl, gr, E, hS, hO, hef⟩ := J
      obtain ⟨ms2, st2, outs2, g2, S2, y6, y7, l2, b1, b2, b3, b4, b5, b6⟩ := ep_step (x6 := x6) (x7 := x7) I gr ht hi E hS hO (by omega)
      refine ⟨.int (i : Int), _, l2, itR_nx hi, .inl b1, ms2, st2, outs2, g2, S2, some (.int (i : Int)), y6, y7, rfl, b2, b3, b4, b5, ?_⟩
      rw [← hef, show yss.length - i = (yss.length - (i + 1)) + 1 by omega, b6])
    (fun e l J => itR_end)
    (yss.length + 1) 0 [some (.loc N), some (.tup ms), some t, some (.loc lh.length), some (.loc (lh.length + 1)), none, none, none] L0 (by omega) (by omega)
    ⟨ms, [], [], [], lh.length, none, none, none, rfl, gb, ⟨rfl, hm, ⟨List.nodup_nil, fun x hx => by simp at hx⟩, fun x hx => by simp at hx, Nat.zero_le _, Nat.zero_le _, fun d hd => by simp at hd⟩, hSb, hOb, rfl⟩
  obtain ⟨ms', st', outs', g', S', x5, x6, x7, rfl, gr, E, hS, hO, hef⟩ := q
  rw [Nat.sub_self] at hef
  have hef' : enterF yss t yss.length 0 ms [] [] = (ms', st', outs') := hef.symm
  rw [hef']
  refine ⟨S', lh.length + 1, l', ?_, gr, hS, hO⟩
  have hst : stD 8 [.loc N, .tup ms, t] = [some (.loc N), some (.tup ms), some t, none, none, none, none, none] := by simp
  have hfu : (itR 0 yss.length).fuel = yss.length + 1 := rfl
  rw [entered_eq, fnM_ap, hst, seqS_ap, s1, bd_nx, seqS_ap, forS_ap, hr, toSI_ok, hfu, p, bd_nx, rtS_ap, tupM_ap, consA_ap, varM_at 1 (by rfl), Re.bind_ok, consA_ap, varM_at 3 (by rfl), Re.bind_ok, consA_ap, varM_at 4 (by rfl), Re.bind_ok, nilA_ap, Re.bind_ok, Re.bind_ok, Re.bind_ok, Re.bind_ok]
  rfl
theorem sent_ok {c : CA} {lh : LH} {N LL PL HL : Nat} {yss : List (List D)} {x q : D} {ms ws : List D} {os : List (List Int)} {B : Nat} {g : List Int} (I : InsAt c lh N LL PL HL yss) (S : StOk yss.flatten ms ws os B) (hB : B ≤ 90) (ht : ItemD (.tup [x, q]))
    (E : EnS yss (enterF yss (.tup [x, q]) yss.length 0 ms [] []).1 (enterF yss (.tup [x, q]) yss.length 0 ms [] []).2.1 (enterF yss (.tup [x, q]) yss.length 0 ms [] []).2.2 yss.length g) :
    ∃ O l', sent c [.loc N, stD3 ms ws os, x, q] lh = .ok (.tup [stD3 (enterF yss (.tup [x, q]) yss.length 0 ms [] []).1 (anewW (enterF yss (.tup [x, q]) yss.length 0 ms [] []).1 ws g) (anewO (enterF yss (.tup [x, q]) yss.length 0 ms [] []).1 os g), .loc O]) l' ∧ Gr lh l' ∧
      l'[O]? = some (.lst (enterF yss (.tup [x, q]) yss.length 0 ms [] []).2.2) := by
  obtain ⟨S1, O1, l1, a1, a2, a3, a4⟩ := entered_ok I S.mem ht
  generalize enterF yss (.tup [x, q]) yss.length 0 ms [] [] = R at *
  rw [E.eq] at a3
  have A := anewOk_of I.n16 S hB E.mem E.st
  obtain ⟨l2, c1, c2⟩ := restarted_ok (ms := ms) (I.mono a2) A a3
  refine ⟨O1, l2, ?_, a2.trans c2, c2.get a4 id⟩
  have hst : stD 7 [.loc N, stD3 ms ws os, x, q] = [some (.loc N), some (stD3 ms ws os), some x, some q, none, none, none] := by simp
  have hi : opM ixD (varM 1) (conM (.int 0)) [some (.loc N), some (stD3 ms ws os), some x, some q, none, none, none] lh = .ok (.tup ms) lh := by simp [stD3]
  have t1 : asS (apM (NP.entered c) (consA (varM 0) (consA (opM ixD (varM 1) (conM (.int 0))) (consA (tupM (consA (varM 2) (consA (varM 3) (nilA)))) (nilA))))) (tupG 3 (consG (nmG 4) (consG (nmG 5) (consG (nmG 6) (nilG))))) [some (.loc N), some (stD3 ms ws os), some x, some q, none, none, none] lh =
      .nx [some (.loc N), some (stD3 ms ws os), some x, some q, some (.tup R.1), some (.loc S1), some (.loc O1)] l1 := by
    rw [asS_ap, apM_ap, consA_ap, varM_at 0 (by rfl), Re.bind_ok, consA_ap, hi, Re.bind_ok, consA_ap, tupM_ap, consA_ap, varM_at 2 (by rfl), Re.bind_ok, consA_ap, varM_at 3 (by rfl), Re.bind_ok, nilA_ap, Re.bind_ok, Re.bind_ok, Re.bind_ok, Re.bind_ok, nilA_ap, Re.bind_ok, Re.bind_ok, Re.bind_ok, Re.bind_ok, a1, toS_ok]
    simp [tupG_tup]
  unfold sent
  rw [fnM_ap, hst, seqS_ap, t1, bd_nx, rtS_ap, tupM_ap, consA_ap, apM_ap, consA_ap, varM_at 0 (by rfl), Re.bind_ok, consA_ap, varM_at 1 (by rfl), Re.bind_ok, consA_ap, varM_at 4 (by rfl), Re.bind_ok, consA_ap, varM_at 5 (by rfl), Re.bind_ok, nilA_ap, Re.bind_ok, Re.bind_ok, Re.bind_ok, Re.bind_ok, Re.bind_ok, c1, Re.bind_ok, consA_ap, varM_at 6 (by rfl), Re.bind_ok, nilA_ap, Re.bind_ok, Re.bind_ok, Re.bind_ok]
  rfl
end NP
set_option maxRecDepth 100000
set_option maxHeartbeats 4000000
/-! the answer of the law of sends. -/
namespace NP
open PySem PySem.Spec L2 NL
theorem ints_inj : ∀ {a b : List Int}, a.map D.int = b.map D.int → a = b
  | [], [], _ => rfl
  | x :: a, y :: b, h => by
    injection h with h1 h2
    injection h1 with h1
    rw [h1, ints_inj h2]
  | [], _ :: _, h => nomatch h
  | _ :: _, [], h => nomatch h
theorem letters_ok {s x : D} {e : LE} {lh : LH} {k : Nat} (h : s ∈ letL) (he : varM 2 e lh = .ok (.tup [s, x]) lh) (hk : ∀ (d : D) (l : LH), varM k ((wipeD e [k]).set k (some d)) l = .ok d l) :
    ∃ ds l', lcM (seqI (opM ixD (varM 2) (conM (.int 0)))) (nmG k) (yesT) (varM k) [k] e lh = .ok (.loc lh.length) l' ∧ Gr lh l' ∧ l'[lh.length]? = some (.lst ds) ∧ ds ≠ [] ∧ ds.length ≤ 3 ∧ ∀ d ∈ ds, d ∈ abcL := by
  obtain ⟨z, rfl, h1, h2, h3⟩ := let_cps h
  have hit : seqI (opM ixD (varM 2) (conM (.int 0))) e lh = .ok (itS z) lh := by
    rw [seqI_ap, opM_ap, he, Re.bind_ok, conM_ap, Re.bind_ok, ixD_tup', atI_0]
    rfl
  obtain ⟨l1, a1, a2, a3⟩ := lcM_xs (g := nmG k) (t := yesT) (m := varM k) (own := [k]) hit z.cps.toList (by omega) rfl (fun _ => true) (fun c => D.str ⟨#[c]⟩)
    (fun i c l hc gr => ⟨.str ⟨#[c]⟩, (wipeD e [k]).set k (some (.str ⟨#[c]⟩)), l, by simp only [itS]; rw [hc]; rfl, rfl, rfl, .refl, fun _ => ⟨l, hk _ _, .refl⟩⟩)
    (fun l gr => by simp only [itS]; rw [List.getElem?_eq_none (Nat.le_refl _)]; rfl)
  rw [List.filter_eq_self.mpr (fun _ _ => rfl)] at a3
  refine ⟨_, l1, a1, a2, a3, fun e => h1 (List.map_eq_nil_iff.mp e), by rw [List.length_map]; exact h2, fun d hd => ?_⟩
  obtain ⟨c, hc, rfl⟩ := List.mem_map.mp hd
  exact h3 c hc
def lsA : SM := (parS 6 7 (consA (apM NP.l_of (consA (varM 1) (consA (lcM (seqI (opM ixD (varM 2) (conM (.int 0)))) (nmG 11) (yesT) (varM 11) [11]) (nilA)))) (consA (apM NP.l_draw (consA (varM 1) (consA (conM (.int 2)) (nilA)))) (nilA))))
def lsB : SM := (asS (apM NP.l_send (consA (varM 2) (consA (varM 5) (consA (varM 6) (consA (varM 7) (nilA)))))) (nmG 8))
def lsC (c : CA) : SM := (asS (lstM (consA (kwM (NP.sent c) [0, 1, 2, 3] (consA (varM 3) (consA (varM 5) (consA (varM 6) (nilA)))) (consA (varM 7) (nilA))) (consA (kwM0 (NP.sent c) [2, 1, 0, 3] (consA (varM 6) (consA (varM 5) (consA (varM 3) (consA (varM 7) (nilA)))))) (nilA)))) (nmG 9))
def lsT1 : MT := (notT (truM (apM (NP.l_same 24) (consA (varM 9) (consA (lstM (consA (varM 8) (consA (varM 8) (nilA)))) (nilA))))))
def lsT2 (c : CA) : MT := (notT (truM (apM (NP.l_same 24) (consA (dfM (NP.sent c) [(.int 0)] (consA (varM 3) (consA (varM 5) (consA (varM 6) (nilA))))) (consA (apM NP.l_send (consA (varM 2) (consA (varM 5) (consA (varM 6) (consA (conM (.int 0)) (nilA)))))) (nilA))))))
def lsE : SM := (asS (apM NP.l_pass (consA (varM 2) (consA (opM ixD (varM 8) (conM (.int 0))) (nilA)))) (nmG 10))
def lsT3 (c : CA) : MT := (notT (truM (apM (NP.l_same 24) (consA (apM (NP.passed c) (consA (varM 3) (consA (opM ixD (varM 8) (conM (.int 0))) (nilA)))) (consA (varM 10) (nilA))))))
def lsBody (c : CA) : SM := (seqS lsA (seqS lsB (seqS (lsC c) (seqS (ifS (orT lsT1 (lsT2 c)) (rtS (conM (.bl false))) (nxS)) (seqS lsE (ifS (lsT3 c) (rtS (conM (.bl false))) (nxS)))))))
theorem law_eq (c : CA) : NP.law c = fnM 12 (
  seqS (asS (apM NP.l_bag (consA (varM 0) (nilA))) (nmG 1))
  (seqS (asS (apM NP.l_some_net (consA (varM 1) (consA (conM (.int 3)) (consA (conM (.int 4)) (consA (conM (.int 6)) (nilA)))))) (nmG 2))
  (seqS (parS 3 4 (consA (apM (NP.l_net c) (consA (varM 2) (nilA))) (consA (opM ixD (apM NP.l_walk (consA (varM 1) (consA (varM 2) (consA (conM (.int 20)) (nilA))))) (conM (.int 0))) (nilA))))
  (seqS (forS (seqI (varM 4)) (nmG 5) (lsBody c))
  (rtS (conM (.bl true))))))) := rfl
theorem same_pair {l : LH} {st : D} {A B : Nat} {outs : List D} (hst : pd 4 st = true) (hA : l[A]? = some (.lst outs)) (hB : l[B]? = some (.lst outs)) (hl : outs.length ≤ 16) (ho : ∀ d ∈ outs, pd 2 d = true) :
    ∃ l2, l_same 24 [.tup [st, .loc A], .tup [st, .loc B]] l = .ok (.bl true) l2 ∧ Gr l l2 := same_ok (sm_pair hst hA hB hl ho) 24 (by omega) l .refl
theorem ls_step {c : CA} {l : LH} {N LL PL HL St bag i : Nat} {yss : List (List D)} {fl s R0 st : D} {x6 x7 x8 x9 x10 x11 : Option D} (Nt : NetAt l (.tup [s, R0]) yss) (hs : s ∈ letL) (I : InsAt c l N LL PL HL yss) (hB : Bag l bag) (hst : StAt yss (i + 1) st) (hi : i ≤ 30) :
    ∃ y6 y7 y8 y9 y10 l', lsBody c [some fl, some (.loc bag), some (.tup [s, R0]), some (.loc N), some (.loc St), some st, x6, x7, x8, x9, x10, x11] l = .nx [some fl, some (.loc bag), some (.tup [s, R0]), some (.loc N), some (.loc St), some st, y6, y7, y8, y9, y10, x11] l' ∧ Fr bag l l' ∧ Bag l' bag := by
  have hbl := hB.lt
  obtain ⟨ms, ws, os, rfl, S⟩ := hst
  -- the letter, the mark
  obtain ⟨ds, l1, a1, a2, a3, a4, a5, a6⟩ := letters_ok (e := [some fl, some (.loc bag), some (.tup [s, R0]), some (.loc N), some (.loc St), some (stD3 ms ws os), x6, x7, x8, x9, x10, x11]) (lh := l) (x := R0) (k := 11) hs (by simp) (fun d l => by simp [wipeD])
  obtain ⟨lt, l2, b1, b2, b3, b4⟩ := l_of_ok (hB.gr a2) (by omega) a3 (List.length_pos_iff.mpr a4) (by omega)
  obtain ⟨q, l3, c1, c2, c3, c4, c5⟩ := l_draw_ok (n := 2) b4 (by omega) (by omega)
  have F3 : Fr bag l l3 := (a2.weak.trans b3).trans c4
  have s1 : lsA [some fl, some (.loc bag), some (.tup [s, R0]), some (.loc N), some (.loc St), some (stD3 ms ws os), x6, x7, x8, x9, x10, x11] l = .nx [some fl, some (.loc bag), some (.tup [s, R0]), some (.loc N), some (.loc St), some (stD3 ms ws os), some lt, some (.int q), x8, x9, x10, x11] l3 := by
    unfold lsA
    rw [parS_ap, consA_ap, apM_ap, consA_ap, varM_at 1 (by rfl), Re.bind_ok, consA_ap, a1, Re.bind_ok, nilA_ap, Re.bind_ok, Re.bind_ok, Re.bind_ok, b2, Re.bind_ok, consA_ap, apM_ap, consA_ap, varM_at 1 (by rfl), Re.bind_ok, consA_ap, conM_ap, Re.bind_ok, nilA_ap, Re.bind_ok, Re.bind_ok, Re.bind_ok, c3, Re.bind_ok, nilA_ap, Re.bind_ok, Re.bind_ok]
    rfl
  have N3 := Nt.fr hB F3
  have I3 := I.fr hB F3
  have hit : ItemD (.tup [lt, .int q]) := ⟨lt, q, a6 _ b1, rfl⟩
  have hit0 : ItemD (.tup [lt, .int 0]) := ⟨lt, 0, a6 _ b1, rfl⟩
  have h16 := I.n16
  have h4 := I.n4
  -- the law's send
  obtain ⟨g, O1, l4, d1, d2, d3, E, S2⟩ := l_send_ok N3 S (by omega) hit
  obtain ⟨O2, l5, e1, e2, e3⟩ := sent_ok (c := c) (I3.mono d2) S (by omega) hit E
  obtain ⟨O3, l6, f1, f2, f3⟩ := sent_ok (c := c) ((I3.mono d2).mono e2) S (by omega) hit E
  have eol := E.ol
  have eod := E.od
  have hpd := pd_state h16 (by omega) S2
  -- the pass behind it
  obtain ⟨ms2, ws2, os2, outs2, S3, ol3, od3, hlaw, hprog⟩ := passes I.part h16 S2 (by omega)
  have hpd3 := pd_state h16 (by omega) S3
  generalize enterF yss (.tup [lt, .int q]) yss.length 0 ms [] [] = R at *
  generalize stD3 R.1 (anewW R.1 ws g) (anewO R.1 os g) = T at *
  generalize stD3 ms2 ws2 os2 = T3 at *
  have g46 : Gr l4 l6 := e2.trans f2
  have s2 : lsB [some fl, some (.loc bag), some (.tup [s, R0]), some (.loc N), some (.loc St), some (stD3 ms ws os), some lt, some (.int q), x8, x9, x10, x11] l3 = .nx [some fl, some (.loc bag), some (.tup [s, R0]), some (.loc N), some (.loc St), some (stD3 ms ws os), some lt, some (.int q), some (.tup [T, .loc O1]), x9, x10, x11] l4 := by
    unfold lsB
    rw [asS_ap, apM_ap, consA_ap, varM_at 2 (by rfl), Re.bind_ok, consA_ap, varM_at 5 (by rfl), Re.bind_ok, consA_ap, varM_at 6 (by rfl), Re.bind_ok, consA_ap, varM_at 7 (by rfl), Re.bind_ok, nilA_ap, Re.bind_ok, Re.bind_ok, Re.bind_ok, Re.bind_ok, Re.bind_ok, d1, toS_ok]
    rfl
  have s3 : lsC c [some fl, some (.loc bag), some (.tup [s, R0]), some (.loc N), some (.loc St), some (stD3 ms ws os), some lt, some (.int q), some (.tup [T, .loc O1]), x9, x10, x11] l4 = .nx [some fl, some (.loc bag), some (.tup [s, R0]), some (.loc N), some (.loc St), some (stD3 ms ws os), some lt, some (.int q), some (.tup [T, .loc O1]), some (.loc l6.length), x10, x11] (l6 ++ [.lst [.tup [T, .loc O2], .tup [T, .loc O3]]]) := by
    have p1 : pick [0, 1, 2, 3] ([.loc N, stD3 ms ws os, lt] ++ [.int q]) = [.loc N, stD3 ms ws os, lt, .int q] := rfl
    have p2 : pick [2, 1, 0, 3] [lt, stD3 ms ws os, .loc N, .int q] = [.loc N, stD3 ms ws os, lt, .int q] := rfl
    unfold lsC
    rw [asS_ap, lstM_ap, consA_ap, kwM_ap, consA_ap, varM_at 3 (by rfl), Re.bind_ok, consA_ap, varM_at 5 (by rfl), Re.bind_ok, consA_ap, varM_at 6 (by rfl), Re.bind_ok, nilA_ap, Re.bind_ok, Re.bind_ok, Re.bind_ok, Re.bind_ok, consA_ap, varM_at 7 (by rfl), Re.bind_ok, nilA_ap, Re.bind_ok, Re.bind_ok, p1, e1, Re.bind_ok,
      consA_ap, kwM0_ap, consA_ap, varM_at 6 (by rfl), Re.bind_ok, consA_ap, varM_at 5 (by rfl), Re.bind_ok, consA_ap, varM_at 3 (by rfl), Re.bind_ok, consA_ap, varM_at 7 (by rfl), Re.bind_ok, nilA_ap, Re.bind_ok, Re.bind_ok, Re.bind_ok, Re.bind_ok, Re.bind_ok, p2, f1, Re.bind_ok, nilA_ap, Re.bind_ok, Re.bind_ok, Re.bind_ok, toS_ok]
    rfl
  -- the first comparison
  have m1 : (l6 ++ [Ob.lst [.tup [T, .loc O2], .tup [T, .loc O3]], .lst [.tup [T, .loc O1], .tup [T, .loc O1]]])[O1]? = some (.lst R.2.2) := get_app (g46.get d3 id)
  have m2 : (l6 ++ [Ob.lst [.tup [T, .loc O2], .tup [T, .loc O3]], .lst [.tup [T, .loc O1], .tup [T, .loc O1]]])[O2]? = some (.lst R.2.2) := get_app (f2.get e3 id)
  have m3 : (l6 ++ [Ob.lst [.tup [T, .loc O2], .tup [T, .loc O3]], .lst [.tup [T, .loc O1], .tup [T, .loc O1]]])[O3]? = some (.lst R.2.2) := get_app f3
  have sm : Sm (l6 ++ [Ob.lst [.tup [T, .loc O2], .tup [T, .loc O3]], .lst [.tup [T, .loc O1], .tup [T, .loc O1]]]) 6 (.loc l6.length) (.loc (l6.length + 1)) :=
    Sm.lstL (n := 5) (ds := [.tup [T, .loc O2], .tup [T, .loc O3]]) (es := [.tup [T, .loc O1], .tup [T, .loc O1]]) (by simp) (by simp) (by simp) ⟨sm_pair hpd m2 m1 (by omega) eod, sm_pair hpd m3 m1 (by omega) eod, trivial⟩
  obtain ⟨l7, h1, h2⟩ := same_ok sm 24 (by omega) _ .refl
  have G7 : Gr l3 l7 := ((d2.trans g46).trans (.app _ _)).trans h2
  have t1 : lsT1 [some fl, some (.loc bag), some (.tup [s, R0]), some (.loc N), some (.loc St), some (stD3 ms ws os), some lt, some (.int q), some (.tup [T, .loc O1]), some (.loc l6.length), x10, x11] (l6 ++ [.lst [.tup [T, .loc O2], .tup [T, .loc O3]]]) = .ok false l7 := by
    have hl : lstM (consA (varM 8) (consA (varM 8) (nilA))) [some fl, some (.loc bag), some (.tup [s, R0]), some (.loc N), some (.loc St), some (stD3 ms ws os), some lt, some (.int q), some (.tup [T, .loc O1]), some (.loc l6.length), x10, x11] (l6 ++ [.lst [.tup [T, .loc O2], .tup [T, .loc O3]]]) = .ok (.loc (l6.length + 1)) (l6 ++ [.lst [.tup [T, .loc O2], .tup [T, .loc O3]], .lst [.tup [T, .loc O1], .tup [T, .loc O1]]]) := by
      rw [lstM_ap, consA_ap, varM_at 8 (by rfl), Re.bind_ok, consA_ap, varM_at 8 (by rfl), Re.bind_ok, nilA_ap, Re.bind_ok, Re.bind_ok, Re.bind_ok]
      simp
    unfold lsT1
    rw [notT_ap, truM_ap, apM_ap, consA_ap, varM_at 9 (by rfl), Re.bind_ok, consA_ap, hl, Re.bind_ok, nilA_ap, Re.bind_ok, Re.bind_ok, Re.bind_ok, h1, Re.bind_ok]
    rfl
  -- the second
  obtain ⟨g0, O5, l9', i1, i2, i3, E0, S5⟩ := l_send_ok (N3.mono fun _ _ z => G7.get z id) S (by omega) hit0
  obtain ⟨O4, l8, j1, j2, j3⟩ := sent_ok (c := c) (I3.mono G7) S (by omega) hit0 E0
  obtain ⟨g0', O6, l9, k1, k2, k3, E0', S6⟩ := l_send_ok (N3.mono fun _ _ z => j2.get (G7.get z id) id) S (by omega) hit0
  have hgg : g0' = g0 := ints_inj (E0'.eq.symm.trans E0.eq)
  subst hgg
  have hpd5 := pd_state h16 (by omega) S5
  have eol0 := E0.ol
  have eod0 := E0.od
  obtain ⟨l10, n1, n2⟩ := same_pair hpd5 (k2.get j3 id) k3 (by omega) eod0
  have G10 : Gr l7 l10 := (j2.trans k2).trans n2
  have t2 : lsT2 c [some fl, some (.loc bag), some (.tup [s, R0]), some (.loc N), some (.loc St), some (stD3 ms ws os), some lt, some (.int q), some (.tup [T, .loc O1]), some (.loc l6.length), x10, x11] l7 = .ok false l10 := by
    have hdf : dfM (NP.sent c) [(.int 0)] (consA (varM 3) (consA (varM 5) (consA (varM 6) (nilA)))) [some fl, some (.loc bag), some (.tup [s, R0]), some (.loc N), some (.loc St), some (stD3 ms ws os), some lt, some (.int q), some (.tup [T, .loc O1]), some (.loc l6.length), x10, x11] l7 = sent c [.loc N, stD3 ms ws os, lt, .int 0] l7 := by
      unfold dfM
      rw [consA_ap, varM_at 3 (by rfl), Re.bind_ok, consA_ap, varM_at 5 (by rfl), Re.bind_ok, consA_ap, varM_at 6 (by rfl), Re.bind_ok, nilA_ap, Re.bind_ok, Re.bind_ok, Re.bind_ok, Re.bind_ok]
      rfl
    unfold lsT2
    rw [notT_ap, truM_ap, apM_ap, consA_ap, hdf, j1, Re.bind_ok, consA_ap, apM_ap, consA_ap, varM_at 2 (by rfl), Re.bind_ok, consA_ap, varM_at 5 (by rfl), Re.bind_ok, consA_ap, varM_at 6 (by rfl), Re.bind_ok, consA_ap, conM_ap, Re.bind_ok, nilA_ap, Re.bind_ok, Re.bind_ok, Re.bind_ok, Re.bind_ok, Re.bind_ok, k1, Re.bind_ok, nilA_ap, Re.bind_ok, Re.bind_ok, Re.bind_ok, n1, Re.bind_ok]
    rfl
  -- the pass
  have G3 : Gr l3 l10 := G7.trans G10
  obtain ⟨O7, l11, u1, u2, u3⟩ := hlaw l10 _ (N3.mono fun _ _ z => G3.get z id)
  obtain ⟨O8, l12, v1, v2, v3⟩ := hprog c l11 N LL PL HL ((I3.mono G3).mono u2)
  obtain ⟨l13, w1, w2⟩ := same_pair hpd3 v3 (v2.get u3 id) ol3 od3
  have s5 : lsE [some fl, some (.loc bag), some (.tup [s, R0]), some (.loc N), some (.loc St), some (stD3 ms ws os), some lt, some (.int q), some (.tup [T, .loc O1]), some (.loc l6.length), x10, x11] l10 = .nx [some fl, some (.loc bag), some (.tup [s, R0]), some (.loc N), some (.loc St), some (stD3 ms ws os), some lt, some (.int q), some (.tup [T, .loc O1]), some (.loc l6.length), some (.tup [T3, .loc O7]), x11] l11 := by
    unfold lsE
    rw [asS_ap, apM_ap, consA_ap, varM_at 2 (by rfl), Re.bind_ok, consA_ap, opM_ap, varM_at 8 (by rfl), Re.bind_ok, conM_ap, Re.bind_ok, ixD_tup', atI_0]
    dsimp only
    rw [Re.bind_ok, nilA_ap, Re.bind_ok, Re.bind_ok, Re.bind_ok, u1, toS_ok]
    rfl
  have t3 : lsT3 c [some fl, some (.loc bag), some (.tup [s, R0]), some (.loc N), some (.loc St), some (stD3 ms ws os), some lt, some (.int q), some (.tup [T, .loc O1]), some (.loc l6.length), some (.tup [T3, .loc O7]), x11] l11 = .ok false l13 := by
    unfold lsT3
    rw [notT_ap, truM_ap, apM_ap, consA_ap, apM_ap, consA_ap, varM_at 3 (by rfl), Re.bind_ok, consA_ap, opM_ap, varM_at 8 (by rfl), Re.bind_ok, conM_ap, Re.bind_ok, ixD_tup', atI_0]
    dsimp only
    rw [Re.bind_ok, nilA_ap, Re.bind_ok, Re.bind_ok, Re.bind_ok, v1, Re.bind_ok, consA_ap, varM_at 10 (by rfl), Re.bind_ok, nilA_ap, Re.bind_ok, Re.bind_ok, Re.bind_ok, w1, Re.bind_ok]
    rfl
  refine ⟨some lt, some (.int q), some (.tup [T, .loc O1]), some (.loc l6.length), some (.tup [T3, .loc O7]), l13, ?_, F3.trans (Ge.weak (((G3.trans u2).trans v2).trans w2)), c5.gr (((G3.trans u2).trans v2).trans w2)⟩
  unfold lsBody
  rw [seqS_ap, s1, bd_nx, seqS_ap, s2, bd_nx, seqS_ap, s3, bd_nx, seqS_ap, ifS_ap, orT_ap, t1, Re.bind_ok, if_neg Bool.false_ne_true, t2]
  show ((nxS _ _).bd _) = _
  rw [nxS_ap, bd_nx, seqS_ap, s5, bd_nx, ifS_ap, t3]
  rfl
theorem law_pure (c : CA) (ns : List Int) (h : ns.length ≤ 63) : ∃ lh', NP.law c [.fl (ns.map D.int)] [] = .ok (.bl true) lh' := by
  obtain ⟨bag, l1, a1, a2, a3, a4⟩ := l_bag_ok ns h []
  obtain ⟨s, R, yss, l2, b1, b2, b3, b4, b5, b6⟩ := l_some_net_ok a3
  obtain ⟨N, l3, LL, PL, HL, c1, c2, c3⟩ := l_net_ok (c := c) b3 b2 b4
  have N3 : NetAt l3 (.tup [s, .loc R]) yss := b3.mono fun _ _ z => c2.get z id
  have B3 := b6.gr c2
  have hbl := B3.lt
  obtain ⟨St, Wd, sts, wd, l4, d1, W, d3, d4⟩ := l_walk_ok (n := 20) N3 b2 B3 (by omega)
  have N4 := N3.fr B3 W.fr
  have I4 := c3.fr B3 W.fr
  have sl := W.sl
  obtain ⟨e', l5, p, q⟩ := forN_inv (nx := (itL (.loc St) sts).nx) (g := nmG 5) (body := lsBody c)
    (fun i e l => Fr bag l4 l ∧ Bag l bag ∧ ∃ x5 x6 x7 x8 x9 x10 x11, e = [some (.fl (ns.map D.int)), some (.loc bag), some (.tup [s, .loc R]), some (.loc N), some (.loc St), x5, x6, x7, x8, x9, x10, x11]) sts.length
    (fun i e l hi J => by
      obtain ⟨g, B, x5, x6, x7, x8, x9, x10, x11, rfl⟩ := J
      obtain ⟨y6, y7, y8, y9, y10, l', e1, e2, e3⟩ := ls_step (c := c) (St := St) (fl := .fl (ns.map D.int)) (x6 := x6) (x7 := x7) (x8 := x8) (x9 := x9) (x10 := x10) (x11 := x11) (N4.fr W.bag g) b2 (I4.fr W.bag g) B (W.ok i _ (List.getElem?_eq_getElem hi)) (by omega)
      exact ⟨sts[i], _, l', by rw [itL_nx (g.get W.st (by omega)), List.getElem?_eq_getElem hi], .inl e1, g.trans e2, e3, _, _, _, _, _, _, _, rfl⟩)
    (fun e l J => by rw [itL_nx (J.1.get W.st (by omega)), List.getElem?_eq_none (Nat.le_refl _)])
    (sts.length + 1) 0 [some (.fl (ns.map D.int)), some (.loc bag), some (.tup [s, .loc R]), some (.loc N), some (.loc St), none, none, none, none, none, none, none] l4 (by omega) (by omega) ⟨.refl, W.bag, _, _, _, _, _, _, _, rfl⟩
  obtain ⟨g5, B5, x5, x6, x7, x8, x9, x10, x11, rfl⟩ := q
  refine ⟨l5, ?_⟩
  have hst : stD 12 [.fl (ns.map D.int)] = [some (.fl (ns.map D.int)), none, none, none, none, none, none, none, none, none, none, none] := by simp
  have t1 : asS (apM NP.l_bag (consA (varM 0) (nilA))) (nmG 1) [some (.fl (ns.map D.int)), none, none, none, none, none, none, none, none, none, none, none] [] = .nx [some (.fl (ns.map D.int)), some (.loc bag), none, none, none, none, none, none, none, none, none, none] l1 := by
    rw [asS_ap, apM_ap, consA_ap, varM_at 0 (by rfl), Re.bind_ok, nilA_ap, Re.bind_ok, Re.bind_ok, a1, toS_ok, nmG_ap]
    rfl
  have t2 : asS (apM NP.l_some_net (consA (varM 1) (consA (conM (.int 3)) (consA (conM (.int 4)) (consA (conM (.int 6)) (nilA)))))) (nmG 2) [some (.fl (ns.map D.int)), some (.loc bag), none, none, none, none, none, none, none, none, none, none] l1 = .nx [some (.fl (ns.map D.int)), some (.loc bag), some (.tup [s, .loc R]), none, none, none, none, none, none, none, none, none] l2 := by
    rw [asS_ap, apM_ap, consA_ap, varM_at 1 (by rfl), Re.bind_ok, consA_ap, conM_ap, Re.bind_ok, consA_ap, conM_ap, Re.bind_ok, consA_ap, conM_ap, Re.bind_ok, nilA_ap, Re.bind_ok, Re.bind_ok, Re.bind_ok, Re.bind_ok, Re.bind_ok, b1, toS_ok, nmG_ap]
    rfl
  have t3 : parS 3 4 (consA (apM (NP.l_net c) (consA (varM 2) (nilA))) (consA (opM ixD (apM NP.l_walk (consA (varM 1) (consA (varM 2) (consA (conM (.int 20)) (nilA))))) (conM (.int 0))) (nilA))) [some (.fl (ns.map D.int)), some (.loc bag), some (.tup [s, .loc R]), none, none, none, none, none, none, none, none, none] l2 = .nx [some (.fl (ns.map D.int)), some (.loc bag), some (.tup [s, .loc R]), some (.loc N), some (.loc St), none, none, none, none, none, none, none] l4 := by
    have d1' : l_walk [.loc bag, .tup [s, .loc R], .int 20] l3 = .ok (.tup [.loc St, .loc Wd]) l4 := d1
    rw [parS_ap, consA_ap, apM_ap, consA_ap, varM_at 2 (by rfl), Re.bind_ok, nilA_ap, Re.bind_ok, Re.bind_ok, c1, Re.bind_ok, consA_ap, opM_ap, apM_ap, consA_ap, varM_at 1 (by rfl), Re.bind_ok, consA_ap, varM_at 2 (by rfl), Re.bind_ok, consA_ap, conM_ap, Re.bind_ok, nilA_ap, Re.bind_ok, Re.bind_ok, Re.bind_ok, Re.bind_ok, d1', Re.bind_ok, conM_ap, Re.bind_ok, ixD_tup', atI_0, Re.bind_ok, nilA_ap, Re.bind_ok, Re.bind_ok]
    rfl
  have hit : seqI (varM 4) [some (.fl (ns.map D.int)), some (.loc bag), some (.tup [s, .loc R]), some (.loc N), some (.loc St), none, none, none, none, none, none, none] l4 = .ok (itL (.loc St) sts) l4 := seqI_loc (by simp) W.st
  have hfu : (itL (.loc St) sts).fuel = sts.length + 1 := rfl
  rw [law_eq, fnM_ap, hst, seqS_ap, t1, bd_nx, seqS_ap, t2, bd_nx, seqS_ap, t3, bd_nx, seqS_ap, forS_ap, hit, toSI_ok, hfu, p, bd_nx]
  rfl
end NP
set_option maxRecDepth 100000
set_option maxHeartbeats 4000000
namespace Lw
open PySem PySem.Spec L2 NL
def top (i : Nat) : Stmt := PySem.Challenge.pw_newslate_k22_whole_sends.main.body.getD i (.Pass ⟨0, 0, 0, 0⟩)
abbrev s__law_bag : Stmt := top 46
abbrev s__law_draw : Stmt := top 47
abbrev s_is_letter : Stmt := top 15
abbrev s_are_letters : Stmt := top 16
abbrev s_is_listed : Stmt := top 17
abbrev s_is_number : Stmt := top 13
abbrev s_is_between : Stmt := top 14
abbrev s_is_part : Stmt := top 18
abbrev s_is_line : Stmt := top 30
abbrev s_is_timed : Stmt := top 19
abbrev s_Net___init__ : Stmt := inCls (top 33) 1
abbrev s__law_net : Stmt := top 54
abbrev s__law_of : Stmt := top 48
abbrev s__law_parts : Stmt := top 55
abbrev s__law_anew : Stmt := top 64
abbrev s__law_timed : Stmt := top 51
abbrev s__law_wait : Stmt := top 53
abbrev s__law_due_places : Stmt := top 66
abbrev s__law_came : Stmt := top 58
abbrev s__law_homes : Stmt := top 56
abbrev s__law_down : Stmt := top 60
abbrev s__law_rang : Stmt := top 59
abbrev s__law_fire : Stmt := top 62
abbrev s__law_older_state : Stmt := top 65
abbrev s__law_pass : Stmt := top 67
abbrev s__law_same : Stmt := top 50
abbrev s__law_enter : Stmt := top 61
abbrev s__law_send : Stmt := top 68
abbrev s__law_mixed : Stmt := top 49
abbrev s__law_some_part : Stmt := top 52
abbrev s__law_some_net : Stmt := top 57
abbrev s__law_first : Stmt := top 63
abbrev s__law_move : Stmt := top 69
abbrev s__law_tries : Stmt := top 70
abbrev s__law_walk : Stmt := top 71
abbrev s_aged : Stmt := top 42
abbrev s_Net___len__ : Stmt := inCls (top 33) 16
abbrev s_wait_of : Stmt := top 20
abbrev s_due_place : Stmt := top 39
abbrev s_Net_place_of : Stmt := inCls (top 33) 9
abbrev s_timed_came : Stmt := top 24
abbrev s_came : Stmt := top 23
abbrev s_came_at : Stmt := top 35
abbrev s_put_in : Stmt := top 34
abbrev s_rang : Stmt := top 25
abbrev s_fired : Stmt := top 37
abbrev s_restarted : Stmt := top 40
abbrev s_settled : Stmt := top 41
abbrev s_passed : Stmt := top 43
abbrev s_entered : Stmt := top 36
abbrev s_sent : Stmt := top 44
abbrev s_law : Stmt := top 72
structure Tx (K : PySem.W.Frag) (mg : Str → Option Value) : Prop where
  n_all : mg "all" = none
  n_bool : mg "bool" = none
  n_enumerate : mg "enumerate" = none
  n_int : mg "int" = none
  n_isinstance : mg "isinstance" = none
  n_len : mg "len" = none
  n_list : mg "list" = none
  n_range : mg "range" = none
  n_set : mg "set" = none
  n_sorted : mg "sorted" = none
  n_str : mg "str" = none
  n_sum : mg "sum" = none
  n_tuple : mg "tuple" = none
  n_zip : mg "zip" = none
  g_LETTERS : GlobD K mg "LETTERS" (.str (PySem.Str.ofString "abc"))
  g_LONGEST : GlobD K mg "LONGEST" (.int 9)
  g_MOST_LINES : GlobD K mg "MOST_LINES" (.int 4)
  g_MOST_PARTS : GlobD K mg "MOST_PARTS" (.int 4)
  g_MOST_TIMERS : GlobD K mg "MOST_TIMERS" (.int 6)
  g_RESTING : GlobD K mg "RESTING" (.tup [(.bl false), .non])
  g_TIMED : GlobD K mg "TIMED" (.tup [(.str (PySem.Str.ofString "quiet")), (.str (PySem.Str.ofString "first")), (.str (PySem.Str.ofString "late")), (.str (PySem.Str.ofString "hold")), (.str (PySem.Str.ofString "both")), (.str (PySem.Str.ofString "again"))])
  m_Net : mg "Net" = some (.ref (cOf mg "Net"))
  cls_Net : Cls K (cOf mg "Net")
  fld_Net_homes : ClsF K (cOf mg "Net") "homes"
  fld_Net_line_list : ClsF K (cOf mg "Net") "line_list"
  fld_Net_own_letters : ClsF K (cOf mg "Net") "own_letters"
  fld_Net_part_list : ClsF K (cOf mg "Net") "part_list"
  f__law_bag : FnF K mg "_law_bag" s__law_bag
  f__law_draw : FnF K mg "_law_draw" s__law_draw
  f_is_letter : FnF K mg "is_letter" s_is_letter
  f_are_letters : FnF K mg "are_letters" s_are_letters
  f_is_listed : FnF K mg "is_listed" s_is_listed
  f_is_number : FnF K mg "is_number" s_is_number
  f_is_between : FnF K mg "is_between" s_is_between
  f_is_part : FnF K mg "is_part" s_is_part
  f_is_line : FnF K mg "is_line" s_is_line
  f_is_timed : FnF K mg "is_timed" s_is_timed
  f_Net___init__ : FnIF K (cOf mg "Net") "Net.__init__" s_Net___init__
  f__law_net : FnF K mg "_law_net" s__law_net
  f__law_of : FnF K mg "_law_of" s__law_of
  f__law_parts : FnF K mg "_law_parts" s__law_parts
  f__law_anew : FnF K mg "_law_anew" s__law_anew
  f__law_timed : FnF K mg "_law_timed" s__law_timed
  f__law_wait : FnF K mg "_law_wait" s__law_wait
  f__law_due_places : FnF K mg "_law_due_places" s__law_due_places
  f__law_came : FnF K mg "_law_came" s__law_came
  f__law_homes : FnF K mg "_law_homes" s__law_homes
  f__law_down : FnF K mg "_law_down" s__law_down
  f__law_rang : FnF K mg "_law_rang" s__law_rang
  f__law_fire : FnF K mg "_law_fire" s__law_fire
  f__law_older_state : FnF K mg "_law_older_state" s__law_older_state
  f__law_pass : FnF K mg "_law_pass" s__law_pass
  f__law_same : FnF K mg "_law_same" s__law_same
  f__law_enter : FnF K mg "_law_enter" s__law_enter
  f__law_send : FnF K mg "_law_send" s__law_send
  f__law_mixed : FnF K mg "_law_mixed" s__law_mixed
  f__law_some_part : FnF K mg "_law_some_part" s__law_some_part
  f__law_some_net : FnF K mg "_law_some_net" s__law_some_net
  f__law_first : FnF K mg "_law_first" s__law_first
  f__law_move : FnF K mg "_law_move" s__law_move
  f__law_tries : FnF K mg "_law_tries" s__law_tries
  f__law_walk : FnF K mg "_law_walk" s__law_walk
  f_aged : FnF K mg "aged" s_aged
  f_Net___len__ : FnCF K (cOf mg "Net") "__len__" "Net.__len__" s_Net___len__
  f_wait_of : FnF K mg "wait_of" s_wait_of
  f_due_place : FnF K mg "due_place" s_due_place
  f_Net_place_of : FnCF K (cOf mg "Net") "place_of" "Net.place_of" s_Net_place_of
  f_timed_came : FnF K mg "timed_came" s_timed_came
  f_came : FnF K mg "came" s_came
  f_came_at : FnF K mg "came_at" s_came_at
  f_put_in : FnF K mg "put_in" s_put_in
  f_rang : FnF K mg "rang" s_rang
  f_fired : FnF K mg "fired" s_fired
  f_restarted : FnF K mg "restarted" s_restarted
  f_settled : FnF K mg "settled" s_settled
  f_passed : FnF K mg "passed" s_passed
  f_entered : FnF K mg "entered" s_entered
  f_sent : FnDF K mg "sent" s_sent [("mark", V.int 0)]
  f_law : FnF K mg "law" s_law
section
variable {P : Program} {w : World} {K : PySem.W.Frag} {mg : Str → Option Value} {base : Heap}
theorem sc__law_bag : FnScope ["_law_script", "_law_mixed_here", "_law_cell"] ["_law_script"] (defScope s__law_bag) := ⟨rfl, rfl, rfl, by decide +kernel, rfl, by decide +kernel, by decide +kernel⟩
theorem ok__law_bag (T : Tx K mg) : FnS P w K mg base "_law_bag" s__law_bag ["_law_script"] 1 NP.l_bag := by
  refine fnS_of T.f__law_bag sc__law_bag (fun _ _ _ _ _ _ us hl => match us, hl with | [_], _ => rfl) fun f cdv A outer s H E o => ?_
  exact dss_cons (ds_set (i := 1) o.nd (de_int))
      (dss_cons (ds_for o (di_seq (de_sl (de_var 0) (do_none) (do_some (de_int)))) (dg_name (i := 2) o.nd) (gd_nm) (dss_one (ds_set (i := 1) o.nd (de_op o_mod (de_callTy c_int T.n_int (by decide +kernel) (da_cons (de_op o_add (de_op o_add (de_op o_mul (de_var 1) (de_int)) (de_op o_mod (de_callTy c_int T.n_int (by decide +kernel) (da_cons (de_var 2) (da_nil))) (de_int))) (de_int)) (da_nil))) (de_int)))))
      (dss_one (ds_ret (de_lst (da_cons (de_callTy c_list T.n_list (by decide +kernel) (da_cons (de_sl (de_var 0) (do_none) (do_some (de_int))) (da_nil))) (da_cons (de_int) (da_cons (de_int) (da_cons (de_var 1) (da_cons (de_int) (da_nil))))))))))
theorem sc__law_draw : FnScope ["_law_bag_here", "_law_many", "_law_cell", "_law_digit", "_law_seed"] ["_law_bag_here", "_law_many"] (defScope s__law_draw) := ⟨rfl, rfl, rfl, by decide +kernel, rfl, by decide +kernel, by decide +kernel⟩
theorem ok__law_draw (T : Tx K mg) : FnS P w K mg base "_law_draw" s__law_draw ["_law_bag_here", "_law_many"] 1 NP.l_draw := by
  refine fnS_of T.f__law_draw sc__law_draw (fun _ _ _ _ _ _ us hl => match us, hl with | [_, _], _ => rfl) fun f cdv A outer s H E o => ?_
  exact dss_cons (ds_asg (de_op o_add (de_ix (de_var 0) (de_int)) (de_int)) (dg_sub (de_var 0) (de_int)) (gd_sub))
      (dss_cons (ds_if (dt_w (dw_and (dt_cmp (o_eq o) (de_ix (de_var 0) (de_int)) (de_int)) (dw_and1 (dt_cmp o_lt (de_ix (de_var 0) (de_int)) (de_callB c_len T.n_len (by decide +kernel) (da_cons (de_ix (de_var 0) (de_int)) (da_nil))))))) (dss_cons (ds_set (i := 2) o.nd (de_ix (de_ix (de_var 0) (de_int)) (de_ix (de_var 0) (de_int))))
      (dss_cons (ds_asg (de_op o_add (de_ix (de_var 0) (de_int)) (de_int)) (dg_sub (de_var 0) (de_int)) (gd_sub))
      (dss_one (ds_if (dt_cmp o_ge (de_var 2) (de_op o_pow (de_int) (de_int))) (dss_one (ds_asg (de_var 2) (dg_sub (de_var 0) (de_int)) (gd_sub))) (dss_one (ds_asg (de_op o_mod (de_callTy c_int T.n_int (by decide +kernel) (da_cons (de_op o_add (de_op o_add (de_op o_mul (de_ix (de_var 0) (de_int)) (de_int)) (de_op o_mul (de_op o_mod (de_callTy c_int T.n_int (by decide +kernel) (da_cons (de_var 2) (da_nil))) (de_int)) (de_int))) (de_int)) (da_nil))) (de_int)) (dg_sub (de_var 0) (de_int)) (gd_sub))))))) (dss_nil))
      (dss_cons (ds_if (dt_cmp o_gt (de_ix (de_var 0) (de_int)) (de_int)) (dss_cons (ds_set (i := 3) o.nd (de_op o_mod (de_callTy c_int T.n_int (by decide +kernel) (da_cons (de_ix (de_var 0) (de_int)) (da_nil))) (de_var 1)))
      (dss_cons (ds_asg (de_op o_fdiv (de_ix (de_var 0) (de_int)) (de_var 1)) (dg_sub (de_var 0) (de_int)) (gd_sub))
      (dss_one (ds_ret (de_var 3))))) (dss_nil))
      (dss_cons (ds_set (i := 4) o.nd (de_callTy c_int T.n_int (by decide +kernel) (da_cons (de_ix (de_var 0) (de_int)) (da_nil))))
      (dss_cons (ds_asg (de_op o_mod (de_callTy c_int T.n_int (by decide +kernel) (da_cons (de_op o_add (de_op o_add (de_op o_add (de_op o_pow (de_var 4) (de_int)) (de_op o_mul (de_var 4) (de_int))) (de_op o_mul (de_ix (de_var 0) (de_int)) (de_int))) (de_int)) (da_nil))) (de_int)) (dg_sub (de_var 0) (de_int)) (gd_sub))
      (dss_one (ds_ret (de_op o_mod (de_callTy c_int T.n_int (by decide +kernel) (da_cons (de_op o_add (de_op o_fdiv (de_ix (de_var 0) (de_int)) (de_int)) (de_op o_mul (de_op o_mod (de_callTy c_int T.n_int (by decide +kernel) (da_cons (de_ix (de_var 0) (de_int)) (da_nil))) (de_int)) (de_int))) (da_nil))) (de_var 1))))))))
theorem sc_is_letter : FnScope ["value"] ["value"] (defScope s_is_letter) := ⟨rfl, rfl, rfl, by decide +kernel, rfl, by decide +kernel, by decide +kernel⟩
theorem ok_is_letter (T : Tx K mg) : FnS P w K mg base "is_letter" s_is_letter ["value"] 1 NP.is_letter := by
  refine fnS_of T.f_is_letter sc_is_letter (fun _ _ _ _ _ _ us hl => match us, hl with | [_], _ => rfl) fun f cdv A outer s H E o => ?_
  exact dss_one (ds_ret (de_and (de_callB c_isi T.n_isinstance (by decide +kernel) (da_cons (de_var 0) (da_cons (de_bty T.n_str (by decide +kernel)) (da_nil)))) (de_and (de_cmp (o_eq o) (de_callB c_len T.n_len (by decide +kernel) (da_cons (de_var 0) (da_nil))) (de_int)) (de_one (de_cmp (o_in o) (de_var 0) (de_g T.g_LETTERS))))))
theorem sc_are_letters : FnScope ["value", "sign"] ["value"] (defScope s_are_letters) := ⟨rfl, rfl, rfl, by decide +kernel, rfl, by decide +kernel, by decide +kernel⟩
theorem ok_are_letters (T : Tx K mg) : FnS P w K mg base "are_letters" s_are_letters ["value"] 2 NP.are_letters := by
  refine fnS_of T.f_are_letters sc_are_letters (fun _ _ _ _ _ _ us hl => match us, hl with | [_], _ => rfl) fun f cdv A outer s H E o => ?_
  exact dss_cons (ds_if (dt_w (dw_or (dt_not (dt_tru (de_callB c_isi T.n_isinstance (by decide +kernel) (da_cons (de_var 0) (da_cons (de_bty T.n_str (by decide +kernel)) (da_nil)))))) (dw_or (dt_cmp (o_eq o) (de_var 0) (de_str)) (dw_or1 (dt_not (dt_tru (de_callB (c_all o) T.n_all (by decide +kernel) (da_cons (de_lc [("sign", 1)] o (di_seq (de_var 0)) (fun _ _ _ _ _ o' => dg_name (i := 1) o'.nd) (gd_nm) (fun _ _ _ _ _ o' => dts_nil) (fun _ _ _ _ _ o' => de_fn o' (ok_is_letter T) (by decide) (da_cons (de_var 1) (da_nil)))) (da_nil))))))))) (dss_one (ds_ret (de_bl))) (dss_nil))
      (dss_one (ds_ret (de_cmp (o_eq o) (de_mt PySem.F.plainAttrs_str PySem.F.slot_str_join PySem.F.type_str_join m_join (de_str) (da_cons (de_srt o (de_var 0) T.n_sorted T.n_set) (da_nil))) (de_var 0))))
theorem sc_is_listed : FnScope ["value"] ["value"] (defScope s_is_listed) := ⟨rfl, rfl, rfl, by decide +kernel, rfl, by decide +kernel, by decide +kernel⟩
theorem ok_is_listed (T : Tx K mg) : FnS P w K mg base "is_listed" s_is_listed ["value"] 1 NP.is_listed := by
  refine fnS_of T.f_is_listed sc_is_listed (fun _ _ _ _ _ _ us hl => match us, hl with | [_], _ => rfl) fun f cdv A outer s H E o => ?_
  exact dss_one (ds_ret (de_callB c_isi T.n_isinstance (by decide +kernel) (da_cons (de_var 0) (da_cons (de_tup (da_cons (de_bty T.n_list (by decide +kernel)) (da_cons (de_bty T.n_tuple (by decide +kernel)) (da_nil)))) (da_nil)))))
theorem sc_is_number : FnScope ["value"] ["value"] (defScope s_is_number) := ⟨rfl, rfl, rfl, by decide +kernel, rfl, by decide +kernel, by decide +kernel⟩
theorem ok_is_number (T : Tx K mg) : FnS P w K mg base "is_number" s_is_number ["value"] 1 NP.is_number := by
  refine fnS_of T.f_is_number sc_is_number (fun _ _ _ _ _ _ us hl => match us, hl with | [_], _ => rfl) fun f cdv A outer s H E o => ?_
  exact dss_one (ds_ret (de_and (de_callB c_isi T.n_isinstance (by decide +kernel) (da_cons (de_var 0) (da_cons (de_bty T.n_int (by decide +kernel)) (da_nil)))) (de_one (de_not (de_callB c_isi T.n_isinstance (by decide +kernel) (da_cons (de_var 0) (da_cons (de_bty T.n_bool (by decide +kernel)) (da_nil))))))))
theorem sc_is_between : FnScope ["value", "low", "high"] ["value", "low", "high"] (defScope s_is_between) := ⟨rfl, rfl, rfl, by decide +kernel, rfl, by decide +kernel, by decide +kernel⟩
theorem ok_is_between (T : Tx K mg) : FnS P w K mg base "is_between" s_is_between ["value", "low", "high"] 2 NP.is_between := by
  refine fnS_of T.f_is_between sc_is_between (fun _ _ _ _ _ _ us hl => match us, hl with | [_, _, _], _ => rfl) fun f cdv A outer s H E o => ?_
  exact dss_one (ds_ret (de_and (de_fn o (ok_is_number T) (by decide) (da_cons (de_var 0) (da_nil))) (de_one (de_chain o_le o_le (de_var 1) (de_var 0) (de_var 2)))))
theorem sc_is_part : FnScope ["value"] ["value"] (defScope s_is_part) := ⟨rfl, rfl, rfl, by decide +kernel, rfl, by decide +kernel, by decide +kernel⟩
theorem ok_is_part (T : Tx K mg) : FnS P w K mg base "is_part" s_is_part ["value"] 3 NP.is_part := by
  refine fnS_of T.f_is_part sc_is_part (fun _ _ _ _ _ _ us hl => match us, hl with | [_], _ => rfl) fun f cdv A outer s H E o => ?_
  exact dss_cons (ds_if (dt_w (dw_or (dt_not (dt_tru (de_callB c_isi T.n_isinstance (by decide +kernel) (da_cons (de_var 0) (da_cons (de_bty T.n_tuple (by decide +kernel)) (da_nil)))))) (dw_or (dt_cmp (o_eq o) (de_var 0) (de_tup (da_nil))) (dw_or1 (dt_not (dt_tru (de_callB c_isi T.n_isinstance (by decide +kernel) (da_cons (de_ix (de_var 0) (de_int)) (da_cons (de_bty T.n_str (by decide +kernel)) (da_nil)))))))))) (dss_one (ds_ret (de_bl))) (dss_nil))
      (dss_cons (ds_if (dt_cmp (o_in o) (de_ix (de_var 0) (de_int)) (de_g T.g_TIMED)) (dss_one (ds_ret (de_and (de_cmp (o_eq o) (de_callB c_len T.n_len (by decide +kernel) (da_cons (de_var 0) (da_nil))) (de_int)) (de_one (de_fn o (ok_is_between T) (by decide) (da_cons (de_ix (de_var 0) (de_int)) (da_cons (de_int) (da_cons (de_g T.g_LONGEST) (da_nil))))))))) (dss_nil))
      (dss_cons (ds_if (dt_cmp (o_eq o) (de_ix (de_var 0) (de_int)) (de_str)) (dss_one (ds_ret (de_and (de_cmp (o_eq o) (de_callB c_len T.n_len (by decide +kernel) (da_cons (de_var 0) (da_nil))) (de_int)) (de_one (de_fn o (ok_are_letters T) (by decide) (da_cons (de_ix (de_var 0) (de_int)) (da_nil))))))) (dss_nil))
      (dss_cons (ds_if (dt_cmp (o_eq o) (de_ix (de_var 0) (de_int)) (de_str)) (dss_one (ds_ret (de_and (de_cmp (o_eq o) (de_callB c_len T.n_len (by decide +kernel) (da_cons (de_var 0) (da_nil))) (de_int)) (de_and (de_fn o (ok_is_letter T) (by decide) (da_cons (de_ix (de_var 0) (de_int)) (da_nil))) (de_and (de_fn o (ok_is_letter T) (by decide) (da_cons (de_ix (de_var 0) (de_int)) (da_nil))) (de_one (de_cmp (o_ne o) (de_ix (de_var 0) (de_int)) (de_ix (de_var 0) (de_int))))))))) (dss_nil))
      (dss_one (ds_ret (de_cmp (o_eq o) (de_var 0) (de_tup (da_cons (de_str) (da_nil)))))))))
theorem sc_is_line : FnScope ["value", "part"] ["value"] (defScope s_is_line) := ⟨rfl, rfl, rfl, by decide +kernel, rfl, by decide +kernel, by decide +kernel⟩
theorem ok_is_line (T : Tx K mg) : FnS P w K mg base "is_line" s_is_line ["value"] 4 NP.is_line := by
  refine fnS_of T.f_is_line sc_is_line (fun _ _ _ _ _ _ us hl => match us, hl with | [_], _ => rfl) fun f cdv A outer s H E o => ?_
  exact dss_one (ds_ret (de_and (de_fn o (ok_is_listed T) (by decide) (da_cons (de_var 0) (da_nil))) (de_and (de_cmp o_le (de_callB c_len T.n_len (by decide +kernel) (da_cons (de_var 0) (da_nil))) (de_g T.g_MOST_PARTS)) (de_one (de_callB (c_all o) T.n_all (by decide +kernel) (da_cons (de_lc [("part", 1)] o (di_seq (de_var 0)) (fun _ _ _ _ _ o' => dg_name (i := 1) o'.nd) (gd_nm) (fun _ _ _ _ _ o' => dts_nil) (fun _ _ _ _ _ o' => de_fn o' (ok_is_part T) (by decide) (da_cons (de_var 1) (da_nil)))) (da_nil)))))))
theorem sc_is_timed : FnScope ["part"] ["part"] (defScope s_is_timed) := ⟨rfl, rfl, rfl, by decide +kernel, rfl, by decide +kernel, by decide +kernel⟩
theorem ok_is_timed (T : Tx K mg) : FnS P w K mg base "is_timed" s_is_timed ["part"] 1 NP.is_timed := by
  refine fnS_of T.f_is_timed sc_is_timed (fun _ _ _ _ _ _ us hl => match us, hl with | [_], _ => rfl) fun f cdv A outer s H E o => ?_
  exact dss_one (ds_ret (de_cmp (o_in o) (de_ix (de_var 0) (de_int)) (de_g T.g_TIMED)))
theorem sc_Net___init__ : FnScope ["self", "letters", "lines", "at", "line", "found", "part"] ["self", "letters", "lines"] (defScope s_Net___init__) := ⟨rfl, rfl, rfl, by decide +kernel, rfl, by decide +kernel, by decide +kernel⟩
theorem ok_Net___init__ (T : Tx K mg) : FnI2 P w K mg base (cOf mg "Net") "letters" 5 (NP.Net___init__ (cOf mg)) := by
  refine fnI2_of T.f_Net___init__ sc_Net___init__ (fun _ _ _ _ _ _ _ _ us => match us with | [] => rfl | _ :: _ => rfl) fun f cdv A outer s H E o => ?_
  exact dss_cons (ds_for o (di_enumA (da_cons (de_var 2) (da_nil)) T.n_enumerate) (dg_tup o.calm (dgs_cons (dg_name (i := 3) o.nd) (dgs_cons (dg_name (i := 4) o.nd) (dgs_nil)))) (gd_tup (gds_cons gd_nm (gds_cons gd_nm (gds_nil)))) (dss_one (ds_if (dt_not (dt_tru (de_fn o (ok_is_line T) (by decide) (da_cons (de_var 4) (da_nil))))) (dss_one (ds_bad)) (dss_nil))))
      (dss_cons (ds_if (dt_cmp o_gt (de_callB c_len T.n_len (by decide +kernel) (da_cons (de_var 2) (da_nil))) (de_g T.g_MOST_LINES)) (dss_one (ds_bad)) (dss_nil))
      (dss_cons (ds_if (dt_cmp (o_eq o) (de_callB c_len T.n_len (by decide +kernel) (da_cons (de_var 2) (da_nil))) (de_int)) (dss_one (ds_bad)) (dss_nil))
      (dss_cons (ds_setLc (i := 5) [("line", 4)] o (di_seq (de_var 2)) (fun _ _ _ _ _ o' => dg_name (i := 4) o'.nd) (gd_nm) (fun _ _ _ _ _ o' => dts_nil) (fun _ _ _ _ _ o' => de_callTy c_list T.n_list (by decide +kernel) (da_cons (de_var 4) (da_nil))))
      (dss_cons (ds_if (dt_cmp o_gt (de_callB c_len T.n_len (by decide +kernel) (da_cons (de_lc2 [("line", 4), ("part", 6)] [("part", 6)] o (di_seq (de_var 5)) (fun _ _ _ _ _ o' => dg_name (i := 4) o'.nd) (gd_nm) (fun _ _ _ _ _ o' => dts_nil) (fun _ _ _ _ _ o' => di_seq (de_var 4)) (fun _ _ _ _ _ o' => dg_name (i := 6) o'.nd) (gd_nm) (fun _ _ _ _ _ o' => dts_one (dt_tru (de_fn o' (ok_is_timed T) (by decide) (da_cons (de_var 6) (da_nil))))) (fun _ _ _ _ _ o' => de_var 6)) (da_nil))) (de_g T.g_MOST_TIMERS)) (dss_one (ds_bad)) (dss_nil))
      (dss_cons (ds_if (dt_not (dt_tru (de_fn o (ok_are_letters T) (by decide) (da_cons (de_var 1) (da_nil))))) (dss_one (ds_bad)) (dss_nil))
      (dss_cons (ds_fld T.fld_Net_line_list (de_var 0) (de_var 5))
      (dss_cons (ds_fld T.fld_Net_own_letters (de_var 0) (de_var 1))
      (dss_cons (ds_fld T.fld_Net_part_list (de_var 0) (de_lc2 [("line", 4), ("part", 6)] [("part", 6)] o (di_seq (de_var 5)) (fun _ _ _ _ _ o' => dg_name (i := 4) o'.nd) (gd_nm) (fun _ _ _ _ _ o' => dts_nil) (fun _ _ _ _ _ o' => di_seq (de_var 4)) (fun _ _ _ _ _ o' => dg_name (i := 6) o'.nd) (gd_nm) (fun _ _ _ _ _ o' => dts_nil) (fun _ _ _ _ _ o' => de_var 6)))
      (dss_one (ds_fld T.fld_Net_homes (de_var 0) (de_lc2 [("at", 3), ("line", 4), ("part", 6)] [("part", 6)] o (di_enumA (da_cons (de_var 5) (da_nil)) T.n_enumerate) (fun _ _ _ _ _ o' => dg_tup o'.calm (dgs_cons (dg_name (i := 3) o'.nd) (dgs_cons (dg_name (i := 4) o'.nd) (dgs_nil)))) (gd_tup (gds_cons gd_nm (gds_cons gd_nm (gds_nil)))) (fun _ _ _ _ _ o' => dts_nil) (fun _ _ _ _ _ o' => di_seq (de_var 4)) (fun _ _ _ _ _ o' => dg_name (i := 6) o'.nd) (gd_nm) (fun _ _ _ _ _ o' => dts_nil) (fun _ _ _ _ _ o' => de_var 3))))))))))))
theorem sc__law_net : FnScope ["_law_b", "_law_rows", "_law_line"] ["_law_b"] (defScope s__law_net) := ⟨rfl, rfl, rfl, by decide +kernel, rfl, by decide +kernel, by decide +kernel⟩
theorem ok__law_net (T : Tx K mg) : FnS P w K mg base "_law_net" s__law_net ["_law_b"] 7 (NP.l_net (cOf mg)) := by
  refine fnS_of T.f__law_net sc__law_net (fun _ _ _ _ _ _ us hl => match us, hl with | [_], _ => rfl) fun f cdv A outer s H E o => ?_
  exact dss_cons (ds_setLc (i := 1) [("_law_line", 2)] o (di_seq (de_ix (de_var 0) (de_int))) (fun _ _ _ _ _ o' => dg_name (i := 2) o'.nd) (gd_nm) (fun _ _ _ _ _ o' => dts_nil) (fun _ _ _ _ _ o' => de_callTy c_list T.n_list (by decide +kernel) (da_cons (de_var 2) (da_nil))))
      (dss_cons (ds_if (dt_cmp (o_eq o) (de_callB c_len T.n_len (by decide +kernel) (da_cons (de_var 1) (da_nil))) (de_int)) (dss_one (ds_ret (de_new o (ok_Net___init__ T) (by decide) T.m_Net (da_cons (de_ix (de_var 1) (de_int)) (da_nil)) (dk_cons (de_ix (de_var 0) (de_int)) (dk_nil))))) (dss_nil))
      (dss_cons (ds_if (dt_cmp (o_eq o) (de_callB c_len T.n_len (by decide +kernel) (da_cons (de_var 1) (da_nil))) (de_int)) (dss_one (ds_ret (de_new o (ok_Net___init__ T) (by decide) T.m_Net (da_cons (de_ix (de_var 1) (de_int)) (da_cons (de_ix (de_var 1) (de_int)) (da_nil))) (dk_cons (de_ix (de_var 0) (de_int)) (dk_nil))))) (dss_nil))
      (dss_cons (ds_if (dt_cmp (o_eq o) (de_callB c_len T.n_len (by decide +kernel) (da_cons (de_var 1) (da_nil))) (de_int)) (dss_one (ds_ret (de_new o (ok_Net___init__ T) (by decide) T.m_Net (da_cons (de_ix (de_var 1) (de_int)) (da_cons (de_ix (de_var 1) (de_int)) (da_cons (de_ix (de_var 1) (de_int)) (da_nil)))) (dk_cons (de_ix (de_var 0) (de_int)) (dk_nil))))) (dss_nil))
      (dss_one (ds_ret (de_new o (ok_Net___init__ T) (by decide) T.m_Net (da_cons (de_ix (de_var 1) (de_int)) (da_cons (de_ix (de_var 1) (de_int)) (da_cons (de_ix (de_var 1) (de_int)) (da_cons (de_ix (de_var 1) (de_int)) (da_nil))))) (dk_cons (de_ix (de_var 0) (de_int)) (dk_nil))))))))
theorem sc__law_of : FnScope ["_law_bag_here", "_law_some"] ["_law_bag_here", "_law_some"] (defScope s__law_of) := ⟨rfl, rfl, rfl, by decide +kernel, rfl, by decide +kernel, by decide +kernel⟩
theorem ok__law_of (T : Tx K mg) : FnS P w K mg base "_law_of" s__law_of ["_law_bag_here", "_law_some"] 2 NP.l_of := by
  refine fnS_of T.f__law_of sc__law_of (fun _ _ _ _ _ _ us hl => match us, hl with | [_, _], _ => rfl) fun f cdv A outer s H E o => ?_
  exact dss_one (ds_ret (de_ix (de_var 1) (de_fn o (ok__law_draw T) (by decide) (da_cons (de_var 0) (da_cons (de_callB c_len T.n_len (by decide +kernel) (da_cons (de_var 1) (da_nil))) (da_nil))))))
theorem sc__law_parts : FnScope ["_law_b"] ["_law_b"] (defScope s__law_parts) := ⟨rfl, rfl, rfl, by decide +kernel, rfl, by decide +kernel, by decide +kernel⟩
theorem ok__law_parts (T : Tx K mg) : FnS P w K mg base "_law_parts" s__law_parts ["_law_b"] 1 NP.l_parts := by
  refine fnS_of T.f__law_parts sc__law_parts (fun _ _ _ _ _ _ us hl => match us, hl with | [_], _ => rfl) fun f cdv A outer s H E o => ?_
  exact dss_one (ds_ret (de_callB (c_sumL o) T.n_sum (by decide +kernel) (da_cons (de_ix (de_var 0) (de_int)) (da_cons (de_lst (da_nil)) (da_nil)))))
theorem sc__law_anew : FnScope ["_law_b", "_law_state_z", "_law_memories", "_law_started", "_law_many", "_law_wholes", "_law_stays", "_law_place", "_law_groups", "_law_front", "_law_group"] ["_law_b", "_law_state_z", "_law_memories", "_law_started"] (defScope s__law_anew) := ⟨rfl, rfl, rfl, by decide +kernel, rfl, by decide +kernel, by decide +kernel⟩
theorem ok__law_anew (T : Tx K mg) : FnS P w K mg base "_law_anew" s__law_anew ["_law_b", "_law_state_z", "_law_memories", "_law_started"] 2 NP.l_anew := by
  refine fnS_of T.f__law_anew sc__law_anew (fun _ _ _ _ _ _ us hl => match us, hl with | [_, _, _, _], _ => rfl) fun f cdv A outer s H E o => ?_
  exact dss_cons (ds_asg (de_tup (da_cons (de_callB c_len T.n_len (by decide +kernel) (da_cons (de_fn o (ok__law_parts T) (by decide) (da_cons (de_var 0) (da_nil))) (da_nil))) (da_cons (de_callTy c_list T.n_list (by decide +kernel) (da_cons (de_ix (de_var 1) (de_int)) (da_nil))) (da_nil)))) (dg_tup o.calm (dgs_cons (dg_name (i := 4) o.nd) (dgs_cons (dg_name (i := 5) o.nd) (dgs_nil)))) (gd_tup (gds_cons gd_nm (gds_cons gd_nm (gds_nil)))))
      (dss_cons (ds_set (i := 6) o.nd (de_lc [("_law_place", 7)] o (di_range1 (da_cons (de_callB c_len T.n_len (by decide +kernel) (da_cons (de_var 5) (da_nil))) (da_nil)) T.n_range) (fun _ _ _ _ _ o' => dg_name (i := 7) o'.nd) (gd_nm) (fun _ _ _ _ _ o' => dts_nil) (fun _ _ _ _ _ o' => de_or (de_cmp o_ge (de_var 7) (de_var 4)) (de_one (de_and (de_ix (de_ix (de_var 2) (de_var 7)) (de_int)) (de_one (de_cmp (o_nin o') (de_var 7) (de_var 3))))))))
      (dss_cons (ds_for o (di_range1 (da_cons (de_var 4) (da_nil)) T.n_range) (dg_name (i := 7) o.nd) (gd_nm) (dss_one (ds_if (dt_not (dt_tru (de_ix (de_var 6) (de_var 7)))) (dss_one (ds_asg (de_if (dt_cmp (o_in o) (de_var 7) (de_var 3)) (de_int) (de_non)) (dg_sub (de_var 5) (de_var 7)) (gd_sub))) (dss_nil))))
      (dss_cons (ds_setLc (i := 8) [("_law_group", 10)] o (di_seq (de_ix (de_var 1) (de_int))) (fun _ _ _ _ _ o' => dg_name (i := 10) o'.nd) (gd_nm) (fun _ _ _ _ _ o' => dts_nil) (fun _ _ _ _ _ o' => de_callTy c_tuple T.n_tuple (by decide +kernel) (da_cons (de_lc [("_law_place", 7)] o' (di_seq (de_var 10)) (fun _ _ _ _ _ o' => dg_name (i := 7) o'.nd) (gd_nm) (fun _ _ _ _ _ o' => dts_one (dt_tru (de_ix (de_var 6) (de_var 7)))) (fun _ _ _ _ _ o' => de_var 7)) (da_nil))))
      (dss_cons (ds_set (i := 9) o.nd (de_callTy c_tuple T.n_tuple (by decide +kernel) (da_cons (de_callB c_sort T.n_sorted (by decide +kernel) (da_cons (de_op o_add (de_callTy c_list T.n_list (by decide +kernel) (da_cons (de_ix (de_var 8) (de_int)) (da_nil))) (de_var 3)) (da_nil))) (da_nil))))
      (dss_one (ds_ret (de_tup (da_cons (de_var 2) (da_cons (de_callTy c_tuple T.n_tuple (by decide +kernel) (da_cons (de_var 5) (da_nil))) (da_cons (de_op o_add (de_tup (da_cons (de_var 9) (da_nil))) (de_callTy c_tuple T.n_tuple (by decide +kernel) (da_cons (de_lc [("_law_group", 10)] o (di_seq (de_sl (de_var 8) (do_some (de_int)) (do_none))) (fun _ _ _ _ _ o' => dg_name (i := 10) o'.nd) (gd_nm) (fun _ _ _ _ _ o' => dts_one (dt_cmp (o_ne o') (de_var 10) (de_tup (da_nil)))) (fun _ _ _ _ _ o' => de_var 10)) (da_nil)))) (da_nil)))))))))))
theorem sc__law_timed : FnScope [] [] (defScope s__law_timed) := ⟨rfl, rfl, rfl, by decide +kernel, rfl, by decide +kernel, by decide +kernel⟩
theorem ok__law_timed (T : Tx K mg) : FnS P w K mg base "_law_timed" s__law_timed [] 1 NP.l_timed := by
  refine fnS_of T.f__law_timed sc__law_timed (fun _ _ _ _ _ _ us hl => match us, hl with | [], _ => rfl) fun f cdv A outer s H E o => ?_
  exact dss_one (ds_ret (de_lst (da_cons (de_str) (da_cons (de_str) (da_cons (de_str) (da_cons (de_str) (da_cons (de_str) (da_cons (de_str) (da_nil)))))))))
theorem sc__law_wait : FnScope ["_law_part"] ["_law_part"] (defScope s__law_wait) := ⟨rfl, rfl, rfl, by decide +kernel, rfl, by decide +kernel, by decide +kernel⟩
theorem ok__law_wait (T : Tx K mg) : FnS P w K mg base "_law_wait" s__law_wait ["_law_part"] 2 NP.l_wait := by
  refine fnS_of T.f__law_wait sc__law_wait (fun _ _ _ _ _ _ us hl => match us, hl with | [_], _ => rfl) fun f cdv A outer s H E o => ?_
  exact dss_one (ds_ret (de_if (dt_cmp (o_in o) (de_ix (de_var 0) (de_int)) (de_fn0 o (ok__law_timed T) (by decide))) (de_ix (de_var 0) (de_int)) (de_int)))
theorem sc__law_due_places : FnScope ["_law_b", "_law_state_z", "_law_parts_here", "_law_place"] ["_law_b", "_law_state_z"] (defScope s__law_due_places) := ⟨rfl, rfl, rfl, by decide +kernel, rfl, by decide +kernel, by decide +kernel⟩
theorem ok__law_due_places (T : Tx K mg) : FnS P w K mg base "_law_due_places" s__law_due_places ["_law_b", "_law_state_z"] 3 NP.l_due_places := by
  refine fnS_of T.f__law_due_places sc__law_due_places (fun _ _ _ _ _ _ us hl => match us, hl with | [_, _], _ => rfl) fun f cdv A outer s H E o => ?_
  exact dss_cons (ds_set (i := 2) o.nd (de_fn o (ok__law_parts T) (by decide) (da_cons (de_var 0) (da_nil))))
      (dss_one (ds_ret (de_lc [("_law_place", 3)] o (di_seq (de_ix (de_ix (de_var 1) (de_int)) (de_int))) (fun _ _ _ _ _ o' => dg_name (i := 3) o'.nd) (gd_nm) (fun _ _ _ _ _ o' => dts_one (dt_w (dw_and (dt_cmp o_lt (de_var 3) (de_callB c_len T.n_len (by decide +kernel) (da_cons (de_var 2) (da_nil)))) (dw_and1 (dt_cmp (o_eq o') (de_fn o' (ok__law_wait T) (by decide) (da_cons (de_ix (de_var 2) (de_var 3)) (da_nil))) (de_ix (de_ix (de_var 1) (de_int)) (de_var 3))))))) (fun _ _ _ _ _ o' => de_var 3))))
theorem sc__law_came : FnScope ["_law_part", "_law_memory", "_law_item", "_law_word", "_law_runs"] ["_law_part", "_law_memory", "_law_item"] (defScope s__law_came) := ⟨rfl, rfl, rfl, by decide +kernel, rfl, by decide +kernel, by decide +kernel⟩
theorem ok__law_came (T : Tx K mg) : FnS P w K mg base "_law_came" s__law_came ["_law_part", "_law_memory", "_law_item"] 1 NP.l_came := by
  refine fnS_of T.f__law_came sc__law_came (fun _ _ _ _ _ _ us hl => match us, hl with | [_, _, _], _ => rfl) fun f cdv A outer s H E o => ?_
  exact dss_cons (ds_par (i := 3) (j := 4) o.calm o.nd (da_cons (de_ix (de_var 0) (de_int)) (da_cons (de_ix (de_var 1) (de_int)) (da_nil))))
      (dss_cons (ds_if (dt_cmp (o_eq o) (de_var 3) (de_str)) (dss_one (ds_ret (de_tup (da_cons (de_var 1) (da_cons (de_if (dt_cmp (o_in o) (de_ix (de_var 2) (de_int)) (de_ix (de_var 0) (de_int))) (de_var 2) (de_non)) (da_cons (de_bl) (da_nil))))))) (dss_nil))
      (dss_cons (ds_if (dt_cmp (o_eq o) (de_var 3) (de_str)) (dss_one (ds_ret (de_tup (da_cons (de_var 1) (da_cons (de_if (dt_cmp (o_eq o) (de_ix (de_var 2) (de_int)) (de_ix (de_var 0) (de_int))) (de_tup (da_cons (de_ix (de_var 0) (de_int)) (da_cons (de_ix (de_var 2) (de_int)) (da_nil)))) (de_var 2)) (da_cons (de_bl) (da_nil))))))) (dss_nil))
      (dss_cons (ds_if (dt_cmp (o_eq o) (de_var 3) (de_str)) (dss_one (ds_ret (de_if (dt_cmp (o_eq o) (de_ix (de_var 1) (de_int)) (de_ix (de_var 2) (de_int))) (de_tup (da_cons (de_var 1) (da_cons (de_non) (da_cons (de_bl) (da_nil))))) (de_tup (da_cons (de_tup (da_cons (de_bl) (da_cons (de_ix (de_var 2) (de_int)) (da_nil)))) (da_cons (de_var 2) (da_cons (de_bl) (da_nil)))))))) (dss_nil))
      (dss_cons (ds_if (dt_cmp (o_in o) (de_var 3) (de_lst (da_cons (de_str) (da_cons (de_str) (da_nil))))) (dss_one (ds_ret (de_tup (da_cons (de_tup (da_cons (de_bl) (da_cons (de_var 2) (da_nil)))) (da_cons (de_if (dt_cmp (o_eq o) (de_var 3) (de_str)) (de_var 2) (de_non)) (da_cons (de_bl) (da_nil))))))) (dss_nil))
      (dss_cons (ds_if (dt_cmp (o_in o) (de_var 3) (de_lst (da_cons (de_str) (da_cons (de_str) (da_nil))))) (dss_one (ds_ret (de_tup (da_cons (de_tup (da_cons (de_bl) (da_cons (de_if (dt_w (dw_and (dt_tru (de_var 4)) (dw_and1 (dt_cmp (o_eq o) (de_var 3) (de_str))))) (de_ix (de_var 1) (de_int)) (de_var 2)) (da_nil)))) (da_cons (de_non) (da_cons (de_not (de_var 4)) (da_nil))))))) (dss_nil))
      (dss_cons (ds_if (dt_tru (de_var 4)) (dss_one (ds_ret (de_tup (da_cons (de_tup (da_cons (de_bl) (da_cons (de_if (dt_cmp (o_eq o) (de_var 3) (de_str)) (de_var 2) (de_non)) (da_nil)))) (da_cons (de_non) (da_cons (de_bl) (da_nil))))))) (dss_nil))
      (dss_one (ds_ret (de_tup (da_cons (de_tup (da_cons (de_bl) (da_cons (de_non) (da_nil)))) (da_cons (de_var 2) (da_cons (de_bl) (da_nil)))))))))))))
theorem sc__law_homes : FnScope ["_law_b", "_law_found", "_law_at"] ["_law_b"] (defScope s__law_homes) := ⟨rfl, rfl, rfl, by decide +kernel, rfl, by decide +kernel, by decide +kernel⟩
theorem ok__law_homes (T : Tx K mg) : FnS P w K mg base "_law_homes" s__law_homes ["_law_b"] 1 NP.l_homes := by
  refine fnS_of T.f__law_homes sc__law_homes (fun _ _ _ _ _ _ us hl => match us, hl with | [_], _ => rfl) fun f cdv A outer s H E o => ?_
  exact dss_cons (ds_set (i := 1) o.nd (de_lst (da_nil)))
      (dss_cons (ds_for o (di_range1 (da_cons (de_callB c_len T.n_len (by decide +kernel) (da_cons (de_ix (de_var 0) (de_int)) (da_nil))) (da_nil)) T.n_range) (dg_name (i := 2) o.nd) (gd_nm) (dss_one (ds_set (i := 1) o.nd (de_op o_add (de_var 1) (de_op o_mul (de_lst (da_cons (de_var 2) (da_nil))) (de_callB c_len T.n_len (by decide +kernel) (da_cons (de_ix (de_ix (de_var 0) (de_int)) (de_var 2)) (da_nil))))))))
      (dss_one (ds_ret (de_var 1))))
theorem sc__law_down : FnScope ["_law_b", "_law_memories", "_law_place", "_law_item", "_law_homes_here", "_law_parts_here", "_law_found", "_law_started", "_law_home", "_law_starts"] ["_law_b", "_law_memories", "_law_place", "_law_item"] (defScope s__law_down) := ⟨rfl, rfl, rfl, by decide +kernel, rfl, by decide +kernel, by decide +kernel⟩
theorem ok__law_down (T : Tx K mg) : FnS P w K mg base "_law_down" s__law_down ["_law_b", "_law_memories", "_law_place", "_law_item"] 2 NP.l_down := by
  refine fnS_of T.f__law_down sc__law_down (fun _ _ _ _ _ _ us hl => match us, hl with | [_, _, _, _], _ => rfl) fun f cdv A outer s H E o => ?_
  exact dss_cons (ds_par (i := 4) (j := 5) o.calm o.nd (da_cons (de_fn o (ok__law_homes T) (by decide) (da_cons (de_var 0) (da_nil))) (da_cons (de_fn o (ok__law_parts T) (by decide) (da_cons (de_var 0) (da_nil))) (da_nil))))
      (dss_cons (ds_par (i := 6) (j := 7) o.calm o.nd (da_cons (de_callTy c_list T.n_list (by decide +kernel) (da_cons (de_var 1) (da_nil))) (da_cons (de_lst (da_nil)) (da_nil))))
      (dss_cons (ds_set (i := 8) o.nd (de_if (dt_cmp o_lt (de_var 2) (de_callB c_len T.n_len (by decide +kernel) (da_cons (de_var 4) (da_nil)))) (de_ix (de_var 4) (de_var 2)) (de_int)))
      (dss_cons (ds_while fuel0 o (dt_w (dw_and (dt_cmp o_isnt (de_var 3) (de_non)) (dw_and (dt_cmp o_lt (de_var 2) (de_callB c_len T.n_len (by decide +kernel) (da_cons (de_var 5) (da_nil)))) (dw_and1 (dt_cmp (o_eq o) (de_ix (de_var 4) (de_var 2)) (de_var 8)))))) (dss_cons (ds_asg (de_fn o (ok__law_came T) (by decide) (da_cons (de_ix (de_var 5) (de_var 2)) (da_cons (de_ix (de_var 6) (de_var 2)) (da_cons (de_var 3) (da_nil))))) (dg_tup o.calm (dgs_cons (dg_sub (de_var 6) (de_var 2)) (dgs_cons (dg_name (i := 3) o.nd) (dgs_cons (dg_name (i := 9) o.nd) (dgs_nil))))) (gd_tup (gds_cons gd_sub (gds_cons gd_nm (gds_cons gd_nm (gds_nil))))))
      (dss_cons (ds_set (i := 7) o.nd (de_op o_add (de_var 7) (de_op o_mul (de_lst (da_cons (de_var 2) (da_nil))) (de_callTy c_int T.n_int (by decide +kernel) (da_cons (de_var 9) (da_nil))))))
      (dss_one (ds_set (i := 2) o.nd (de_op o_add (de_var 2) (de_int)))))))
      (dss_one (ds_ret (de_tup (da_cons (de_callTy c_tuple T.n_tuple (by decide +kernel) (da_cons (de_var 6) (da_nil))) (da_cons (de_var 7) (da_cons (de_if (dt_cmp o_is (de_var 3) (de_non)) (de_lst (da_nil)) (de_lst (da_cons (de_tup (da_cons (de_ix (de_var 3) (de_int)) (da_cons (de_ix (de_var 3) (de_int)) (da_cons (de_var 8) (da_nil))))) (da_nil)))) (da_nil))))))))))
theorem sc__law_rang : FnScope ["_law_part", "_law_memory"] ["_law_part", "_law_memory"] (defScope s__law_rang) := ⟨rfl, rfl, rfl, by decide +kernel, rfl, by decide +kernel, by decide +kernel⟩
theorem ok__law_rang (T : Tx K mg) : FnS P w K mg base "_law_rang" s__law_rang ["_law_part", "_law_memory"] 1 NP.l_rang := by
  refine fnS_of T.f__law_rang sc__law_rang (fun _ _ _ _ _ _ us hl => match us, hl with | [_, _], _ => rfl) fun f cdv A outer s H E o => ?_
  exact dss_cons (ds_if (dt_cmp (o_eq o) (de_ix (de_var 0) (de_int)) (de_str)) (dss_one (ds_ret (de_tup (da_cons (de_var 1) (da_cons (de_ix (de_var 1) (de_int)) (da_cons (de_bl) (da_nil))))))) (dss_nil))
      (dss_cons (ds_if (dt_w (dw_and (dt_cmp (o_eq o) (de_ix (de_var 0) (de_int)) (de_str)) (dw_and1 (dt_cmp o_isnt (de_ix (de_var 1) (de_int)) (de_non))))) (dss_one (ds_ret (de_tup (da_cons (de_tup (da_cons (de_bl) (da_cons (de_non) (da_nil)))) (da_cons (de_ix (de_var 1) (de_int)) (da_cons (de_bl) (da_nil))))))) (dss_nil))
      (dss_one (ds_ret (de_tup (da_cons (de_tup (da_cons (de_bl) (da_cons (de_non) (da_nil)))) (da_cons (de_ix (de_var 1) (de_int)) (da_cons (de_bl) (da_nil))))))))
theorem sc__law_fire : FnScope ["_law_b", "_law_memories", "_law_place", "_law_parts_here", "_law_homes_here", "_law_memory", "_law_item", "_law_starts", "_law_late", "_law_fresh", "_law_more", "_law_outs"] ["_law_b", "_law_memories", "_law_place"] (defScope s__law_fire) := ⟨rfl, rfl, rfl, by decide +kernel, rfl, by decide +kernel, by decide +kernel⟩
theorem ok__law_fire (T : Tx K mg) : FnS P w K mg base "_law_fire" s__law_fire ["_law_b", "_law_memories", "_law_place"] 3 NP.l_fire := by
  refine fnS_of T.f__law_fire sc__law_fire (fun _ _ _ _ _ _ us hl => match us, hl with | [_, _, _], _ => rfl) fun f cdv A outer s H E o => ?_
  exact dss_cons (ds_par (i := 3) (j := 4) o.calm o.nd (da_cons (de_fn o (ok__law_parts T) (by decide) (da_cons (de_var 0) (da_nil))) (da_cons (de_fn o (ok__law_homes T) (by decide) (da_cons (de_var 0) (da_nil))) (da_nil))))
      (dss_cons (ds_asg (de_fn o (ok__law_rang T) (by decide) (da_cons (de_ix (de_var 3) (de_var 2)) (da_cons (de_ix (de_var 1) (de_var 2)) (da_nil)))) (dg_tup o.calm (dgs_cons (dg_name (i := 5) o.nd) (dgs_cons (dg_name (i := 6) o.nd) (dgs_cons (dg_name (i := 7) o.nd) (dgs_nil))))) (gd_tup (gds_cons gd_nm (gds_cons gd_nm (gds_cons gd_nm (gds_nil))))))
      (dss_cons (ds_set (i := 8) o.nd (de_op o_add (de_op o_add (de_sl (de_var 1) (do_none) (do_some (de_var 2))) (de_tup (da_cons (de_var 5) (da_nil)))) (de_sl (de_var 1) (do_some (de_op o_add (de_var 2) (de_int))) (do_none))))
      (dss_cons (ds_set (i := 9) o.nd (de_op o_mul (de_lst (da_cons (de_var 2) (da_nil))) (de_callTy c_int T.n_int (by decide +kernel) (da_cons (de_var 7) (da_nil)))))
      (dss_cons (ds_if (dt_w (dw_and (dt_cmp o_isnt (de_var 6) (de_non)) (dw_and (dt_cmp o_lt (de_op o_add (de_var 2) (de_int)) (de_callB c_len T.n_len (by decide +kernel) (da_cons (de_var 3) (da_nil)))) (dw_and1 (dt_cmp (o_eq o) (de_ix (de_var 4) (de_op o_add (de_var 2) (de_int))) (de_ix (de_var 4) (de_var 2))))))) (dss_cons (ds_asg (de_fn o (ok__law_down T) (by decide) (da_cons (de_var 0) (da_cons (de_var 8) (da_cons (de_op o_add (de_var 2) (de_int)) (da_cons (de_var 6) (da_nil)))))) (dg_tup o.calm (dgs_cons (dg_name (i := 8) o.nd) (dgs_cons (dg_name (i := 10) o.nd) (dgs_cons (dg_name (i := 11) o.nd) (dgs_nil))))) (gd_tup (gds_cons gd_nm (gds_cons gd_nm (gds_cons gd_nm (gds_nil))))))
      (dss_one (ds_ret (de_tup (da_cons (de_var 8) (da_cons (de_op o_add (de_var 9) (de_var 10)) (da_cons (de_var 11) (da_nil)))))))) (dss_nil))
      (dss_one (ds_ret (de_tup (da_cons (de_var 8) (da_cons (de_var 9) (da_cons (de_if (dt_cmp o_is (de_var 6) (de_non)) (de_lst (da_nil)) (de_lst (da_cons (de_tup (da_cons (de_ix (de_var 6) (de_int)) (da_cons (de_ix (de_var 6) (de_int)) (da_cons (de_ix (de_var 4) (de_var 2)) (da_nil))))) (da_nil)))) (da_nil)))))))))))
theorem sc__law_older_state : FnScope ["_law_state_z", "_law_memories", "_law_wholes", "_law_order", "_law_found", "_law_place"] ["_law_state_z"] (defScope s__law_older_state) := ⟨rfl, rfl, rfl, by decide +kernel, rfl, by decide +kernel, by decide +kernel⟩
theorem ok__law_older_state (T : Tx K mg) : FnS P w K mg base "_law_older_state" s__law_older_state ["_law_state_z"] 1 NP.l_older_state := by
  refine fnS_of T.f__law_older_state sc__law_older_state (fun _ _ _ _ _ _ us hl => match us, hl with | [_], _ => rfl) fun f cdv A outer s H E o => ?_
  exact dss_cons (ds_asg (de_var 0) (dg_tup o.calm (dgs_cons (dg_name (i := 1) o.nd) (dgs_cons (dg_name (i := 2) o.nd) (dgs_cons (dg_name (i := 3) o.nd) (dgs_nil))))) (gd_tup (gds_cons gd_nm (gds_cons gd_nm (gds_cons gd_nm (gds_nil))))))
      (dss_cons (ds_if (dt_cmp (o_ne o) (de_ix (de_var 3) (de_int)) (de_tup (da_nil))) (dss_one (ds_ret (de_tup (da_cons (de_var 1) (da_cons (de_var 2) (da_cons (de_op o_add (de_tup (da_cons (de_tup (da_nil)) (da_nil))) (de_var 3)) (da_nil))))))) (dss_nil))
      (dss_cons (ds_if (dt_cmp (o_eq o) (de_callB c_len T.n_len (by decide +kernel) (da_cons (de_var 3) (da_nil))) (de_int)) (dss_one (ds_ret (de_var 0))) (dss_nil))
      (dss_cons (ds_set (i := 4) o.nd (de_callTy c_list T.n_list (by decide +kernel) (da_cons (de_var 2) (da_nil))))
      (dss_cons (ds_for o (di_seq (de_ix (de_var 3) (de_op o_sub (de_callB c_len T.n_len (by decide +kernel) (da_cons (de_var 3) (da_nil))) (de_int)))) (dg_name (i := 5) o.nd) (gd_nm) (dss_one (ds_asg (de_op o_add (de_ix (de_var 4) (de_var 5)) (de_int)) (dg_sub (de_var 4) (de_var 5)) (gd_sub))))
      (dss_one (ds_ret (de_tup (da_cons (de_var 1) (da_cons (de_callTy c_tuple T.n_tuple (by decide +kernel) (da_cons (de_var 4) (da_nil))) (da_cons (de_op o_add (de_tup (da_cons (de_ix (de_var 3) (de_op o_sub (de_callB c_len T.n_len (by decide +kernel) (da_cons (de_var 3) (da_nil))) (de_int))) (da_nil))) (de_sl (de_var 3) (do_some (de_int)) (do_some (de_op o_sub (de_callB c_len T.n_len (by decide +kernel) (da_cons (de_var 3) (da_nil))) (de_int))))) (da_nil)))))))))))
theorem sc__law_pass : FnScope ["_law_b", "_law_state_z", "_law_late", "_law_outs", "_law_turn", "_law_due", "_law_found"] ["_law_b", "_law_state_z"] (defScope s__law_pass) := ⟨rfl, rfl, rfl, by decide +kernel, rfl, by decide +kernel, by decide +kernel⟩
theorem ok__law_pass (T : Tx K mg) : FnS P w K mg base "_law_pass" s__law_pass ["_law_b", "_law_state_z"] 4 NP.l_pass := by
  refine fnS_of T.f__law_pass sc__law_pass (fun _ _ _ _ _ _ us hl => match us, hl with | [_, _], _ => rfl) fun f cdv A outer s H E o => ?_
  exact dss_cons (ds_par (i := 2) (j := 3) o.calm o.nd (da_cons (de_fn o (ok__law_older_state T) (by decide) (da_cons (de_var 1) (da_nil))) (da_cons (de_lst (da_nil)) (da_nil))))
      (dss_cons (ds_for o (di_range1 (da_cons (de_op o_add (de_callB c_len T.n_len (by decide +kernel) (da_cons (de_fn o (ok__law_parts T) (by decide) (da_cons (de_var 0) (da_nil))) (da_nil))) (de_int)) (da_nil)) T.n_range) (dg_name (i := 4) o.nd) (gd_nm) (dss_cons (ds_set (i := 5) o.nd (de_fn o (ok__law_due_places T) (by decide) (da_cons (de_var 0) (da_cons (de_var 2) (da_nil)))))
      (dss_one (ds_if (dt_cmp (o_ne o) (de_var 5) (de_lst (da_nil))) (dss_cons (ds_set (i := 6) o.nd (de_fn o (ok__law_fire T) (by decide) (da_cons (de_var 0) (da_cons (de_ix (de_var 2) (de_int)) (da_cons (de_ix (de_var 5) (de_int)) (da_nil))))))
      (dss_one (ds_par (i := 2) (j := 3) o.calm o.nd (da_cons (de_fn o (ok__law_anew T) (by decide) (da_cons (de_var 0) (da_cons (de_var 2) (da_cons (de_ix (de_var 6) (de_int)) (da_cons (de_ix (de_var 6) (de_int)) (da_nil)))))) (da_cons (de_op o_add (de_var 3) (de_ix (de_var 6) (de_int))) (da_nil)))))) (dss_nil)))))
      (dss_one (ds_ret (de_tup (da_cons (de_var 2) (da_cons (de_var 3) (da_nil)))))))
theorem sc__law_same : FnScope ["_law_found", "_law_due", "_law_one", "_law_two"] ["_law_found", "_law_due"] (defScope s__law_same) := ⟨rfl, rfl, rfl, by decide +kernel, rfl, by decide +kernel, by decide +kernel⟩
theorem ok__law_same_ (T : Tx K mg) : ∀ k, FnS P w K mg base "_law_same" s__law_same ["_law_found", "_law_due"] k (NP.l_same k)
  | 0 => fnS_bad T.f__law_same (fun _ _ _ _ _ _ us hl => match us, hl with | [_, _], _ => rfl)
  | k + 1 => fnS_of T.f__law_same sc__law_same (fun _ _ _ _ _ _ us hl => match us, hl with | [_, _], _ => rfl) fun f cdv A outer s H E o => by
    have ih := ok__law_same_ T k
    exact dss_cons (ds_if (dt_w (dw_or (dt_cmp o_is (de_var 1) (de_non)) (dw_or1 (dt_cmp o_is (de_var 0) (de_non))))) (dss_one (ds_ret (de_and (de_cmp o_is (de_var 1) (de_non)) (de_one (de_cmp o_is (de_var 0) (de_non)))))) (dss_nil))
      (dss_cons (ds_if (dt_tru (de_callB c_isi T.n_isinstance (by decide +kernel) (da_cons (de_var 1) (da_cons (de_tup (da_cons (de_bty T.n_list (by decide +kernel)) (da_cons (de_bty T.n_tuple (by decide +kernel)) (da_nil)))) (da_nil))))) (dss_cons (ds_if (dt_w (dw_or (dt_cmp (o_ne o) (de_callB c_isi T.n_isinstance (by decide +kernel) (da_cons (de_var 0) (da_cons (de_bty T.n_list (by decide +kernel)) (da_nil)))) (de_callB c_isi T.n_isinstance (by decide +kernel) (da_cons (de_var 1) (da_cons (de_bty T.n_list (by decide +kernel)) (da_nil))))) (dw_or1 (dt_cmp (o_ne o) (de_callB c_isi T.n_isinstance (by decide +kernel) (da_cons (de_var 0) (da_cons (de_bty T.n_tuple (by decide +kernel)) (da_nil)))) (de_callB c_isi T.n_isinstance (by decide +kernel) (da_cons (de_var 1) (da_cons (de_bty T.n_tuple (by decide +kernel)) (da_nil)))))))) (dss_one (ds_ret (de_bl))) (dss_nil))
      (dss_one (ds_ret (de_and (de_cmp (o_eq o) (de_callB c_len T.n_len (by decide +kernel) (da_cons (de_var 0) (da_nil))) (de_callB c_len T.n_len (by decide +kernel) (da_cons (de_var 1) (da_nil)))) (de_one (de_callB (c_all o) T.n_all (by decide +kernel) (da_cons (de_lc [("_law_one", 2), ("_law_two", 3)] o (di_zip (da_cons (de_var 0) (da_cons (de_var 1) (da_nil))) T.n_zip) (fun _ _ _ _ _ o' => dg_tup o'.calm (dgs_cons (dg_name (i := 2) o'.nd) (dgs_cons (dg_name (i := 3) o'.nd) (dgs_nil)))) (gd_tup (gds_cons gd_nm (gds_cons gd_nm (gds_nil)))) (fun _ _ _ _ _ o' => dts_nil) (fun _ _ _ _ _ o' => de_fn o' ih (Nat.le_refl _) (da_cons (de_var 2) (da_cons (de_var 3) (da_nil))))) (da_nil)))))))) (dss_nil))
      (dss_cons (ds_if (dt_w (dw_or (dt_cmp (o_ne o) (de_callB c_isi T.n_isinstance (by decide +kernel) (da_cons (de_var 0) (da_cons (de_bty T.n_bool (by decide +kernel)) (da_nil)))) (de_callB c_isi T.n_isinstance (by decide +kernel) (da_cons (de_var 1) (da_cons (de_bty T.n_bool (by decide +kernel)) (da_nil))))) (dw_or1 (dt_cmp (o_ne o) (de_callB c_isi T.n_isinstance (by decide +kernel) (da_cons (de_var 0) (da_cons (de_bty T.n_int (by decide +kernel)) (da_nil)))) (de_callB c_isi T.n_isinstance (by decide +kernel) (da_cons (de_var 1) (da_cons (de_bty T.n_int (by decide +kernel)) (da_nil)))))))) (dss_one (ds_ret (de_bl))) (dss_nil))
      (dss_one (ds_ret (de_and (de_cmp (o_eq o) (de_callB c_isi T.n_isinstance (by decide +kernel) (da_cons (de_var 0) (da_cons (de_bty T.n_str (by decide +kernel)) (da_nil)))) (de_callB c_isi T.n_isinstance (by decide +kernel) (da_cons (de_var 1) (da_cons (de_bty T.n_str (by decide +kernel)) (da_nil))))) (de_one (de_cmp (o_eq o) (de_var 0) (de_var 1))))))))
theorem sc__law_enter : FnScope ["_law_b", "_law_memories", "_law_item", "_law_homes_here", "_law_started", "_law_outs", "_law_home", "_law_fresh", "_law_told"] ["_law_b", "_law_memories", "_law_item"] (defScope s__law_enter) := ⟨rfl, rfl, rfl, by decide +kernel, rfl, by decide +kernel, by decide +kernel⟩
theorem ok__law_enter (T : Tx K mg) : FnS P w K mg base "_law_enter" s__law_enter ["_law_b", "_law_memories", "_law_item"] 3 NP.l_enter := by
  refine fnS_of T.f__law_enter sc__law_enter (fun _ _ _ _ _ _ us hl => match us, hl with | [_, _, _], _ => rfl) fun f cdv A outer s H E o => ?_
  exact dss_cons (ds_par3 (i := 3) (j := 4) (l := 5) o.calm o.nd (da_cons (de_fn o (ok__law_homes T) (by decide) (da_cons (de_var 0) (da_nil))) (da_cons (de_lst (da_nil)) (da_cons (de_lst (da_nil)) (da_nil)))))
      (dss_cons (ds_for o (di_range1 (da_cons (de_callB c_len T.n_len (by decide +kernel) (da_cons (de_ix (de_var 0) (de_int)) (da_nil))) (da_nil)) T.n_range) (dg_name (i := 6) o.nd) (gd_nm) (dss_one (ds_if (dt_cmp (o_eq o) (de_ix (de_ix (de_var 0) (de_int)) (de_var 6)) (de_lst (da_nil))) (dss_one (ds_set (i := 5) o.nd (de_op o_add (de_var 5) (de_lst (da_cons (de_tup (da_cons (de_ix (de_var 2) (de_int)) (da_cons (de_ix (de_var 2) (de_int)) (da_cons (de_var 6) (da_nil))))) (da_nil)))))) (dss_cons (ds_asg (de_fn o (ok__law_down T) (by decide) (da_cons (de_var 0) (da_cons (de_var 1) (da_cons (de_mt PySem.F.plainAttrs_list PySem.F.slot_list_index PySem.F.type_list_index m_index (de_var 3) (da_cons (de_var 6) (da_nil))) (da_cons (de_var 2) (da_nil)))))) (dg_tup o.calm (dgs_cons (dg_name (i := 1) o.nd) (dgs_cons (dg_name (i := 7) o.nd) (dgs_cons (dg_name (i := 8) o.nd) (dgs_nil))))) (gd_tup (gds_cons gd_nm (gds_cons gd_nm (gds_cons gd_nm (gds_nil))))))
      (dss_one (ds_par (i := 4) (j := 5) o.calm o.nd (da_cons (de_op o_add (de_var 4) (de_var 7)) (da_cons (de_op o_add (de_var 5) (de_var 8)) (da_nil)))))))))
      (dss_one (ds_ret (de_tup (da_cons (de_var 1) (da_cons (de_var 4) (da_cons (de_var 5) (da_nil))))))))
theorem sc__law_send : FnScope ["_law_b", "_law_state_z", "_law_letter_z", "_law_mark_z", "_law_found"] ["_law_b", "_law_state_z", "_law_letter_z", "_law_mark_z"] (defScope s__law_send) := ⟨rfl, rfl, rfl, by decide +kernel, rfl, by decide +kernel, by decide +kernel⟩
theorem ok__law_send (T : Tx K mg) : FnS P w K mg base "_law_send" s__law_send ["_law_b", "_law_state_z", "_law_letter_z", "_law_mark_z"] 4 NP.l_send := by
  refine fnS_of T.f__law_send sc__law_send (fun _ _ _ _ _ _ us hl => match us, hl with | [_, _, _, _], _ => rfl) fun f cdv A outer s H E o => ?_
  exact dss_cons (ds_set (i := 4) o.nd (de_fn o (ok__law_enter T) (by decide) (da_cons (de_var 0) (da_cons (de_ix (de_var 1) (de_int)) (da_cons (de_tup (da_cons (de_var 2) (da_cons (de_var 3) (da_nil)))) (da_nil))))))
      (dss_one (ds_ret (de_tup (da_cons (de_fn o (ok__law_anew T) (by decide) (da_cons (de_var 0) (da_cons (de_var 1) (da_cons (de_ix (de_var 4) (de_int)) (da_cons (de_ix (de_var 4) (de_int)) (da_nil)))))) (da_cons (de_ix (de_var 4) (de_int)) (da_nil))))))
theorem sc__law_mixed : FnScope ["_law_bag_here", "_law_some", "_law_left", "_law_found"] ["_law_bag_here", "_law_some"] (defScope s__law_mixed) := ⟨rfl, rfl, rfl, by decide +kernel, rfl, by decide +kernel, by decide +kernel⟩
theorem ok__law_mixed (T : Tx K mg) : FnS P w K mg base "_law_mixed" s__law_mixed ["_law_bag_here", "_law_some"] 2 NP.l_mixed := by
  refine fnS_of T.f__law_mixed sc__law_mixed (fun _ _ _ _ _ _ us hl => match us, hl with | [_, _], _ => rfl) fun f cdv A outer s H E o => ?_
  exact dss_cons (ds_par (i := 2) (j := 3) o.calm o.nd (da_cons (de_callTy c_list T.n_list (by decide +kernel) (da_cons (de_var 1) (da_nil))) (da_cons (de_lst (da_nil)) (da_nil))))
      (dss_cons (ds_while fuel0 o (dt_cmp (o_ne o) (de_var 2) (de_lst (da_nil))) (dss_one (ds_expr (de_mt PySem.F.plainAttrs_list PySem.F.slot_list_append PySem.F.type_list_append m_append (de_var 3) (da_cons (de_mt PySem.F.plainAttrs_list PySem.F.slot_list_pop PySem.F.type_list_pop m_pop (de_var 2) (da_cons (de_fn o (ok__law_draw T) (by decide) (da_cons (de_var 0) (da_cons (de_callB c_len T.n_len (by decide +kernel) (da_cons (de_var 2) (da_nil))) (da_nil)))) (da_nil))) (da_nil))))))
      (dss_one (ds_ret (de_var 3))))
theorem sc__law_some_part : FnScope ["_law_bag_here", "_law_longest", "_law_way", "_law_pair"] ["_law_bag_here", "_law_longest"] (defScope s__law_some_part) := ⟨rfl, rfl, rfl, by decide +kernel, rfl, by decide +kernel, by decide +kernel⟩
theorem ok__law_some_part (T : Tx K mg) : FnS P w K mg base "_law_some_part" s__law_some_part ["_law_bag_here", "_law_longest"] 3 NP.l_some_part := by
  refine fnS_of T.f__law_some_part sc__law_some_part (fun _ _ _ _ _ _ us hl => match us, hl with | [_, _], _ => rfl) fun f cdv A outer s H E o => ?_
  exact dss_cons (ds_set (i := 2) o.nd (de_fn o (ok__law_draw T) (by decide) (da_cons (de_var 0) (da_cons (de_int) (da_nil)))))
      (dss_cons (ds_if (dt_cmp o_lt (de_var 2) (de_int)) (dss_one (ds_ret (de_tup (da_cons (de_ix (de_fn0 o (ok__law_timed T) (by decide)) (de_var 2)) (da_cons (de_op o_add (de_int) (de_fn o (ok__law_draw T) (by decide) (da_cons (de_var 0) (da_cons (de_var 1) (da_nil))))) (da_nil)))))) (dss_nil))
      (dss_cons (ds_if (dt_cmp (o_eq o) (de_var 2) (de_int)) (dss_one (ds_ret (de_tup (da_cons (de_str) (da_nil))))) (dss_nil))
      (dss_cons (ds_if (dt_cmp (o_eq o) (de_var 2) (de_int)) (dss_one (ds_ret (de_tup (da_cons (de_str) (da_cons (de_fn o (ok__law_of T) (by decide) (da_cons (de_var 0) (da_cons (de_lst (da_cons (de_str) (da_cons (de_str) (da_cons (de_str) (da_cons (de_str) (da_cons (de_str) (da_cons (de_str) (da_cons (de_str) (da_nil))))))))) (da_nil)))) (da_nil)))))) (dss_nil))
      (dss_cons (ds_set (i := 3) o.nd (de_fn o (ok__law_mixed T) (by decide) (da_cons (de_var 0) (da_cons (de_lst (da_cons (de_str) (da_cons (de_str) (da_cons (de_str) (da_nil))))) (da_nil)))))
      (dss_one (ds_ret (de_tup (da_cons (de_str) (da_cons (de_ix (de_var 3) (de_int)) (da_cons (de_ix (de_var 3) (de_int)) (da_nil)))))))))))
theorem sc__law_some_net : FnScope ["_law_bag_here", "_law_longest", "_law_most_lines", "_law_most_timers", "_law_letters_z", "_law_lines", "_law_left", "_law_at", "_law_line", "_law_k", "_law_part"] ["_law_bag_here", "_law_longest", "_law_most_lines", "_law_most_timers"] (defScope s__law_some_net) := ⟨rfl, rfl, rfl, by decide +kernel, rfl, by decide +kernel, by decide +kernel⟩
theorem ok__law_some_net (T : Tx K mg) : FnS P w K mg base "_law_some_net" s__law_some_net ["_law_bag_here", "_law_longest", "_law_most_lines", "_law_most_timers"] 4 NP.l_some_net := by
  refine fnS_of T.f__law_some_net sc__law_some_net (fun _ _ _ _ _ _ us hl => match us, hl with | [_, _, _, _], _ => rfl) fun f cdv A outer s H E o => ?_
  exact dss_cons (ds_par3 (i := 4) (j := 5) (l := 6) o.calm o.nd (da_cons (de_fn o (ok__law_of T) (by decide) (da_cons (de_var 0) (da_cons (de_lst (da_cons (de_str) (da_cons (de_str) (da_cons (de_str) (da_cons (de_str) (da_cons (de_str) (da_nil))))))) (da_nil)))) (da_cons (de_lst (da_nil)) (da_cons (de_var 3) (da_nil)))))
      (dss_cons (ds_for o (di_range1 (da_cons (de_op o_add (de_int) (de_fn o (ok__law_draw T) (by decide) (da_cons (de_var 0) (da_cons (de_var 2) (da_nil))))) (da_nil)) T.n_range) (dg_name (i := 7) o.nd) (gd_nm) (dss_cons (ds_set (i := 8) o.nd (de_lst (da_nil)))
      (dss_cons (ds_for o (di_range1 (da_cons (de_fn o (ok__law_draw T) (by decide) (da_cons (de_var 0) (da_cons (de_int) (da_nil)))) (da_nil)) T.n_range) (dg_name (i := 9) o.nd) (gd_nm) (dss_cons (ds_set (i := 10) o.nd (de_fn o (ok__law_some_part T) (by decide) (da_cons (de_var 0) (da_cons (de_var 1) (da_nil)))))
      (dss_one (ds_if (dt_w (dw_or (dt_cmp (o_eq o) (de_fn o (ok__law_wait T) (by decide) (da_cons (de_var 10) (da_nil))) (de_int)) (dw_or1 (dt_cmp o_gt (de_var 6) (de_int))))) (dss_cons (ds_expr (de_mt PySem.F.plainAttrs_list PySem.F.slot_list_append PySem.F.type_list_append m_append (de_var 8) (da_cons (de_var 10) (da_nil))))
      (dss_one (ds_set (i := 6) o.nd (de_op o_sub (de_var 6) (de_callTy c_int T.n_int (by decide +kernel) (da_cons (de_cmp o_gt (de_fn o (ok__law_wait T) (by decide) (da_cons (de_var 10) (da_nil))) (de_int)) (da_nil))))))) (dss_nil)))))
      (dss_one (ds_expr (de_mt PySem.F.plainAttrs_list PySem.F.slot_list_append PySem.F.type_list_append m_append (de_var 5) (da_cons (de_var 8) (da_nil))))))))
      (dss_one (ds_ret (de_tup (da_cons (de_var 4) (da_cons (de_var 5) (da_nil)))))))
theorem sc__law_first : FnScope ["_law_b", "_law_many"] ["_law_b"] (defScope s__law_first) := ⟨rfl, rfl, rfl, by decide +kernel, rfl, by decide +kernel, by decide +kernel⟩
theorem ok__law_first (T : Tx K mg) : FnS P w K mg base "_law_first" s__law_first ["_law_b"] 2 NP.l_first := by
  refine fnS_of T.f__law_first sc__law_first (fun _ _ _ _ _ _ us hl => match us, hl with | [_], _ => rfl) fun f cdv A outer s H E o => ?_
  exact dss_cons (ds_set (i := 1) o.nd (de_callB c_len T.n_len (by decide +kernel) (da_cons (de_fn o (ok__law_parts T) (by decide) (da_cons (de_var 0) (da_nil))) (da_nil))))
      (dss_one (ds_ret (de_tup (da_cons (de_op o_mulT (de_tup (da_cons (de_tup (da_cons (de_bl) (da_cons (de_non) (da_nil)))) (da_nil))) (de_var 1)) (da_cons (de_op o_mulT (de_tup (da_cons (de_non) (da_nil))) (de_var 1)) (da_cons (de_tup (da_cons (de_tup (da_nil)) (da_nil))) (da_nil)))))))
theorem sc__law_move : FnScope ["_law_b", "_law_state_z", "_law_move_here", "_law_mark_z"] ["_law_b", "_law_state_z", "_law_move_here", "_law_mark_z"] (defScope s__law_move) := ⟨rfl, rfl, rfl, by decide +kernel, rfl, by decide +kernel, by decide +kernel⟩
theorem ok__law_move (T : Tx K mg) : FnS P w K mg base "_law_move" s__law_move ["_law_b", "_law_state_z", "_law_move_here", "_law_mark_z"] 5 NP.l_move := by
  refine fnS_of T.f__law_move sc__law_move (fun _ _ _ _ _ _ us hl => match us, hl with | [_, _, _, _], _ => rfl) fun f cdv A outer s H E o => ?_
  exact dss_one (ds_ret (de_if (dt_cmp (o_eq o) (de_var 2) (de_str)) (de_fn o (ok__law_pass T) (by decide) (da_cons (de_var 0) (da_cons (de_var 1) (da_nil)))) (de_fn o (ok__law_send T) (by decide) (da_cons (de_var 0) (da_cons (de_var 1) (da_cons (de_var 2) (da_cons (de_var 3) (da_nil))))))))
theorem sc__law_tries : FnScope ["_law_b", "_law_letter_z"] ["_law_b"] (defScope s__law_tries) := ⟨rfl, rfl, rfl, by decide +kernel, rfl, by decide +kernel, by decide +kernel⟩
theorem ok__law_tries (T : Tx K mg) : FnS P w K mg base "_law_tries" s__law_tries ["_law_b"] 1 NP.l_tries := by
  refine fnS_of T.f__law_tries sc__law_tries (fun _ _ _ _ _ _ us hl => match us, hl with | [_], _ => rfl) fun f cdv A outer s H E o => ?_
  exact dss_one (ds_ret (de_op o_add (de_lst (da_cons (de_str) (da_nil))) (de_lc [("_law_letter_z", 1)] o (di_seq (de_ix (de_var 0) (de_int))) (fun _ _ _ _ _ o' => dg_name (i := 1) o'.nd) (gd_nm) (fun _ _ _ _ _ o' => dts_nil) (fun _ _ _ _ _ o' => de_var 1))))
theorem sc__law_walk : FnScope ["_law_bag_here", "_law_b", "_law_many", "_law_states", "_law_moves_z", "_law_k", "_law_move_here"] ["_law_bag_here", "_law_b", "_law_many"] (defScope s__law_walk) := ⟨rfl, rfl, rfl, by decide +kernel, rfl, by decide +kernel, by decide +kernel⟩
theorem ok__law_walk (T : Tx K mg) : FnS P w K mg base "_law_walk" s__law_walk ["_law_bag_here", "_law_b", "_law_many"] 6 NP.l_walk := by
  refine fnS_of T.f__law_walk sc__law_walk (fun _ _ _ _ _ _ us hl => match us, hl with | [_, _, _], _ => rfl) fun f cdv A outer s H E o => ?_
  exact dss_cons (ds_par (i := 3) (j := 4) o.calm o.nd (da_cons (de_lst (da_cons (de_fn o (ok__law_first T) (by decide) (da_cons (de_var 1) (da_nil))) (da_nil))) (da_cons (de_lst (da_nil)) (da_nil))))
      (dss_cons (ds_for o (di_range1 (da_cons (de_var 2) (da_nil)) T.n_range) (dg_name (i := 5) o.nd) (gd_nm) (dss_cons (ds_set (i := 6) o.nd (de_if (dt_cmp o_gt (de_fn o (ok__law_draw T) (by decide) (da_cons (de_var 0) (da_cons (de_int) (da_nil)))) (de_int)) (de_str) (de_fn o (ok__law_of T) (by decide) (da_cons (de_var 0) (da_cons (de_sl (de_fn o (ok__law_tries T) (by decide) (da_cons (de_var 1) (da_nil))) (do_some (de_int)) (do_none)) (da_nil))))))
      (dss_cons (ds_expr (de_mt PySem.F.plainAttrs_list PySem.F.slot_list_append PySem.F.type_list_append m_append (de_var 3) (da_cons (de_ix (de_fn o (ok__law_move T) (by decide) (da_cons (de_var 1) (da_cons (de_ix (de_var 3) (de_var 5)) (da_cons (de_var 6) (da_cons (de_int) (da_nil)))))) (de_int)) (da_nil))))
      (dss_one (ds_expr (de_mt PySem.F.plainAttrs_list PySem.F.slot_list_append PySem.F.type_list_append m_append (de_var 4) (da_cons (de_var 6) (da_nil))))))))
      (dss_one (ds_ret (de_tup (da_cons (de_var 3) (da_cons (de_var 4) (da_nil)))))))
theorem sc_aged : FnScope ["state", "memories", "wholes", "order", "found", "place"] ["state"] (defScope s_aged) := ⟨rfl, rfl, rfl, by decide +kernel, rfl, by decide +kernel, by decide +kernel⟩
theorem ok_aged (T : Tx K mg) : FnS P w K mg base "aged" s_aged ["state"] 1 NP.aged := by
  refine fnS_of T.f_aged sc_aged (fun _ _ _ _ _ _ us hl => match us, hl with | [_], _ => rfl) fun f cdv A outer s H E o => ?_
  exact dss_cons (ds_asg (de_var 0) (dg_tup o.calm (dgs_cons (dg_name (i := 1) o.nd) (dgs_cons (dg_name (i := 2) o.nd) (dgs_cons (dg_name (i := 3) o.nd) (dgs_nil))))) (gd_tup (gds_cons gd_nm (gds_cons gd_nm (gds_cons gd_nm (gds_nil))))))
      (dss_cons (ds_if (dt_cmp (o_ne o) (de_ix (de_var 3) (de_int)) (de_tup (da_nil))) (dss_one (ds_ret (de_tup (da_cons (de_var 1) (da_cons (de_var 2) (da_cons (de_tupS (dp_cons (de_tup (da_nil)) (dp_star (de_var 3) (dp_nil)))) (da_nil))))))) (dss_nil))
      (dss_cons (ds_if (dt_cmp (o_eq o) (de_callB c_len T.n_len (by decide +kernel) (da_cons (de_var 3) (da_nil))) (de_int)) (dss_one (ds_ret (de_var 0))) (dss_nil))
      (dss_cons (ds_set (i := 4) o.nd (de_callTy c_list T.n_list (by decide +kernel) (da_cons (de_var 2) (da_nil))))
      (dss_cons (ds_for o (di_seq (de_ix (de_var 3) (de_neg (de_int)))) (dg_name (i := 5) o.nd) (gd_nm) (dss_one (ds_augS ip_add (de_var 4) (de_var 5) (de_int))))
      (dss_one (ds_ret (de_tup (da_cons (de_var 1) (da_cons (de_callTy c_tuple T.n_tuple (by decide +kernel) (da_cons (de_var 4) (da_nil))) (da_cons (de_op o_add (de_tup (da_cons (de_ix (de_var 3) (de_neg (de_int))) (da_nil))) (de_sl (de_var 3) (do_some (de_int)) (do_some (de_neg (de_int))))) (da_nil)))))))))))
theorem sc_Net___len__ : FnScope ["self"] ["self"] (defScope s_Net___len__) := ⟨rfl, rfl, rfl, by decide +kernel, rfl, by decide +kernel, by decide +kernel⟩
theorem ok_Net___len__ (T : Tx K mg) : FnC P w K mg base (cOf mg "Net") "__len__" "Net.__len__" s_Net___len__ ["self"] 1 (NP.Net___len__ (cOf mg)) := by
  refine fnC_of T.f_Net___len__ sc_Net___len__ (fun _ _ _ _ _ _ us hl => match us, hl with | [_], _ => rfl) fun f cdv A outer s H E o => ?_
  exact dss_one (ds_ret (de_callB c_len T.n_len (by decide +kernel) (da_cons (de_fld T.fld_Net_part_list (de_var 0)) (da_nil))))
theorem sc_wait_of : FnScope ["part"] ["part"] (defScope s_wait_of) := ⟨rfl, rfl, rfl, by decide +kernel, rfl, by decide +kernel, by decide +kernel⟩
theorem ok_wait_of (T : Tx K mg) : FnS P w K mg base "wait_of" s_wait_of ["part"] 2 NP.wait_of := by
  refine fnS_of T.f_wait_of sc_wait_of (fun _ _ _ _ _ _ us hl => match us, hl with | [_], _ => rfl) fun f cdv A outer s H E o => ?_
  exact dss_one (ds_ret (de_if (dt_tru (de_fn o (ok_is_timed T) (by decide) (da_cons (de_var 0) (da_nil)))) (de_ix (de_var 0) (de_int)) (de_non)))
theorem sc_due_place : FnScope ["net", "state", "place"] ["net", "state"] (defScope s_due_place) := ⟨rfl, rfl, rfl, by decide +kernel, rfl, by decide +kernel, by decide +kernel⟩
theorem ok_due_place (T : Tx K mg) : FnS P w K mg base "due_place" s_due_place ["net", "state"] 3 (NP.due_place (cOf mg)) := by
  refine fnS_of T.f_due_place sc_due_place (fun _ _ _ _ _ _ us hl => match us, hl with | [_, _], _ => rfl) fun f cdv A outer s H E o => ?_
  exact dss_cons (ds_for o (di_seq (de_ix (de_ix (de_var 1) (de_int)) (de_int))) (dg_name (i := 2) o.nd) (gd_nm) (dss_one (ds_if (dt_w (dw_and (dt_cmp o_lt (de_var 2) (de_len o (ok_Net___len__ T) (by decide) (de_var 0) T.n_len)) (dw_and1 (dt_cmp (o_eq o) (de_ix (de_ix (de_var 1) (de_int)) (de_var 2)) (de_fn o (ok_wait_of T) (by decide) (da_cons (de_ix (de_fld T.fld_Net_part_list (de_var 0)) (de_var 2)) (da_nil))))))) (dss_one (ds_ret (de_var 2))) (dss_nil))))
      (dss_one (ds_ret (de_non)))
theorem sc_Net_place_of : FnScope ["self", "line", "at", "row"] ["self", "line", "at"] (defScope s_Net_place_of) := ⟨rfl, rfl, rfl, by decide +kernel, rfl, by decide +kernel, by decide +kernel⟩
theorem ok_Net_place_of (T : Tx K mg) : FnC P w K mg base (cOf mg "Net") "place_of" "Net.place_of" s_Net_place_of ["self", "line", "at"] 1 (NP.Net_place_of (cOf mg)) := by
  refine fnC_of T.f_Net_place_of sc_Net_place_of (fun _ _ _ _ _ _ us hl => match us, hl with | [_, _, _], _ => rfl) fun f cdv A outer s H E o => ?_
  exact dss_one (ds_ret (de_op o_add (de_callB (c_sum o) T.n_sum (by decide +kernel) (da_cons (de_lc [("row", 3)] o (di_seq (de_sl (de_fld T.fld_Net_line_list (de_var 0)) (do_none) (do_some (de_var 1)))) (fun _ _ _ _ _ o' => dg_name (i := 3) o'.nd) (gd_nm) (fun _ _ _ _ _ o' => dts_nil) (fun _ _ _ _ _ o' => de_callB c_len T.n_len (by decide +kernel) (da_cons (de_var 3) (da_nil)))) (da_nil))) (de_var 2)))
theorem sc_timed_came : FnScope ["word", "running", "memory", "item"] ["word", "running", "memory", "item"] (defScope s_timed_came) := ⟨rfl, rfl, rfl, by decide +kernel, rfl, by decide +kernel, by decide +kernel⟩
theorem ok_timed_came (T : Tx K mg) : FnS P w K mg base "timed_came" s_timed_came ["word", "running", "memory", "item"] 1 NP.timed_came := by
  refine fnS_of T.f_timed_came sc_timed_came (fun _ _ _ _ _ _ us hl => match us, hl with | [_, _, _, _], _ => rfl) fun f cdv A outer s H E o => ?_
  exact dss_cons (ds_if (dt_cmp (o_eq o) (de_var 0) (de_str)) (dss_one (ds_ret (de_tup (da_cons (de_tup (da_cons (de_bl) (da_cons (de_var 3) (da_nil)))) (da_cons (de_non) (da_cons (de_bl) (da_nil))))))) (dss_nil))
      (dss_cons (ds_if (dt_cmp (o_eq o) (de_var 0) (de_str)) (dss_one (ds_ret (de_tup (da_cons (de_tup (da_cons (de_bl) (da_cons (de_var 3) (da_nil)))) (da_cons (de_var 3) (da_cons (de_bl) (da_nil))))))) (dss_nil))
      (dss_cons (ds_if (dt_cmp (o_eq o) (de_var 0) (de_str)) (dss_one (ds_ret (de_tup (da_cons (de_tup (da_cons (de_bl) (da_cons (de_var 3) (da_nil)))) (da_cons (de_non) (da_cons (de_not (de_var 1)) (da_nil))))))) (dss_nil))
      (dss_cons (ds_if (dt_cmp (o_eq o) (de_var 0) (de_str)) (dss_one (ds_ret (de_if (dt_tru (de_var 1)) (de_tup (da_cons (de_var 2) (da_cons (de_non) (da_cons (de_bl) (da_nil))))) (de_tup (da_cons (de_tup (da_cons (de_bl) (da_cons (de_var 3) (da_nil)))) (da_cons (de_non) (da_cons (de_bl) (da_nil)))))))) (dss_nil))
      (dss_cons (ds_if (dt_not (dt_tru (de_var 1))) (dss_one (ds_ret (de_tup (da_cons (de_tup (da_cons (de_bl) (da_cons (de_non) (da_nil)))) (da_cons (de_var 3) (da_cons (de_bl) (da_nil))))))) (dss_nil))
      (dss_one (ds_ret (de_if (dt_cmp (o_eq o) (de_var 0) (de_str)) (de_tup (da_cons (de_tup (da_cons (de_bl) (da_cons (de_var 3) (da_nil)))) (da_cons (de_non) (da_cons (de_bl) (da_nil))))) (de_tup (da_cons (de_var 2) (da_cons (de_non) (da_cons (de_bl) (da_nil))))))))))))
theorem sc_came : FnScope ["part", "memory", "item", "word", "running"] ["part", "memory", "item"] (defScope s_came) := ⟨rfl, rfl, rfl, by decide +kernel, rfl, by decide +kernel, by decide +kernel⟩
theorem ok_came (T : Tx K mg) : FnS P w K mg base "came" s_came ["part", "memory", "item"] 2 NP.came := by
  refine fnS_of T.f_came sc_came (fun _ _ _ _ _ _ us hl => match us, hl with | [_, _, _], _ => rfl) fun f cdv A outer s H E o => ?_
  exact dss_cons (ds_par (i := 3) (j := 4) o.calm o.nd (da_cons (de_ix (de_var 0) (de_int)) (da_cons (de_ix (de_var 1) (de_int)) (da_nil))))
      (dss_cons (ds_if (dt_cmp (o_in o) (de_var 3) (de_g T.g_TIMED)) (dss_one (ds_ret (de_fn o (ok_timed_came T) (by decide) (da_cons (de_var 3) (da_cons (de_var 4) (da_cons (de_var 1) (da_cons (de_var 2) (da_nil)))))))) (dss_nil))
      (dss_cons (ds_if (dt_cmp (o_eq o) (de_var 3) (de_str)) (dss_one (ds_ret (de_if (dt_cmp (o_eq o) (de_ix (de_var 1) (de_int)) (de_ix (de_var 2) (de_int))) (de_tup (da_cons (de_var 1) (da_cons (de_non) (da_cons (de_bl) (da_nil))))) (de_tup (da_cons (de_tup (da_cons (de_bl) (da_cons (de_ix (de_var 2) (de_int)) (da_nil)))) (da_cons (de_var 2) (da_cons (de_bl) (da_nil)))))))) (dss_nil))
      (dss_cons (ds_if (dt_cmp (o_eq o) (de_var 3) (de_str)) (dss_one (ds_ret (de_tup (da_cons (de_var 1) (da_cons (de_if (dt_cmp (o_in o) (de_ix (de_var 2) (de_int)) (de_ix (de_var 0) (de_int))) (de_var 2) (de_non)) (da_cons (de_bl) (da_nil))))))) (dss_nil))
      (dss_one (ds_ret (de_tup (da_cons (de_var 1) (da_cons (de_if (dt_cmp (o_eq o) (de_ix (de_var 2) (de_int)) (de_ix (de_var 0) (de_int))) (de_tup (da_cons (de_ix (de_var 0) (de_int)) (da_cons (de_ix (de_var 2) (de_int)) (da_nil)))) (de_var 2)) (da_cons (de_bl) (da_nil))))))))))
theorem sc_came_at : FnScope ["net", "memories", "place", "item"] ["net", "memories", "place", "item"] (defScope s_came_at) := ⟨rfl, rfl, rfl, by decide +kernel, rfl, by decide +kernel, by decide +kernel⟩
theorem ok_came_at (T : Tx K mg) : FnS P w K mg base "came_at" s_came_at ["net", "memories", "place", "item"] 3 (NP.came_at (cOf mg)) := by
  refine fnS_of T.f_came_at sc_came_at (fun _ _ _ _ _ _ us hl => match us, hl with | [_, _, _, _], _ => rfl) fun f cdv A outer s H E o => ?_
  exact dss_one (ds_ret (de_fn o (ok_came T) (by decide) (da_cons (de_ix (de_fld T.fld_Net_part_list (de_var 0)) (de_var 2)) (da_cons (de_ix (de_var 1) (de_var 2)) (da_cons (de_var 3) (da_nil))))))
theorem sc_put_in : FnScope ["net", "memories", "line", "begin", "item", "found", "started", "places", "place", "starts"] ["net", "memories", "line", "begin", "item"] (defScope s_put_in) := ⟨rfl, rfl, rfl, by decide +kernel, rfl, by decide +kernel, by decide +kernel⟩
theorem ok_put_in (T : Tx K mg) : FnS P w K mg base "put_in" s_put_in ["net", "memories", "line", "begin", "item"] 4 (NP.put_in (cOf mg)) := by
  refine fnS_of T.f_put_in sc_put_in (fun _ _ _ _ _ _ us hl => match us, hl with | [_, _, _, _, _], _ => rfl) fun f cdv A outer s H E o => ?_
  exact dss_cons (ds_par (i := 5) (j := 6) o.calm o.nd (da_cons (de_callTy c_list T.n_list (by decide +kernel) (da_cons (de_var 1) (da_nil))) (da_cons (de_lst (da_nil)) (da_nil))))
      (dss_cons (ds_setLc (i := 7) [("place", 8)] o (di_range1 (da_cons (de_len o (ok_Net___len__ T) (by decide) (de_var 0) T.n_len) (da_nil)) T.n_range) (fun _ _ _ _ _ o' => dg_name (i := 8) o'.nd) (gd_nm) (fun _ _ _ _ _ o' => dts_one (dt_cmp (o_eq o') (de_ix (de_fld T.fld_Net_homes (de_var 0)) (de_var 8)) (de_var 2))) (fun _ _ _ _ _ o' => de_var 8))
      (dss_cons (ds_for o (di_seq (de_sl (de_var 7) (do_some (de_var 3)) (do_none))) (dg_name (i := 8) o.nd) (gd_nm) (dss_one (ds_if (dt_cmp o_isnt (de_var 4) (de_non)) (dss_cons (ds_asg (de_fn o (ok_came_at T) (by decide) (da_cons (de_var 0) (da_cons (de_var 5) (da_cons (de_var 8) (da_cons (de_var 4) (da_nil)))))) (dg_tup o.calm (dgs_cons (dg_sub (de_var 5) (de_var 8)) (dgs_cons (dg_name (i := 4) o.nd) (dgs_cons (dg_name (i := 9) o.nd) (dgs_nil))))) (gd_tup (gds_cons gd_sub (gds_cons gd_nm (gds_cons gd_nm (gds_nil))))))
      (dss_one (ds_set (i := 6) o.nd (de_op o_add (de_var 6) (de_op o_mul (de_lst (da_cons (de_var 8) (da_nil))) (de_callTy c_int T.n_int (by decide +kernel) (da_cons (de_var 9) (da_nil)))))))) (dss_nil))))
      (dss_one (ds_ret (de_tup (da_cons (de_callTy c_tuple T.n_tuple (by decide +kernel) (da_cons (de_var 5) (da_nil))) (da_cons (de_var 6) (da_cons (de_var 4) (da_nil)))))))))
theorem sc_rang : FnScope ["part", "memory", "word", "kept"] ["part", "memory"] (defScope s_rang) := ⟨rfl, rfl, rfl, by decide +kernel, rfl, by decide +kernel, by decide +kernel⟩
theorem ok_rang (T : Tx K mg) : FnS P w K mg base "rang" s_rang ["part", "memory"] 1 NP.rang := by
  refine fnS_of T.f_rang sc_rang (fun _ _ _ _ _ _ us hl => match us, hl with | [_, _], _ => rfl) fun f cdv A outer s H E o => ?_
  exact dss_cons (ds_par (i := 2) (j := 3) o.calm o.nd (da_cons (de_ix (de_var 0) (de_int)) (da_cons (de_ix (de_var 1) (de_int)) (da_nil))))
      (dss_cons (ds_if (dt_cmp (o_eq o) (de_var 2) (de_str)) (dss_one (ds_ret (de_tup (da_cons (de_tup (da_cons (de_bl) (da_cons (de_var 3) (da_nil)))) (da_cons (de_var 3) (da_cons (de_bl) (da_nil))))))) (dss_nil))
      (dss_cons (ds_if (dt_w (dw_and (dt_cmp (o_eq o) (de_var 2) (de_str)) (dw_and1 (dt_cmp o_isnt (de_var 3) (de_non))))) (dss_one (ds_ret (de_tup (da_cons (de_tup (da_cons (de_bl) (da_cons (de_non) (da_nil)))) (da_cons (de_var 3) (da_cons (de_bl) (da_nil))))))) (dss_nil))
      (dss_one (ds_ret (de_tup (da_cons (de_g T.g_RESTING) (da_cons (de_var 3) (da_cons (de_bl) (da_nil)))))))))
theorem sc_fired : FnScope ["net", "memories", "place", "line", "memory", "item", "starts", "late", "started", "told", "outputs"] ["net", "memories", "place"] (defScope s_fired) := ⟨rfl, rfl, rfl, by decide +kernel, rfl, by decide +kernel, by decide +kernel⟩
theorem ok_fired (T : Tx K mg) : FnS P w K mg base "fired" s_fired ["net", "memories", "place"] 5 (NP.fired (cOf mg)) := by
  refine fnS_of T.f_fired sc_fired (fun _ _ _ _ _ _ us hl => match us, hl with | [_, _, _], _ => rfl) fun f cdv A outer s H E o => ?_
  exact dss_cons (ds_set (i := 3) o.nd (de_ix (de_fld T.fld_Net_homes (de_var 0)) (de_var 2)))
      (dss_cons (ds_asg (de_fn o (ok_rang T) (by decide) (da_cons (de_ix (de_fld T.fld_Net_part_list (de_var 0)) (de_var 2)) (da_cons (de_ix (de_var 1) (de_var 2)) (da_nil)))) (dg_tup o.calm (dgs_cons (dg_name (i := 4) o.nd) (dgs_cons (dg_name (i := 5) o.nd) (dgs_cons (dg_name (i := 6) o.nd) (dgs_nil))))) (gd_tup (gds_cons gd_nm (gds_cons gd_nm (gds_cons gd_nm (gds_nil))))))
      (dss_cons (ds_set (i := 7) o.nd (de_op o_add (de_op o_add (de_sl (de_var 1) (do_none) (do_some (de_var 2))) (de_tup (da_cons (de_var 4) (da_nil)))) (de_sl (de_var 1) (do_some (de_op o_add (de_var 2) (de_int))) (do_none))))
      (dss_cons (ds_asg (de_fn o (ok_put_in T) (by decide) (da_cons (de_var 0) (da_cons (de_var 7) (da_cons (de_var 3) (da_cons (de_op o_add (de_op o_sub (de_var 2) (de_meth o T.cls_Net (ok_Net_place_of T) (by decide) (de_var 0) (da_cons (de_var 3) (da_cons (de_int) (da_nil))))) (de_int)) (da_cons (de_var 5) (da_nil))))))) (dg_tup o.calm (dgs_cons (dg_name (i := 7) o.nd) (dgs_cons (dg_name (i := 8) o.nd) (dgs_cons (dg_name (i := 9) o.nd) (dgs_nil))))) (gd_tup (gds_cons gd_nm (gds_cons gd_nm (gds_cons gd_nm (gds_nil))))))
      (dss_cons (ds_set (i := 10) o.nd (de_if (dt_cmp o_is (de_var 9) (de_non)) (de_lst (da_nil)) (de_lst (da_cons (de_tupS (dp_star (de_var 9) (dp_cons (de_var 3) (dp_nil)))) (da_nil)))))
      (dss_one (ds_ret (de_tup (da_cons (de_var 7) (da_cons (de_op o_add (de_op o_mul (de_lst (da_cons (de_var 2) (da_nil))) (de_callTy c_int T.n_int (by decide +kernel) (da_cons (de_var 6) (da_nil)))) (de_var 8)) (da_cons (de_var 10) (da_nil)))))))))))
theorem sc_restarted : FnScope ["net", "state", "memories", "started", "wholes", "order", "kept", "groups", "found", "place", "late", "group"] ["net", "state", "memories", "started"] (defScope s_restarted) := ⟨rfl, rfl, rfl, by decide +kernel, rfl, by decide +kernel, by decide +kernel⟩
theorem ok_restarted (T : Tx K mg) : FnS P w K mg base "restarted" s_restarted ["net", "state", "memories", "started"] 3 (NP.restarted (cOf mg)) := by
  refine fnS_of T.f_restarted sc_restarted (fun _ _ _ _ _ _ us hl => match us, hl with | [_, _, _, _], _ => rfl) fun f cdv A outer s H E o => ?_
  exact dss_cons (ds_par (i := 4) (j := 5) o.calm o.nd (da_cons (de_ix (de_var 1) (de_int)) (da_cons (de_ix (de_var 1) (de_int)) (da_nil))))
      (dss_cons (ds_set (i := 6) o.nd (de_lc [("place", 9)] o (di_range1 (da_cons (de_callB c_len T.n_len (by decide +kernel) (da_cons (de_var 4) (da_nil))) (da_nil)) T.n_range) (fun _ _ _ _ _ o' => dg_name (i := 9) o'.nd) (gd_nm) (fun _ _ _ _ _ o' => dts_nil) (fun _ _ _ _ _ o' => de_or (de_cmp o_ge (de_var 9) (de_len o' (ok_Net___len__ T) (by decide) (de_var 0) T.n_len)) (de_one (de_and (de_ix (de_ix (de_var 2) (de_var 9)) (de_int)) (de_one (de_cmp (o_nin o') (de_var 9) (de_var 3))))))))
      (dss_cons (ds_setLc (i := 7) [("group", 11)] o (di_seq (de_var 5)) (fun _ _ _ _ _ o' => dg_name (i := 11) o'.nd) (gd_nm) (fun _ _ _ _ _ o' => dts_nil) (fun _ _ _ _ _ o' => de_callTy c_tuple T.n_tuple (by decide +kernel) (da_cons (de_lc [("place", 9)] o' (di_seq (de_var 11)) (fun _ _ _ _ _ o' => dg_name (i := 9) o'.nd) (gd_nm) (fun _ _ _ _ _ o' => dts_one (dt_tru (de_ix (de_var 6) (de_var 9)))) (fun _ _ _ _ _ o' => de_var 9)) (da_nil))))
      (dss_cons (ds_set (i := 8) o.nd (de_callTy c_list T.n_list (by decide +kernel) (da_cons (de_var 4) (da_nil))))
      (dss_cons (ds_for o (di_range1 (da_cons (de_len o (ok_Net___len__ T) (by decide) (de_var 0) T.n_len) (da_nil)) T.n_range) (dg_name (i := 9) o.nd) (gd_nm) (dss_one (ds_if (dt_not (dt_tru (de_ix (de_var 6) (de_var 9)))) (dss_one (ds_asg (de_if (dt_cmp (o_in o) (de_var 9) (de_var 3)) (de_int) (de_non)) (dg_sub (de_var 8) (de_var 9)) (gd_sub))) (dss_nil))))
      (dss_cons (ds_setLc (i := 10) [("group", 11)] o (di_seq (de_sl (de_var 7) (do_some (de_int)) (do_none))) (fun _ _ _ _ _ o' => dg_name (i := 11) o'.nd) (gd_nm) (fun _ _ _ _ _ o' => dts_one (dt_cmp (o_ne o') (de_var 11) (de_tup (da_nil)))) (fun _ _ _ _ _ o' => de_var 11))
      (dss_one (ds_ret (de_tup (da_cons (de_var 2) (da_cons (de_callTy c_tuple T.n_tuple (by decide +kernel) (da_cons (de_var 8) (da_nil))) (da_cons (de_tupS (dp_cons (de_callTy c_tuple T.n_tuple (by decide +kernel) (da_cons (de_callB c_sort T.n_sorted (by decide +kernel) (da_cons (de_op o_add (de_callTy c_list T.n_list (by decide +kernel) (da_cons (de_ix (de_var 7) (de_int)) (da_nil))) (de_var 3)) (da_nil))) (da_nil))) (dp_star (de_var 10) (dp_nil)))) (da_nil))))))))))))
theorem sc_settled : FnScope ["net", "state", "outputs", "due", "memories", "started", "told"] ["net", "state"] (defScope s_settled) := ⟨rfl, rfl, rfl, by decide +kernel, rfl, by decide +kernel, by decide +kernel⟩
theorem ok_settled (T : Tx K mg) : FnS P w K mg base "settled" s_settled ["net", "state"] 6 (NP.settled (cOf mg)) := by
  refine fnS_of T.f_settled sc_settled (fun _ _ _ _ _ _ us hl => match us, hl with | [_, _], _ => rfl) fun f cdv A outer s H E o => ?_
  exact dss_cons (ds_par (i := 2) (j := 3) o.calm o.nd (da_cons (de_lst (da_nil)) (da_cons (de_fn o (ok_due_place T) (by decide) (da_cons (de_var 0) (da_cons (de_var 1) (da_nil)))) (da_nil))))
      (dss_cons (ds_while fuel0 o (dt_cmp o_isnt (de_var 3) (de_non)) (dss_cons (ds_asg (de_fn o (ok_fired T) (by decide) (da_cons (de_var 0) (da_cons (de_ix (de_var 1) (de_int)) (da_cons (de_var 3) (da_nil))))) (dg_tup o.calm (dgs_cons (dg_name (i := 4) o.nd) (dgs_cons (dg_name (i := 5) o.nd) (dgs_cons (dg_name (i := 6) o.nd) (dgs_nil))))) (gd_tup (gds_cons gd_nm (gds_cons gd_nm (gds_cons gd_nm (gds_nil))))))
      (dss_cons (ds_set (i := 1) o.nd (de_fn o (ok_restarted T) (by decide) (da_cons (de_var 0) (da_cons (de_var 1) (da_cons (de_var 4) (da_cons (de_var 5) (da_nil)))))))
      (dss_cons (ds_expr (de_mt PySem.F.plainAttrs_list PySem.F.slot_list_extend PySem.F.type_list_extend m_extend (de_var 2) (da_cons (de_var 6) (da_nil))))
      (dss_one (ds_set (i := 3) o.nd (de_fn o (ok_due_place T) (by decide) (da_cons (de_var 0) (da_cons (de_var 1) (da_nil))))))))))
      (dss_one (ds_ret (de_tup (da_cons (de_var 1) (da_cons (de_var 2) (da_nil)))))))
theorem sc_passed : FnScope ["net", "state"] ["net", "state"] (defScope s_passed) := ⟨rfl, rfl, rfl, by decide +kernel, rfl, by decide +kernel, by decide +kernel⟩
theorem ok_passed (T : Tx K mg) : FnS P w K mg base "passed" s_passed ["net", "state"] 7 (NP.passed (cOf mg)) := by
  refine fnS_of T.f_passed sc_passed (fun _ _ _ _ _ _ us hl => match us, hl with | [_, _], _ => rfl) fun f cdv A outer s H E o => ?_
  exact dss_one (ds_ret (de_fn o (ok_settled T) (by decide) (da_cons (de_var 0) (da_cons (de_fn o (ok_aged T) (by decide) (da_cons (de_var 1) (da_nil))) (da_nil)))))
theorem sc_entered : FnScope ["net", "memories", "item", "started", "outputs", "line", "fresh", "told"] ["net", "memories", "item"] (defScope s_entered) := ⟨rfl, rfl, rfl, by decide +kernel, rfl, by decide +kernel, by decide +kernel⟩
theorem ok_entered (T : Tx K mg) : FnS P w K mg base "entered" s_entered ["net", "memories", "item"] 5 (NP.entered (cOf mg)) := by
  refine fnS_of T.f_entered sc_entered (fun _ _ _ _ _ _ us hl => match us, hl with | [_, _, _], _ => rfl) fun f cdv A outer s H E o => ?_
  exact dss_cons (ds_par (i := 3) (j := 4) o.calm o.nd (da_cons (de_lst (da_nil)) (da_cons (de_lst (da_nil)) (da_nil))))
      (dss_cons (ds_for o (di_range1 (da_cons (de_callB c_len T.n_len (by decide +kernel) (da_cons (de_fld T.fld_Net_line_list (de_var 0)) (da_nil))) (da_nil)) T.n_range) (dg_name (i := 5) o.nd) (gd_nm) (dss_cons (ds_asg (de_fn o (ok_put_in T) (by decide) (da_cons (de_var 0) (da_cons (de_var 1) (da_cons (de_var 5) (da_cons (de_int) (da_cons (de_var 2) (da_nil))))))) (dg_tup o.calm (dgs_cons (dg_name (i := 1) o.nd) (dgs_cons (dg_name (i := 6) o.nd) (dgs_cons (dg_name (i := 7) o.nd) (dgs_nil))))) (gd_tup (gds_cons gd_nm (gds_cons gd_nm (gds_cons gd_nm (gds_nil))))))
      (dss_cons (ds_set (i := 3) o.nd (de_op o_add (de_var 3) (de_var 6)))
      (dss_one (ds_if (dt_cmp o_isnt (de_var 7) (de_non)) (dss_one (ds_expr (de_mt PySem.F.plainAttrs_list PySem.F.slot_list_append PySem.F.type_list_append m_append (de_var 4) (da_cons (de_tupS (dp_star (de_var 7) (dp_cons (de_var 5) (dp_nil)))) (da_nil))))) (dss_nil))))))
      (dss_one (ds_ret (de_tup (da_cons (de_var 1) (da_cons (de_var 3) (da_cons (de_var 4) (da_nil))))))))
theorem sc_sent : FnScope ["net", "state", "letter", "mark", "memories", "started", "outputs"] ["net", "state", "letter", "mark"] (defScope s_sent) := ⟨rfl, rfl, rfl, by decide +kernel, rfl, by decide +kernel, by decide +kernel⟩
theorem ok_sent (T : Tx K mg) : FnD P w K mg base "sent" s_sent ["net", "state", "letter", "mark"] 6 (NP.sent (cOf mg)) [("mark", V.int 0)] := by
  refine fnD_of T.f_sent sc_sent fun f cdv A outer s H E o => ?_
  exact dss_cons (ds_asg (de_fn o (ok_entered T) (by decide) (da_cons (de_var 0) (da_cons (de_ix (de_var 1) (de_int)) (da_cons (de_tup (da_cons (de_var 2) (da_cons (de_var 3) (da_nil)))) (da_nil))))) (dg_tup o.calm (dgs_cons (dg_name (i := 4) o.nd) (dgs_cons (dg_name (i := 5) o.nd) (dgs_cons (dg_name (i := 6) o.nd) (dgs_nil))))) (gd_tup (gds_cons gd_nm (gds_cons gd_nm (gds_cons gd_nm (gds_nil))))))
      (dss_one (ds_ret (de_tup (da_cons (de_fn o (ok_restarted T) (by decide) (da_cons (de_var 0) (da_cons (de_var 1) (da_cons (de_var 4) (da_cons (de_var 5) (da_nil)))))) (da_cons (de_var 6) (da_nil))))))
theorem sc_law : FnScope ["_law_script", "_law_bag_here", "_law_b", "_law_net_z", "_law_states", "_law_state_z", "_law_letter_z", "_law_mark_z", "_law_due", "_law_found", "_law_late", "_law_sign"] ["_law_script"] (defScope s_law) := ⟨rfl, rfl, rfl, by decide +kernel, rfl, by decide +kernel, by decide +kernel⟩
theorem ok_law (T : Tx K mg) : FnS P w K mg base "law" s_law ["_law_script"] 25 (NP.law (cOf mg)) := by
  refine fnS_of T.f_law sc_law (fun _ _ _ _ _ _ us hl => match us, hl with | [_], _ => rfl) fun f cdv A outer s H E o => ?_
  exact dss_cons (ds_set (i := 1) o.nd (de_fn o (ok__law_bag T) (by decide) (da_cons (de_var 0) (da_nil))))
      (dss_cons (ds_set (i := 2) o.nd (de_fn o (ok__law_some_net T) (by decide) (da_cons (de_var 1) (da_cons (de_int) (da_cons (de_int) (da_cons (de_int) (da_nil)))))))
      (dss_cons (ds_par (i := 3) (j := 4) o.calm o.nd (da_cons (de_fn o (ok__law_net T) (by decide) (da_cons (de_var 2) (da_nil))) (da_cons (de_ix (de_fn o (ok__law_walk T) (by decide) (da_cons (de_var 1) (da_cons (de_var 2) (da_cons (de_int) (da_nil))))) (de_int)) (da_nil))))
      (dss_cons (ds_for o (di_seq (de_var 4)) (dg_name (i := 5) o.nd) (gd_nm) (dss_cons (ds_par (i := 6) (j := 7) o.calm o.nd (da_cons (de_fn o (ok__law_of T) (by decide) (da_cons (de_var 1) (da_cons (de_lc [("_law_sign", 11)] o (di_seq (de_ix (de_var 2) (de_int))) (fun _ _ _ _ _ o' => dg_name (i := 11) o'.nd) (gd_nm) (fun _ _ _ _ _ o' => dts_nil) (fun _ _ _ _ _ o' => de_var 11)) (da_nil)))) (da_cons (de_fn o (ok__law_draw T) (by decide) (da_cons (de_var 1) (da_cons (de_int) (da_nil)))) (da_nil))))
      (dss_cons (ds_set (i := 8) o.nd (de_fn o (ok__law_send T) (by decide) (da_cons (de_var 2) (da_cons (de_var 5) (da_cons (de_var 6) (da_cons (de_var 7) (da_nil)))))))
      (dss_cons (ds_set (i := 9) o.nd (de_lst (da_cons (de_fnBK (n1 := 0) [0, 1, 2, 3] ["mark"] o ((ok_sent T)).b (by decide) (da_cons (de_var 3) (da_cons (de_var 5) (da_cons (de_var 6) (da_nil)))) (dk_cons (de_var 7) (dk_nil)) (fun _ _ _ _ _ _ us ws h1 h2 => match us, ws, h1, h2 with | [_, _, _], [_], _, _ => rfl)) (da_cons (de_fnBK0 [2, 1, 0, 3] ["letter", "state", "net", "mark"] o ((ok_sent T)).b (by decide) (dk_cons (de_var 6) (dk_cons (de_var 5) (dk_cons (de_var 3) (dk_cons (de_var 7) (dk_nil))))) (fun _ _ _ _ _ _ ws h2 => match ws, h2 with | [_, _, _, _], _ => rfl)) (da_nil)))))
      (dss_cons (ds_if (dt_w (dw_or (dt_not (dt_tru (de_fn o (ok__law_same_ T 24) (by decide) (da_cons (de_var 9) (da_cons (de_lst (da_cons (de_var 8) (da_cons (de_var 8) (da_nil)))) (da_nil)))))) (dw_or1 (dt_not (dt_tru (de_fn o (ok__law_same_ T 24) (by decide) (da_cons (de_fnD [(.int 0)] o (ok_sent T) (by decide) (da_cons (de_var 3) (da_cons (de_var 5) (da_cons (de_var 6) (da_nil)))) (fun _ _ => .cons (.int _) (.nil)) (by decide) (fun _ _ _ _ _ _ us ks h1 h2 => match us, ks, h1, h2 with | [_, _, _], [_], _, _ => ⟨_, _, _, _, _, _, rfl, rfl, rfl⟩)) (da_cons (de_fn o (ok__law_send T) (by decide) (da_cons (de_var 2) (da_cons (de_var 5) (da_cons (de_var 6) (da_cons (de_int) (da_nil)))))) (da_nil))))))))) (dss_one (ds_ret (de_bl))) (dss_nil))
      (dss_cons (ds_set (i := 10) o.nd (de_fn o (ok__law_pass T) (by decide) (da_cons (de_var 2) (da_cons (de_ix (de_var 8) (de_int)) (da_nil)))))
      (dss_one (ds_if (dt_not (dt_tru (de_fn o (ok__law_same_ T 24) (by decide) (da_cons (de_fn o (ok_passed T) (by decide) (da_cons (de_var 3) (da_cons (de_ix (de_var 8) (de_int)) (da_nil)))) (da_cons (de_var 10) (da_nil)))))) (dss_one (ds_ret (de_bl))) (dss_nil)))))))))
      (dss_one (ds_ret (de_bl))))))
end
end Lw
namespace Lw
open PySem PySem.Spec L2 NL
theorem law_true (c : CA) (ns : List Int) (h : ns.length ≤ 63) : ∃ lh', NP.law c [.fl (ns.map D.int)] [] = .ok (.bl true) lh' := NP.law_pure c ns h
end Lw
set_option maxRecDepth 100000
set_option maxHeartbeats 4000000
namespace Lw
open PySem PySem.Spec L2 NL
theorem tx {K : PySem.W.Frag} {h : Heap} {mg : Str → Option Value} (X : K.In h) (G : h.Ns mainGlobals mg)
    {t_LETTERS : Tok}
    {t_LONGEST : Tok}
    {t_MOST_LINES : Tok}
    {t_MOST_PARTS : Tok}
    {t_MOST_TIMERS : Tok}
    {p_RESTING : Addr} {dd_RESTING : Option Addr} {us_RESTING : List Value} {n_RESTING : Nat} {sl_RESTING : Array (Option Value)}
    {p_TIMED : Addr} {dd_TIMED : Option Addr} {us_TIMED : List Value} {n_TIMED : Nat} {sl_TIMED : Array (Option Value)}
    {C_Net : Addr}
    {f0 : Addr} {od0 an0 : Option Addr} {sl0 : Array (Option Value)} {oc0 kV0 dc0 pm0 cd0 ct0 : Value}
    {f1 : Addr} {od1 an1 : Option Addr} {sl1 : Array (Option Value)} {oc1 kV1 dc1 pm1 cd1 ct1 : Value}
    {f2 : Addr} {od2 an2 : Option Addr} {sl2 : Array (Option Value)} {oc2 kV2 dc2 pm2 cd2 ct2 : Value}
    {f3 : Addr} {od3 an3 : Option Addr} {sl3 : Array (Option Value)} {oc3 kV3 dc3 pm3 cd3 ct3 : Value}
    {f4 : Addr} {od4 an4 : Option Addr} {sl4 : Array (Option Value)} {oc4 kV4 dc4 pm4 cd4 ct4 : Value}
    {f5 : Addr} {od5 an5 : Option Addr} {sl5 : Array (Option Value)} {oc5 kV5 dc5 pm5 cd5 ct5 : Value}
    {f6 : Addr} {od6 an6 : Option Addr} {sl6 : Array (Option Value)} {oc6 kV6 dc6 pm6 cd6 ct6 : Value}
    {f7 : Addr} {od7 an7 : Option Addr} {sl7 : Array (Option Value)} {oc7 kV7 dc7 pm7 cd7 ct7 : Value}
    {f8 : Addr} {od8 an8 : Option Addr} {sl8 : Array (Option Value)} {oc8 kV8 dc8 pm8 cd8 ct8 : Value}
    {f9 : Addr} {od9 an9 : Option Addr} {sl9 : Array (Option Value)} {oc9 kV9 dc9 pm9 cd9 ct9 : Value}
    {f10 : Addr} {od10 an10 : Option Addr} {sl10 : Array (Option Value)} {oc10 kV10 dc10 pm10 cd10 ct10 : Value}
    {f11 : Addr} {od11 an11 : Option Addr} {sl11 : Array (Option Value)} {oc11 kV11 dc11 pm11 cd11 ct11 : Value}
    {f12 : Addr} {od12 an12 : Option Addr} {sl12 : Array (Option Value)} {oc12 kV12 dc12 pm12 cd12 ct12 : Value}
    {f13 : Addr} {od13 an13 : Option Addr} {sl13 : Array (Option Value)} {oc13 kV13 dc13 pm13 cd13 ct13 : Value}
    {f14 : Addr} {od14 an14 : Option Addr} {sl14 : Array (Option Value)} {oc14 kV14 dc14 pm14 cd14 ct14 : Value}
    {f15 : Addr} {od15 an15 : Option Addr} {sl15 : Array (Option Value)} {oc15 kV15 dc15 pm15 cd15 ct15 : Value}
    {f16 : Addr} {od16 an16 : Option Addr} {sl16 : Array (Option Value)} {oc16 kV16 dc16 pm16 cd16 ct16 : Value}
    {f17 : Addr} {od17 an17 : Option Addr} {sl17 : Array (Option Value)} {oc17 kV17 dc17 pm17 cd17 ct17 : Value}
    {f18 : Addr} {od18 an18 : Option Addr} {sl18 : Array (Option Value)} {oc18 kV18 dc18 pm18 cd18 ct18 : Value}
    {f19 : Addr} {od19 an19 : Option Addr} {sl19 : Array (Option Value)} {oc19 kV19 dc19 pm19 cd19 ct19 : Value}
    {f20 : Addr} {od20 an20 : Option Addr} {sl20 : Array (Option Value)} {oc20 kV20 dc20 pm20 cd20 ct20 : Value}
    {f21 : Addr} {od21 an21 : Option Addr} {sl21 : Array (Option Value)} {oc21 kV21 dc21 pm21 cd21 ct21 : Value}
    {f22 : Addr} {od22 an22 : Option Addr} {sl22 : Array (Option Value)} {oc22 kV22 dc22 pm22 cd22 ct22 : Value}
    {f23 : Addr} {od23 an23 : Option Addr} {sl23 : Array (Option Value)} {oc23 kV23 dc23 pm23 cd23 ct23 : Value}
    {f24 : Addr} {od24 an24 : Option Addr} {sl24 : Array (Option Value)} {oc24 kV24 dc24 pm24 cd24 ct24 : Value}
    {f25 : Addr} {od25 an25 : Option Addr} {sl25 : Array (Option Value)} {oc25 kV25 dc25 pm25 cd25 ct25 : Value}
    {f26 : Addr} {od26 an26 : Option Addr} {sl26 : Array (Option Value)} {oc26 kV26 dc26 pm26 cd26 ct26 : Value}
    {f27 : Addr} {od27 an27 : Option Addr} {sl27 : Array (Option Value)} {oc27 kV27 dc27 pm27 cd27 ct27 : Value}
    {f28 : Addr} {od28 an28 : Option Addr} {sl28 : Array (Option Value)} {oc28 kV28 dc28 pm28 cd28 ct28 : Value}
    {f29 : Addr} {od29 an29 : Option Addr} {sl29 : Array (Option Value)} {oc29 kV29 dc29 pm29 cd29 ct29 : Value}
    {f30 : Addr} {od30 an30 : Option Addr} {sl30 : Array (Option Value)} {oc30 kV30 dc30 pm30 cd30 ct30 : Value}
    {f31 : Addr} {od31 an31 : Option Addr} {sl31 : Array (Option Value)} {oc31 kV31 dc31 pm31 cd31 ct31 : Value}
    {f32 : Addr} {od32 an32 : Option Addr} {sl32 : Array (Option Value)} {oc32 kV32 dc32 pm32 cd32 ct32 : Value}
    {f33 : Addr} {od33 an33 : Option Addr} {sl33 : Array (Option Value)} {oc33 kV33 dc33 pm33 cd33 ct33 : Value}
    {f34 : Addr} {od34 an34 : Option Addr} {sl34 : Array (Option Value)} {oc34 kV34 dc34 pm34 cd34 ct34 : Value}
    {f35 : Addr} {od35 an35 : Option Addr} {sl35 : Array (Option Value)} {oc35 kV35 dc35 pm35 cd35 ct35 : Value}
    {f36 : Addr} {od36 an36 : Option Addr} {sl36 : Array (Option Value)} {oc36 kV36 dc36 pm36 cd36 ct36 : Value}
    {f37 : Addr} {od37 an37 : Option Addr} {sl37 : Array (Option Value)} {oc37 kV37 dc37 pm37 cd37 ct37 : Value}
    {f38 : Addr} {od38 an38 : Option Addr} {sl38 : Array (Option Value)} {oc38 kV38 dc38 pm38 cd38 ct38 : Value}
    {f39 : Addr} {od39 an39 : Option Addr} {sl39 : Array (Option Value)} {oc39 kV39 dc39 pm39 cd39 ct39 : Value}
    {f40 : Addr} {od40 an40 : Option Addr} {sl40 : Array (Option Value)} {oc40 kV40 dc40 pm40 cd40 ct40 : Value}
    {f41 : Addr} {od41 an41 : Option Addr} {sl41 : Array (Option Value)} {oc41 kV41 dc41 pm41 cd41 ct41 : Value}
    {f42 : Addr} {od42 an42 : Option Addr} {sl42 : Array (Option Value)} {oc42 kV42 dc42 pm42 cd42 ct42 : Value}
    {f43 : Addr} {od43 an43 : Option Addr} {sl43 : Array (Option Value)} {oc43 kV43 dc43 pm43 cd43 ct43 : Value}
    {f44 : Addr} {od44 an44 : Option Addr} {sl44 : Array (Option Value)} {oc44 kV44 dc44 pm44 cd44 ct44 : Value}
    {f45 : Addr} {od45 an45 : Option Addr} {sl45 : Array (Option Value)} {oc45 kV45 dc45 pm45 cd45 ct45 : Value}
    {f46 : Addr} {od46 an46 : Option Addr} {sl46 : Array (Option Value)} {oc46 kV46 dc46 pm46 cd46 ct46 : Value}
    {f47 : Addr} {od47 an47 : Option Addr} {sl47 : Array (Option Value)} {oc47 kV47 dc47 pm47 cd47 ct47 : Value}
    {f48 : Addr} {od48 an48 : Option Addr} {sl48 : Array (Option Value)} {oc48 kV48 dc48 pm48 cd48 ct48 : Value}
    {f49 : Addr} {od49 an49 : Option Addr} {sl49 : Array (Option Value)} {oc49 kV49 dc49 pm49 cd49 ct49 : Value}
    {f50 : Addr} {od50 an50 : Option Addr} {sl50 : Array (Option Value)} {oc50 dc50 pm50 cd50 ct50 : Value}
    {D50 : Addr}
    {tk50_0 : Tok}
    {f51 : Addr} {od51 an51 : Option Addr} {sl51 : Array (Option Value)} {oc51 kV51 dc51 pm51 cd51 ct51 : Value}
    (z_all : PySem.W.nsIn K mainGlobals "all" = some none)
    (z_bool : PySem.W.nsIn K mainGlobals "bool" = some none)
    (z_enumerate : PySem.W.nsIn K mainGlobals "enumerate" = some none)
    (z_int : PySem.W.nsIn K mainGlobals "int" = some none)
    (z_isinstance : PySem.W.nsIn K mainGlobals "isinstance" = some none)
    (z_len : PySem.W.nsIn K mainGlobals "len" = some none)
    (z_list : PySem.W.nsIn K mainGlobals "list" = some none)
    (z_range : PySem.W.nsIn K mainGlobals "range" = some none)
    (z_set : PySem.W.nsIn K mainGlobals "set" = some none)
    (z_sorted : PySem.W.nsIn K mainGlobals "sorted" = some none)
    (z_str : PySem.W.nsIn K mainGlobals "str" = some none)
    (z_sum : PySem.W.nsIn K mainGlobals "sum" = some none)
    (z_tuple : PySem.W.nsIn K mainGlobals "tuple" = some none)
    (z_zip : PySem.W.nsIn K mainGlobals "zip" = some none)
    (q_LETTERS : PySem.W.nsIn K mainGlobals "LETTERS" = some (some (.str (PySem.Str.ofString "abc") t_LETTERS)))
    (q_LONGEST : PySem.W.nsIn K mainGlobals "LONGEST" = some (some (.int 9 t_LONGEST)))
    (q_MOST_LINES : PySem.W.nsIn K mainGlobals "MOST_LINES" = some (some (.int 4 t_MOST_LINES)))
    (q_MOST_PARTS : PySem.W.nsIn K mainGlobals "MOST_PARTS" = some (some (.int 4 t_MOST_PARTS)))
    (q_MOST_TIMERS : PySem.W.nsIn K mainGlobals "MOST_TIMERS" = some (some (.int 6 t_MOST_TIMERS)))
    (q_RESTING : PySem.W.nsIn K mainGlobals "RESTING" = some (some (.ref p_RESTING))) (l_RESTING : K.lookup p_RESTING = some ⟨.type "tuple", dd_RESTING, .seq us_RESTING.toArray n_RESTING, sl_RESTING⟩) (d_RESTING : DV [(.bl false), .non] us_RESTING)
    (q_TIMED : PySem.W.nsIn K mainGlobals "TIMED" = some (some (.ref p_TIMED))) (l_TIMED : K.lookup p_TIMED = some ⟨.type "tuple", dd_TIMED, .seq us_TIMED.toArray n_TIMED, sl_TIMED⟩) (d_TIMED : DV [(.str (PySem.Str.ofString "quiet")), (.str (PySem.Str.ofString "first")), (.str (PySem.Str.ofString "late")), (.str (PySem.Str.ofString "hold")), (.str (PySem.Str.ofString "both")), (.str (PySem.Str.ofString "again"))] us_TIMED)
    (q_Net : PySem.W.nsIn K mainGlobals "Net" = some (some (.ref C_Net))) (b1_Net : PySem.W.plainGet K C_Net Str.empty = true) (b2_Net : PySem.W.hasDictIn K C_Net = true) (b3_Net : PySem.W.plainOver K C_Net = true) (b4_Net : PySem.W.findIn K (.ref C_Net) "__setattr__" = some (some (.builtin "object.__setattr__")))
    (v_Net_homes : PySem.W.findIn K (.ref C_Net) "homes" = some none)
    (v_Net_line_list : PySem.W.findIn K (.ref C_Net) "line_list" = some none)
    (v_Net_own_letters : PySem.W.findIn K (.ref C_Net) "own_letters" = some none)
    (v_Net_part_list : PySem.W.findIn K (.ref C_Net) "part_list" = some none)
    (a0 : PySem.W.nsIn K mainGlobals "_law_bag" = some (some (.ref f0))) (l0 : K.lookup f0 = some ⟨oc0, od0, .func (PySem.W.fnOf "_law_bag" "_law_bag" (defArgs s__law_bag) (defBody s__law_bag) (defScope s__law_bag) .none kV0 dc0 pm0 an0 cd0 ct0), sl0⟩) (c0 : PySem.W.codeIn K cd0 "_law_bag" = true) (k0 : PySem.W.keepIn K (.ref f0) = true)
    (a1 : PySem.W.nsIn K mainGlobals "_law_draw" = some (some (.ref f1))) (l1 : K.lookup f1 = some ⟨oc1, od1, .func (PySem.W.fnOf "_law_draw" "_law_draw" (defArgs s__law_draw) (defBody s__law_draw) (defScope s__law_draw) .none kV1 dc1 pm1 an1 cd1 ct1), sl1⟩) (c1 : PySem.W.codeIn K cd1 "_law_draw" = true) (k1 : PySem.W.keepIn K (.ref f1) = true)
    (a2 : PySem.W.nsIn K mainGlobals "is_letter" = some (some (.ref f2))) (l2 : K.lookup f2 = some ⟨oc2, od2, .func (PySem.W.fnOf "is_letter" "is_letter" (defArgs s_is_letter) (defBody s_is_letter) (defScope s_is_letter) .none kV2 dc2 pm2 an2 cd2 ct2), sl2⟩) (c2 : PySem.W.codeIn K cd2 "is_letter" = true) (k2 : PySem.W.keepIn K (.ref f2) = true)
    (a3 : PySem.W.nsIn K mainGlobals "are_letters" = some (some (.ref f3))) (l3 : K.lookup f3 = some ⟨oc3, od3, .func (PySem.W.fnOf "are_letters" "are_letters" (defArgs s_are_letters) (defBody s_are_letters) (defScope s_are_letters) .none kV3 dc3 pm3 an3 cd3 ct3), sl3⟩) (c3 : PySem.W.codeIn K cd3 "are_letters" = true) (k3 : PySem.W.keepIn K (.ref f3) = true)
    (a4 : PySem.W.nsIn K mainGlobals "is_listed" = some (some (.ref f4))) (l4 : K.lookup f4 = some ⟨oc4, od4, .func (PySem.W.fnOf "is_listed" "is_listed" (defArgs s_is_listed) (defBody s_is_listed) (defScope s_is_listed) .none kV4 dc4 pm4 an4 cd4 ct4), sl4⟩) (c4 : PySem.W.codeIn K cd4 "is_listed" = true) (k4 : PySem.W.keepIn K (.ref f4) = true)
    (a5 : PySem.W.nsIn K mainGlobals "is_number" = some (some (.ref f5))) (l5 : K.lookup f5 = some ⟨oc5, od5, .func (PySem.W.fnOf "is_number" "is_number" (defArgs s_is_number) (defBody s_is_number) (defScope s_is_number) .none kV5 dc5 pm5 an5 cd5 ct5), sl5⟩) (c5 : PySem.W.codeIn K cd5 "is_number" = true) (k5 : PySem.W.keepIn K (.ref f5) = true)
    (a6 : PySem.W.nsIn K mainGlobals "is_between" = some (some (.ref f6))) (l6 : K.lookup f6 = some ⟨oc6, od6, .func (PySem.W.fnOf "is_between" "is_between" (defArgs s_is_between) (defBody s_is_between) (defScope s_is_between) .none kV6 dc6 pm6 an6 cd6 ct6), sl6⟩) (c6 : PySem.W.codeIn K cd6 "is_between" = true) (k6 : PySem.W.keepIn K (.ref f6) = true)
    (a7 : PySem.W.nsIn K mainGlobals "is_part" = some (some (.ref f7))) (l7 : K.lookup f7 = some ⟨oc7, od7, .func (PySem.W.fnOf "is_part" "is_part" (defArgs s_is_part) (defBody s_is_part) (defScope s_is_part) .none kV7 dc7 pm7 an7 cd7 ct7), sl7⟩) (c7 : PySem.W.codeIn K cd7 "is_part" = true) (k7 : PySem.W.keepIn K (.ref f7) = true)
    (a8 : PySem.W.nsIn K mainGlobals "is_line" = some (some (.ref f8))) (l8 : K.lookup f8 = some ⟨oc8, od8, .func (PySem.W.fnOf "is_line" "is_line" (defArgs s_is_line) (defBody s_is_line) (defScope s_is_line) .none kV8 dc8 pm8 an8 cd8 ct8), sl8⟩) (c8 : PySem.W.codeIn K cd8 "is_line" = true) (k8 : PySem.W.keepIn K (.ref f8) = true)
    (a9 : PySem.W.nsIn K mainGlobals "is_timed" = some (some (.ref f9))) (l9 : K.lookup f9 = some ⟨oc9, od9, .func (PySem.W.fnOf "is_timed" "is_timed" (defArgs s_is_timed) (defBody s_is_timed) (defScope s_is_timed) .none kV9 dc9 pm9 an9 cd9 ct9), sl9⟩) (c9 : PySem.W.codeIn K cd9 "is_timed" = true) (k9 : PySem.W.keepIn K (.ref f9) = true)
    (m10 : PySem.W.makesIn K C_Net = true) (a10 : PySem.W.findIn K (.ref C_Net) "__init__" = some (some (.ref f10))) (n10 : PySem.W.isFn K (.ref f10) = true) (j10 : PySem.W.keepIn K (.ref C_Net) = true) (l10 : K.lookup f10 = some ⟨oc10, od10, .func (PySem.W.fnOf "__init__" "Net.__init__" (defArgs s_Net___init__) (defBody s_Net___init__) (defScope s_Net___init__) .none kV10 dc10 pm10 an10 cd10 ct10), sl10⟩) (c10 : PySem.W.codeIn K cd10 "Net.__init__" = true) (k10 : PySem.W.keepIn K (.ref f10) = true)
    (a11 : PySem.W.nsIn K mainGlobals "_law_net" = some (some (.ref f11))) (l11 : K.lookup f11 = some ⟨oc11, od11, .func (PySem.W.fnOf "_law_net" "_law_net" (defArgs s__law_net) (defBody s__law_net) (defScope s__law_net) .none kV11 dc11 pm11 an11 cd11 ct11), sl11⟩) (c11 : PySem.W.codeIn K cd11 "_law_net" = true) (k11 : PySem.W.keepIn K (.ref f11) = true)
    (a12 : PySem.W.nsIn K mainGlobals "_law_of" = some (some (.ref f12))) (l12 : K.lookup f12 = some ⟨oc12, od12, .func (PySem.W.fnOf "_law_of" "_law_of" (defArgs s__law_of) (defBody s__law_of) (defScope s__law_of) .none kV12 dc12 pm12 an12 cd12 ct12), sl12⟩) (c12 : PySem.W.codeIn K cd12 "_law_of" = true) (k12 : PySem.W.keepIn K (.ref f12) = true)
    (a13 : PySem.W.nsIn K mainGlobals "_law_parts" = some (some (.ref f13))) (l13 : K.lookup f13 = some ⟨oc13, od13, .func (PySem.W.fnOf "_law_parts" "_law_parts" (defArgs s__law_parts) (defBody s__law_parts) (defScope s__law_parts) .none kV13 dc13 pm13 an13 cd13 ct13), sl13⟩) (c13 : PySem.W.codeIn K cd13 "_law_parts" = true) (k13 : PySem.W.keepIn K (.ref f13) = true)
    (a14 : PySem.W.nsIn K mainGlobals "_law_anew" = some (some (.ref f14))) (l14 : K.lookup f14 = some ⟨oc14, od14, .func (PySem.W.fnOf "_law_anew" "_law_anew" (defArgs s__law_anew) (defBody s__law_anew) (defScope s__law_anew) .none kV14 dc14 pm14 an14 cd14 ct14), sl14⟩) (c14 : PySem.W.codeIn K cd14 "_law_anew" = true) (k14 : PySem.W.keepIn K (.ref f14) = true)
    (a15 : PySem.W.nsIn K mainGlobals "_law_timed" = some (some (.ref f15))) (l15 : K.lookup f15 = some ⟨oc15, od15, .func (PySem.W.fnOf "_law_timed" "_law_timed" (defArgs s__law_timed) (defBody s__law_timed) (defScope s__law_timed) .none kV15 dc15 pm15 an15 cd15 ct15), sl15⟩) (c15 : PySem.W.codeIn K cd15 "_law_timed" = true) (k15 : PySem.W.keepIn K (.ref f15) = true)
    (a16 : PySem.W.nsIn K mainGlobals "_law_wait" = some (some (.ref f16))) (l16 : K.lookup f16 = some ⟨oc16, od16, .func (PySem.W.fnOf "_law_wait" "_law_wait" (defArgs s__law_wait) (defBody s__law_wait) (defScope s__law_wait) .none kV16 dc16 pm16 an16 cd16 ct16), sl16⟩) (c16 : PySem.W.codeIn K cd16 "_law_wait" = true) (k16 : PySem.W.keepIn K (.ref f16) = true)
    (a17 : PySem.W.nsIn K mainGlobals "_law_due_places" = some (some (.ref f17))) (l17 : K.lookup f17 = some ⟨oc17, od17, .func (PySem.W.fnOf "_law_due_places" "_law_due_places" (defArgs s__law_due_places) (defBody s__law_due_places) (defScope s__law_due_places) .none kV17 dc17 pm17 an17 cd17 ct17), sl17⟩) (c17 : PySem.W.codeIn K cd17 "_law_due_places" = true) (k17 : PySem.W.keepIn K (.ref f17) = true)
    (a18 : PySem.W.nsIn K mainGlobals "_law_came" = some (some (.ref f18))) (l18 : K.lookup f18 = some ⟨oc18, od18, .func (PySem.W.fnOf "_law_came" "_law_came" (defArgs s__law_came) (defBody s__law_came) (defScope s__law_came) .none kV18 dc18 pm18 an18 cd18 ct18), sl18⟩) (c18 : PySem.W.codeIn K cd18 "_law_came" = true) (k18 : PySem.W.keepIn K (.ref f18) = true)
    (a19 : PySem.W.nsIn K mainGlobals "_law_homes" = some (some (.ref f19))) (l19 : K.lookup f19 = some ⟨oc19, od19, .func (PySem.W.fnOf "_law_homes" "_law_homes" (defArgs s__law_homes) (defBody s__law_homes) (defScope s__law_homes) .none kV19 dc19 pm19 an19 cd19 ct19), sl19⟩) (c19 : PySem.W.codeIn K cd19 "_law_homes" = true) (k19 : PySem.W.keepIn K (.ref f19) = true)
    (a20 : PySem.W.nsIn K mainGlobals "_law_down" = some (some (.ref f20))) (l20 : K.lookup f20 = some ⟨oc20, od20, .func (PySem.W.fnOf "_law_down" "_law_down" (defArgs s__law_down) (defBody s__law_down) (defScope s__law_down) .none kV20 dc20 pm20 an20 cd20 ct20), sl20⟩) (c20 : PySem.W.codeIn K cd20 "_law_down" = true) (k20 : PySem.W.keepIn K (.ref f20) = true)
    (a21 : PySem.W.nsIn K mainGlobals "_law_rang" = some (some (.ref f21))) (l21 : K.lookup f21 = some ⟨oc21, od21, .func (PySem.W.fnOf "_law_rang" "_law_rang" (defArgs s__law_rang) (defBody s__law_rang) (defScope s__law_rang) .none kV21 dc21 pm21 an21 cd21 ct21), sl21⟩) (c21 : PySem.W.codeIn K cd21 "_law_rang" = true) (k21 : PySem.W.keepIn K (.ref f21) = true)
    (a22 : PySem.W.nsIn K mainGlobals "_law_fire" = some (some (.ref f22))) (l22 : K.lookup f22 = some ⟨oc22, od22, .func (PySem.W.fnOf "_law_fire" "_law_fire" (defArgs s__law_fire) (defBody s__law_fire) (defScope s__law_fire) .none kV22 dc22 pm22 an22 cd22 ct22), sl22⟩) (c22 : PySem.W.codeIn K cd22 "_law_fire" = true) (k22 : PySem.W.keepIn K (.ref f22) = true)
    (a23 : PySem.W.nsIn K mainGlobals "_law_older_state" = some (some (.ref f23))) (l23 : K.lookup f23 = some ⟨oc23, od23, .func (PySem.W.fnOf "_law_older_state" "_law_older_state" (defArgs s__law_older_state) (defBody s__law_older_state) (defScope s__law_older_state) .none kV23 dc23 pm23 an23 cd23 ct23), sl23⟩) (c23 : PySem.W.codeIn K cd23 "_law_older_state" = true) (k23 : PySem.W.keepIn K (.ref f23) = true)
    (a24 : PySem.W.nsIn K mainGlobals "_law_pass" = some (some (.ref f24))) (l24 : K.lookup f24 = some ⟨oc24, od24, .func (PySem.W.fnOf "_law_pass" "_law_pass" (defArgs s__law_pass) (defBody s__law_pass) (defScope s__law_pass) .none kV24 dc24 pm24 an24 cd24 ct24), sl24⟩) (c24 : PySem.W.codeIn K cd24 "_law_pass" = true) (k24 : PySem.W.keepIn K (.ref f24) = true)
    (a25 : PySem.W.nsIn K mainGlobals "_law_same" = some (some (.ref f25))) (l25 : K.lookup f25 = some ⟨oc25, od25, .func (PySem.W.fnOf "_law_same" "_law_same" (defArgs s__law_same) (defBody s__law_same) (defScope s__law_same) .none kV25 dc25 pm25 an25 cd25 ct25), sl25⟩) (c25 : PySem.W.codeIn K cd25 "_law_same" = true) (k25 : PySem.W.keepIn K (.ref f25) = true)
    (a26 : PySem.W.nsIn K mainGlobals "_law_enter" = some (some (.ref f26))) (l26 : K.lookup f26 = some ⟨oc26, od26, .func (PySem.W.fnOf "_law_enter" "_law_enter" (defArgs s__law_enter) (defBody s__law_enter) (defScope s__law_enter) .none kV26 dc26 pm26 an26 cd26 ct26), sl26⟩) (c26 : PySem.W.codeIn K cd26 "_law_enter" = true) (k26 : PySem.W.keepIn K (.ref f26) = true)
    (a27 : PySem.W.nsIn K mainGlobals "_law_send" = some (some (.ref f27))) (l27 : K.lookup f27 = some ⟨oc27, od27, .func (PySem.W.fnOf "_law_send" "_law_send" (defArgs s__law_send) (defBody s__law_send) (defScope s__law_send) .none kV27 dc27 pm27 an27 cd27 ct27), sl27⟩) (c27 : PySem.W.codeIn K cd27 "_law_send" = true) (k27 : PySem.W.keepIn K (.ref f27) = true)
    (a28 : PySem.W.nsIn K mainGlobals "_law_mixed" = some (some (.ref f28))) (l28 : K.lookup f28 = some ⟨oc28, od28, .func (PySem.W.fnOf "_law_mixed" "_law_mixed" (defArgs s__law_mixed) (defBody s__law_mixed) (defScope s__law_mixed) .none kV28 dc28 pm28 an28 cd28 ct28), sl28⟩) (c28 : PySem.W.codeIn K cd28 "_law_mixed" = true) (k28 : PySem.W.keepIn K (.ref f28) = true)
    (a29 : PySem.W.nsIn K mainGlobals "_law_some_part" = some (some (.ref f29))) (l29 : K.lookup f29 = some ⟨oc29, od29, .func (PySem.W.fnOf "_law_some_part" "_law_some_part" (defArgs s__law_some_part) (defBody s__law_some_part) (defScope s__law_some_part) .none kV29 dc29 pm29 an29 cd29 ct29), sl29⟩) (c29 : PySem.W.codeIn K cd29 "_law_some_part" = true) (k29 : PySem.W.keepIn K (.ref f29) = true)
    (a30 : PySem.W.nsIn K mainGlobals "_law_some_net" = some (some (.ref f30))) (l30 : K.lookup f30 = some ⟨oc30, od30, .func (PySem.W.fnOf "_law_some_net" "_law_some_net" (defArgs s__law_some_net) (defBody s__law_some_net) (defScope s__law_some_net) .none kV30 dc30 pm30 an30 cd30 ct30), sl30⟩) (c30 : PySem.W.codeIn K cd30 "_law_some_net" = true) (k30 : PySem.W.keepIn K (.ref f30) = true)
    (a31 : PySem.W.nsIn K mainGlobals "_law_first" = some (some (.ref f31))) (l31 : K.lookup f31 = some ⟨oc31, od31, .func (PySem.W.fnOf "_law_first" "_law_first" (defArgs s__law_first) (defBody s__law_first) (defScope s__law_first) .none kV31 dc31 pm31 an31 cd31 ct31), sl31⟩) (c31 : PySem.W.codeIn K cd31 "_law_first" = true) (k31 : PySem.W.keepIn K (.ref f31) = true)
    (a32 : PySem.W.nsIn K mainGlobals "_law_move" = some (some (.ref f32))) (l32 : K.lookup f32 = some ⟨oc32, od32, .func (PySem.W.fnOf "_law_move" "_law_move" (defArgs s__law_move) (defBody s__law_move) (defScope s__law_move) .none kV32 dc32 pm32 an32 cd32 ct32), sl32⟩) (c32 : PySem.W.codeIn K cd32 "_law_move" = true) (k32 : PySem.W.keepIn K (.ref f32) = true)
    (a33 : PySem.W.nsIn K mainGlobals "_law_tries" = some (some (.ref f33))) (l33 : K.lookup f33 = some ⟨oc33, od33, .func (PySem.W.fnOf "_law_tries" "_law_tries" (defArgs s__law_tries) (defBody s__law_tries) (defScope s__law_tries) .none kV33 dc33 pm33 an33 cd33 ct33), sl33⟩) (c33 : PySem.W.codeIn K cd33 "_law_tries" = true) (k33 : PySem.W.keepIn K (.ref f33) = true)
    (a34 : PySem.W.nsIn K mainGlobals "_law_walk" = some (some (.ref f34))) (l34 : K.lookup f34 = some ⟨oc34, od34, .func (PySem.W.fnOf "_law_walk" "_law_walk" (defArgs s__law_walk) (defBody s__law_walk) (defScope s__law_walk) .none kV34 dc34 pm34 an34 cd34 ct34), sl34⟩) (c34 : PySem.W.codeIn K cd34 "_law_walk" = true) (k34 : PySem.W.keepIn K (.ref f34) = true)
    (a35 : PySem.W.nsIn K mainGlobals "aged" = some (some (.ref f35))) (l35 : K.lookup f35 = some ⟨oc35, od35, .func (PySem.W.fnOf "aged" "aged" (defArgs s_aged) (defBody s_aged) (defScope s_aged) .none kV35 dc35 pm35 an35 cd35 ct35), sl35⟩) (c35 : PySem.W.codeIn K cd35 "aged" = true) (k35 : PySem.W.keepIn K (.ref f35) = true)
    (a36 : PySem.W.findIn K (.ref C_Net) "__len__" = some (some (.ref f36))) (n36 : PySem.W.isFn K (.ref f36) = true) (l36 : K.lookup f36 = some ⟨oc36, od36, .func (PySem.W.fnOf "__len__" "Net.__len__" (defArgs s_Net___len__) (defBody s_Net___len__) (defScope s_Net___len__) .none kV36 dc36 pm36 an36 cd36 ct36), sl36⟩) (c36 : PySem.W.codeIn K cd36 "Net.__len__" = true) (k36 : PySem.W.keepIn K (.ref f36) = true)
    (a37 : PySem.W.nsIn K mainGlobals "wait_of" = some (some (.ref f37))) (l37 : K.lookup f37 = some ⟨oc37, od37, .func (PySem.W.fnOf "wait_of" "wait_of" (defArgs s_wait_of) (defBody s_wait_of) (defScope s_wait_of) .none kV37 dc37 pm37 an37 cd37 ct37), sl37⟩) (c37 : PySem.W.codeIn K cd37 "wait_of" = true) (k37 : PySem.W.keepIn K (.ref f37) = true)
    (a38 : PySem.W.nsIn K mainGlobals "due_place" = some (some (.ref f38))) (l38 : K.lookup f38 = some ⟨oc38, od38, .func (PySem.W.fnOf "due_place" "due_place" (defArgs s_due_place) (defBody s_due_place) (defScope s_due_place) .none kV38 dc38 pm38 an38 cd38 ct38), sl38⟩) (c38 : PySem.W.codeIn K cd38 "due_place" = true) (k38 : PySem.W.keepIn K (.ref f38) = true)
    (a39 : PySem.W.findIn K (.ref C_Net) "place_of" = some (some (.ref f39))) (n39 : PySem.W.isFn K (.ref f39) = true) (l39 : K.lookup f39 = some ⟨oc39, od39, .func (PySem.W.fnOf "place_of" "Net.place_of" (defArgs s_Net_place_of) (defBody s_Net_place_of) (defScope s_Net_place_of) .none kV39 dc39 pm39 an39 cd39 ct39), sl39⟩) (c39 : PySem.W.codeIn K cd39 "Net.place_of" = true) (k39 : PySem.W.keepIn K (.ref f39) = true)
    (a40 : PySem.W.nsIn K mainGlobals "timed_came" = some (some (.ref f40))) (l40 : K.lookup f40 = some ⟨oc40, od40, .func (PySem.W.fnOf "timed_came" "timed_came" (defArgs s_timed_came) (defBody s_timed_came) (defScope s_timed_came) .none kV40 dc40 pm40 an40 cd40 ct40), sl40⟩) (c40 : PySem.W.codeIn K cd40 "timed_came" = true) (k40 : PySem.W.keepIn K (.ref f40) = true)
    (a41 : PySem.W.nsIn K mainGlobals "came" = some (some (.ref f41))) (l41 : K.lookup f41 = some ⟨oc41, od41, .func (PySem.W.fnOf "came" "came" (defArgs s_came) (defBody s_came) (defScope s_came) .none kV41 dc41 pm41 an41 cd41 ct41), sl41⟩) (c41 : PySem.W.codeIn K cd41 "came" = true) (k41 : PySem.W.keepIn K (.ref f41) = true)
    (a42 : PySem.W.nsIn K mainGlobals "came_at" = some (some (.ref f42))) (l42 : K.lookup f42 = some ⟨oc42, od42, .func (PySem.W.fnOf "came_at" "came_at" (defArgs s_came_at) (defBody s_came_at) (defScope s_came_at) .none kV42 dc42 pm42 an42 cd42 ct42), sl42⟩) (c42 : PySem.W.codeIn K cd42 "came_at" = true) (k42 : PySem.W.keepIn K (.ref f42) = true)
    (a43 : PySem.W.nsIn K mainGlobals "put_in" = some (some (.ref f43))) (l43 : K.lookup f43 = some ⟨oc43, od43, .func (PySem.W.fnOf "put_in" "put_in" (defArgs s_put_in) (defBody s_put_in) (defScope s_put_in) .none kV43 dc43 pm43 an43 cd43 ct43), sl43⟩) (c43 : PySem.W.codeIn K cd43 "put_in" = true) (k43 : PySem.W.keepIn K (.ref f43) = true)
    (a44 : PySem.W.nsIn K mainGlobals "rang" = some (some (.ref f44))) (l44 : K.lookup f44 = some ⟨oc44, od44, .func (PySem.W.fnOf "rang" "rang" (defArgs s_rang) (defBody s_rang) (defScope s_rang) .none kV44 dc44 pm44 an44 cd44 ct44), sl44⟩) (c44 : PySem.W.codeIn K cd44 "rang" = true) (k44 : PySem.W.keepIn K (.ref f44) = true)
    (a45 : PySem.W.nsIn K mainGlobals "fired" = some (some (.ref f45))) (l45 : K.lookup f45 = some ⟨oc45, od45, .func (PySem.W.fnOf "fired" "fired" (defArgs s_fired) (defBody s_fired) (defScope s_fired) .none kV45 dc45 pm45 an45 cd45 ct45), sl45⟩) (c45 : PySem.W.codeIn K cd45 "fired" = true) (k45 : PySem.W.keepIn K (.ref f45) = true)
    (a46 : PySem.W.nsIn K mainGlobals "restarted" = some (some (.ref f46))) (l46 : K.lookup f46 = some ⟨oc46, od46, .func (PySem.W.fnOf "restarted" "restarted" (defArgs s_restarted) (defBody s_restarted) (defScope s_restarted) .none kV46 dc46 pm46 an46 cd46 ct46), sl46⟩) (c46 : PySem.W.codeIn K cd46 "restarted" = true) (k46 : PySem.W.keepIn K (.ref f46) = true)
    (a47 : PySem.W.nsIn K mainGlobals "settled" = some (some (.ref f47))) (l47 : K.lookup f47 = some ⟨oc47, od47, .func (PySem.W.fnOf "settled" "settled" (defArgs s_settled) (defBody s_settled) (defScope s_settled) .none kV47 dc47 pm47 an47 cd47 ct47), sl47⟩) (c47 : PySem.W.codeIn K cd47 "settled" = true) (k47 : PySem.W.keepIn K (.ref f47) = true)
    (a48 : PySem.W.nsIn K mainGlobals "passed" = some (some (.ref f48))) (l48 : K.lookup f48 = some ⟨oc48, od48, .func (PySem.W.fnOf "passed" "passed" (defArgs s_passed) (defBody s_passed) (defScope s_passed) .none kV48 dc48 pm48 an48 cd48 ct48), sl48⟩) (c48 : PySem.W.codeIn K cd48 "passed" = true) (k48 : PySem.W.keepIn K (.ref f48) = true)
    (a49 : PySem.W.nsIn K mainGlobals "entered" = some (some (.ref f49))) (l49 : K.lookup f49 = some ⟨oc49, od49, .func (PySem.W.fnOf "entered" "entered" (defArgs s_entered) (defBody s_entered) (defScope s_entered) .none kV49 dc49 pm49 an49 cd49 ct49), sl49⟩) (c49 : PySem.W.codeIn K cd49 "entered" = true) (k49 : PySem.W.keepIn K (.ref f49) = true)
    (a50 : PySem.W.nsIn K mainGlobals "sent" = some (some (.ref f50))) (l50 : K.lookup f50 = some ⟨oc50, od50, .func (PySem.W.fnOf "sent" "sent" (defArgs s_sent) (defBody s_sent) (defScope s_sent) .none (.ref D50) dc50 pm50 an50 cd50 ct50), sl50⟩) (c50 : PySem.W.codeIn K cd50 "sent" = true) (k50 : PySem.W.keepIn K (.ref f50) = true) (kw50_0 : PySem.W.nsIn K D50 "mark" = some (some (.int 0 tk50_0)))
    (a51 : PySem.W.nsIn K mainGlobals "law" = some (some (.ref f51))) (l51 : K.lookup f51 = some ⟨oc51, od51, .func (PySem.W.fnOf "law" "law" (defArgs s_law) (defBody s_law) (defScope s_law) .none kV51 dc51 pm51 an51 cd51 ct51), sl51⟩) (c51 : PySem.W.codeIn K cd51 "law" = true) (k51 : PySem.W.keepIn K (.ref f51) = true) : Tx K mg := by
  have e_Net : cOf mg "Net" = C_Net := cOf_at (PySem.W.mg_of X G q_Net)
  exact {
    n_all := PySem.W.mg_none_of X G z_all,
    n_bool := PySem.W.mg_none_of X G z_bool,
    n_enumerate := PySem.W.mg_none_of X G z_enumerate,
    n_int := PySem.W.mg_none_of X G z_int,
    n_isinstance := PySem.W.mg_none_of X G z_isinstance,
    n_len := PySem.W.mg_none_of X G z_len,
    n_list := PySem.W.mg_none_of X G z_list,
    n_range := PySem.W.mg_none_of X G z_range,
    n_set := PySem.W.mg_none_of X G z_set,
    n_sorted := PySem.W.mg_none_of X G z_sorted,
    n_str := PySem.W.mg_none_of X G z_str,
    n_sum := PySem.W.mg_none_of X G z_sum,
    n_tuple := PySem.W.mg_none_of X G z_tuple,
    n_zip := PySem.W.mg_none_of X G z_zip,
    g_LETTERS := glob_str X G q_LETTERS,
    g_LONGEST := glob_int X G q_LONGEST,
    g_MOST_LINES := glob_int X G q_MOST_LINES,
    g_MOST_PARTS := glob_int X G q_MOST_PARTS,
    g_MOST_TIMERS := glob_int X G q_MOST_TIMERS,
    g_RESTING := glob_tup X G q_RESTING l_RESTING d_RESTING (by decide),
    g_TIMED := glob_tup X G q_TIMED l_TIMED d_TIMED (by decide),
    m_Net := by rw [e_Net]; exact PySem.W.mg_of X G q_Net,
    cls_Net := by rw [e_Net]; exact ⟨b1_Net, b2_Net, b3_Net, b4_Net⟩,
    fld_Net_homes := by rw [e_Net]; exact ⟨⟨b1_Net, b2_Net, b3_Net, b4_Net⟩, v_Net_homes⟩,
    fld_Net_line_list := by rw [e_Net]; exact ⟨⟨b1_Net, b2_Net, b3_Net, b4_Net⟩, v_Net_line_list⟩,
    fld_Net_own_letters := by rw [e_Net]; exact ⟨⟨b1_Net, b2_Net, b3_Net, b4_Net⟩, v_Net_own_letters⟩,
    fld_Net_part_list := by rw [e_Net]; exact ⟨⟨b1_Net, b2_Net, b3_Net, b4_Net⟩, v_Net_part_list⟩,
    f__law_bag := fnF_mk X G a0 l0 c0 k0,
    f__law_draw := fnF_mk X G a1 l1 c1 k1,
    f_is_letter := fnF_mk X G a2 l2 c2 k2,
    f_are_letters := fnF_mk X G a3 l3 c3 k3,
    f_is_listed := fnF_mk X G a4 l4 c4 k4,
    f_is_number := fnF_mk X G a5 l5 c5 k5,
    f_is_between := fnF_mk X G a6 l6 c6 k6,
    f_is_part := fnF_mk X G a7 l7 c7 k7,
    f_is_line := fnF_mk X G a8 l8 c8 k8,
    f_is_timed := fnF_mk X G a9 l9 c9 k9,
    f_Net___init__ := by rw [e_Net]; exact fnIF_mk m10 a10 n10 j10 l10 c10 k10,
    f__law_net := fnF_mk X G a11 l11 c11 k11,
    f__law_of := fnF_mk X G a12 l12 c12 k12,
    f__law_parts := fnF_mk X G a13 l13 c13 k13,
    f__law_anew := fnF_mk X G a14 l14 c14 k14,
    f__law_timed := fnF_mk X G a15 l15 c15 k15,
    f__law_wait := fnF_mk X G a16 l16 c16 k16,
    f__law_due_places := fnF_mk X G a17 l17 c17 k17,
    f__law_came := fnF_mk X G a18 l18 c18 k18,
    f__law_homes := fnF_mk X G a19 l19 c19 k19,
    f__law_down := fnF_mk X G a20 l20 c20 k20,
    f__law_rang := fnF_mk X G a21 l21 c21 k21,
    f__law_fire := fnF_mk X G a22 l22 c22 k22,
    f__law_older_state := fnF_mk X G a23 l23 c23 k23,
    f__law_pass := fnF_mk X G a24 l24 c24 k24,
    f__law_same := fnF_mk X G a25 l25 c25 k25,
    f__law_enter := fnF_mk X G a26 l26 c26 k26,
    f__law_send := fnF_mk X G a27 l27 c27 k27,
    f__law_mixed := fnF_mk X G a28 l28 c28 k28,
    f__law_some_part := fnF_mk X G a29 l29 c29 k29,
    f__law_some_net := fnF_mk X G a30 l30 c30 k30,
    f__law_first := fnF_mk X G a31 l31 c31 k31,
    f__law_move := fnF_mk X G a32 l32 c32 k32,
    f__law_tries := fnF_mk X G a33 l33 c33 k33,
    f__law_walk := fnF_mk X G a34 l34 c34 k34,
    f_aged := fnF_mk X G a35 l35 c35 k35,
    f_Net___len__ := by rw [e_Net]; exact fnCF_mk a36 n36 l36 c36 k36,
    f_wait_of := fnF_mk X G a37 l37 c37 k37,
    f_due_place := fnF_mk X G a38 l38 c38 k38,
    f_Net_place_of := by rw [e_Net]; exact fnCF_mk a39 n39 l39 c39 k39,
    f_timed_came := fnF_mk X G a40 l40 c40 k40,
    f_came := fnF_mk X G a41 l41 c41 k41,
    f_came_at := fnF_mk X G a42 l42 c42 k42,
    f_put_in := fnF_mk X G a43 l43 c43 k43,
    f_rang := fnF_mk X G a44 l44 c44 k44,
    f_fired := fnF_mk X G a45 l45 c45 k45,
    f_restarted := fnF_mk X G a46 l46 c46 k46,
    f_settled := fnF_mk X G a47 l47 c47 k47,
    f_passed := fnF_mk X G a48 l48 c48 k48,
    f_entered := fnF_mk X G a49 l49 c49 k49,
    f_sent := fnDF_mk X G a50 l50 c50 k50 (fun q hq => by simp at hq; subst hq; exact ⟨_, kw50_0, ⟨_, rfl⟩⟩),
    f_law := fnF_mk X G a51 l51 c51 k51 }
end Lw
open PySem PySem.W PyProof.Rows
set_option maxRecDepth 100000 in
set_option maxHeartbeats 0 in
theorem PySem.Challenge.cw_newslate_k22_whole_sends_holds : PySem.Challenge.rw_newslate_k22_whole_sends.Holds := by
  w_on; o_law; k_head; (case hw => w_witness2)
  k_fill
  refine NL.law_walkC (l := PySem.Challenge.rw_newslate_k22_whole_sends) (x := "_law_script") (y := "law") (st := Lw.s_law) (m := fun c => NP.law c) (TX := Lw.Tx) rfl rfl rfl ⟨rfl, by decide, by decide⟩ (fun w h Y => PySem.W.kIn_of Y) (fun _ _ _ _ _ _ _ _ => .of_eq rfl) (fun T => T.f_law) (fun T => Lw.ok_law T) Lw.law_true ?F
  case F =>
    intro w mg h KX G
    refine' Lw.tx KX G ?z_all ?z_bool ?z_enumerate ?z_int ?z_isinstance ?z_len ?z_list ?z_range ?z_set ?z_sorted ?z_str ?z_sum ?z_tuple ?z_zip ?q_LETTERS ?q_LONGEST ?q_MOST_LINES ?q_MOST_PARTS ?q_MOST_TIMERS ?q_RESTING ?l_RESTING ?d_RESTING ?q_TIMED ?l_TIMED ?d_TIMED ?q_Net ?b1_Net ?b2_Net ?b3_Net ?b4_Net ?v_Net_homes ?v_Net_line_list ?v_Net_own_letters ?v_Net_part_list ?a0 ?l0 ?c0 ?k0 ?a1 ?l1 ?c1 ?k1 ?a2 ?l2 ?c2 ?k2 ?a3 ?l3 ?c3 ?k3 ?a4 ?l4 ?c4 ?k4 ?a5 ?l5 ?c5 ?k5 ?a6 ?l6 ?c6 ?k6 ?a7 ?l7 ?c7 ?k7 ?a8 ?l8 ?c8 ?k8 ?a9 ?l9 ?c9 ?k9 ?m10 ?a10 ?n10 ?j10 ?l10 ?c10 ?k10 ?a11 ?l11 ?c11 ?k11 ?a12 ?l12 ?c12 ?k12 ?a13 ?l13 ?c13 ?k13 ?a14 ?l14 ?c14 ?k14 ?a15 ?l15 ?c15 ?k15 ?a16 ?l16 ?c16 ?k16 ?a17 ?l17 ?c17 ?k17 ?a18 ?l18 ?c18 ?k18 ?a19 ?l19 ?c19 ?k19 ?a20 ?l20 ?c20 ?k20 ?a21 ?l21 ?c21 ?k21 ?a22 ?l22 ?c22 ?k22 ?a23 ?l23 ?c23 ?k23 ?a24 ?l24 ?c24 ?k24 ?a25 ?l25 ?c25 ?k25 ?a26 ?l26 ?c26 ?k26 ?a27 ?l27 ?c27 ?k27 ?a28 ?l28 ?c28 ?k28 ?a29 ?l29 ?c29 ?k29 ?a30 ?l30 ?c30 ?k30 ?a31 ?l31 ?c31 ?k31 ?a32 ?l32 ?c32 ?k32 ?a33 ?l33 ?c33 ?k33 ?a34 ?l34 ?c34 ?k34 ?a35 ?l35 ?c35 ?k35 ?a36 ?n36 ?l36 ?c36 ?k36 ?a37 ?l37 ?c37 ?k37 ?a38 ?l38 ?c38 ?k38 ?a39 ?n39 ?l39 ?c39 ?k39 ?a40 ?l40 ?c40 ?k40 ?a41 ?l41 ?c41 ?k41 ?a42 ?l42 ?c42 ?k42 ?a43 ?l43 ?c43 ?k43 ?a44 ?l44 ?c44 ?k44 ?a45 ?l45 ?c45 ?k45 ?a46 ?l46 ?c46 ?k46 ?a47 ?l47 ?c47 ?k47 ?a48 ?l48 ?c48 ?k48 ?a49 ?l49 ?c49 ?k49 ?a50 ?l50 ?c50 ?k50 ?kw50_0 ?a51 ?l51 ?c51 ?k51
    (case z_all => k_is)
    (case z_bool => k_is)
    (case z_enumerate => k_is)
    (case z_int => k_is)
    (case z_isinstance => k_is)
    (case z_len => k_is)
    (case z_list => k_is)
    (case z_range => k_is)
    (case z_set => k_is)
    (case z_sorted => k_is)
    (case z_str => k_is)
    (case z_sum => k_is)
    (case z_tuple => k_is)
    (case z_zip => k_is)
    (case q_LETTERS => k_is)
    (case q_LONGEST => k_is)
    (case q_MOST_LINES => k_is)
    (case q_MOST_PARTS => k_is)
    (case q_MOST_TIMERS => k_is)
    (case q_RESTING => k_is)
    (case l_RESTING => k_is)
    (case d_RESTING => exact (.bl (.non .nil)))
    (case q_TIMED => k_is)
    (case l_TIMED => k_is)
    (case d_TIMED => exact (.str (.str (.str (.str (.str (.str .nil)))))))
    (case q_Net => k_is)
    (case b1_Net => k_is)
    (case b2_Net => k_is)
    (case b3_Net => k_is)
    (case b4_Net => k_is)
    (case v_Net_homes => k_is)
    (case v_Net_line_list => k_is)
    (case v_Net_own_letters => k_is)
    (case v_Net_part_list => k_is)
    (case a0 => k_is)
    (case l0 => k_is)
    (case c0 => k_is)
    (case k0 => k_is)
    (case a1 => k_is)
    (case l1 => k_is)
    (case c1 => k_is)
    (case k1 => k_is)
    (case a2 => k_is)
    (case l2 => k_is)
    (case c2 => k_is)
    (case k2 => k_is)
    (case a3 => k_is)
    (case l3 => k_is)
    (case c3 => k_is)
    (case k3 => k_is)
    (case a4 => k_is)
    (case l4 => k_is)
    (case c4 => k_is)
    (case k4 => k_is)
    (case a5 => k_is)
    (case l5 => k_is)
    (case c5 => k_is)
    (case k5 => k_is)
    (case a6 => k_is)
    (case l6 => k_is)
    (case c6 => k_is)
    (case k6 => k_is)
    (case a7 => k_is)
    (case l7 => k_is)
    (case c7 => k_is)
    (case k7 => k_is)
    (case a8 => k_is)
    (case l8 => k_is)
    (case c8 => k_is)
    (case k8 => k_is)
    (case a9 => k_is)
    (case l9 => k_is)
    (case c9 => k_is)
    (case k9 => k_is)
    (case m10 => k_is)
    (case a10 => k_is)
    (case n10 => k_is)
    (case j10 => k_is)
    (case l10 => k_is)
    (case c10 => k_is)
    (case k10 => k_is)
    (case a11 => k_is)
    (case l11 => k_is)
    (case c11 => k_is)
    (case k11 => k_is)
    (case a12 => k_is)
    (case l12 => k_is)
    (case c12 => k_is)
    (case k12 => k_is)
    (case a13 => k_is)
    (case l13 => k_is)
    (case c13 => k_is)
    (case k13 => k_is)
    (case a14 => k_is)
    (case l14 => k_is)
    (case c14 => k_is)
    (case k14 => k_is)
    (case a15 => k_is)
    (case l15 => k_is)
    (case c15 => k_is)
    (case k15 => k_is)
    (case a16 => k_is)
    (case l16 => k_is)
    (case c16 => k_is)
    (case k16 => k_is)
    (case a17 => k_is)
    (case l17 => k_is)
    (case c17 => k_is)
    (case k17 => k_is)
    (case a18 => k_is)
    (case l18 => k_is)
    (case c18 => k_is)
    (case k18 => k_is)
    (case a19 => k_is)
    (case l19 => k_is)
    (case c19 => k_is)
    (case k19 => k_is)
    (case a20 => k_is)
    (case l20 => k_is)
    (case c20 => k_is)
    (case k20 => k_is)
    (case a21 => k_is)
    (case l21 => k_is)
    (case c21 => k_is)
    (case k21 => k_is)
    (case a22 => k_is)
    (case l22 => k_is)
    (case c22 => k_is)
    (case k22 => k_is)
    (case a23 => k_is)
    (case l23 => k_is)
    (case c23 => k_is)
    (case k23 => k_is)
    (case a24 => k_is)
    (case l24 => k_is)
    (case c24 => k_is)
    (case k24 => k_is)
    (case a25 => k_is)
    (case l25 => k_is)
    (case c25 => k_is)
    (case k25 => k_is)
    (case a26 => k_is)
    (case l26 => k_is)
    (case c26 => k_is)
    (case k26 => k_is)
    (case a27 => k_is)
    (case l27 => k_is)
    (case c27 => k_is)
    (case k27 => k_is)
    (case a28 => k_is)
    (case l28 => k_is)
    (case c28 => k_is)
    (case k28 => k_is)
    (case a29 => k_is)
    (case l29 => k_is)
    (case c29 => k_is)
    (case k29 => k_is)
    (case a30 => k_is)
    (case l30 => k_is)
    (case c30 => k_is)
    (case k30 => k_is)
    (case a31 => k_is)
    (case l31 => k_is)
    (case c31 => k_is)
    (case k31 => k_is)
    (case a32 => k_is)
    (case l32 => k_is)
    (case c32 => k_is)
    (case k32 => k_is)
    (case a33 => k_is)
    (case l33 => k_is)
    (case c33 => k_is)
    (case k33 => k_is)
    (case a34 => k_is)
    (case l34 => k_is)
    (case c34 => k_is)
    (case k34 => k_is)
    (case a35 => k_is)
    (case l35 => k_is)
    (case c35 => k_is)
    (case k35 => k_is)
    (case a36 => k_is)
    (case n36 => k_is)
    (case l36 => k_is)
    (case c36 => k_is)
    (case k36 => k_is)
    (case a37 => k_is)
    (case l37 => k_is)
    (case c37 => k_is)
    (case k37 => k_is)
    (case a38 => k_is)
    (case l38 => k_is)
    (case c38 => k_is)
    (case k38 => k_is)
    (case a39 => k_is)
    (case n39 => k_is)
    (case l39 => k_is)
    (case c39 => k_is)
    (case k39 => k_is)
    (case a40 => k_is)
    (case l40 => k_is)
    (case c40 => k_is)
    (case k40 => k_is)
    (case a41 => k_is)
    (case l41 => k_is)
    (case c41 => k_is)
    (case k41 => k_is)
    (case a42 => k_is)
    (case l42 => k_is)
    (case c42 => k_is)
    (case k42 => k_is)
    (case a43 => k_is)
    (case l43 => k_is)
    (case c43 => k_is)
    (case k43 => k_is)
    (case a44 => k_is)
    (case l44 => k_is)
    (case c44 => k_is)
    (case k44 => k_is)
    (case a45 => k_is)
    (case l45 => k_is)
    (case c45 => k_is)
    (case k45 => k_is)
    (case a46 => k_is)
    (case l46 => k_is)
    (case c46 => k_is)
    (case k46 => k_is)
    (case a47 => k_is)
    (case l47 => k_is)
    (case c47 => k_is)
    (case k47 => k_is)
    (case a48 => k_is)
    (case l48 => k_is)
    (case c48 => k_is)
    (case k48 => k_is)
    (case a49 => k_is)
    (case l49 => k_is)
    (case c49 => k_is)
    (case k49 => k_is)
    (case a50 => k_is)
    (case l50 => k_is)
    (case c50 => k_is)
    (case k50 => k_is)
    (case kw50_0 => k_is)
    (case a51 => k_is)
    (case l51 => k_is)
    (case c51 => k_is)
    (case k51 => k_is)
