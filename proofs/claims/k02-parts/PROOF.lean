import PyProof.Rows.All
import Wide.All
import OpenK.AllK
import Wide.FinOn
import HandS.ForMost
import HandS.ForExc
import HandS.IsInst
import HandS.Zip
import HandS.Deep
import HandS.Defaults
import HandS.CallSlots
import HandS.Flow
import HandS.Style
import HandS.TupAny
import HandS.Set
import HandS.SetTxt0
import HandS.SetTxtIn
import HandS.SetFor
import HandS.Text
import PyProof.Rows.SortStr
import PySem.Challenge.RW_newslate_k02_parts_known
set_option Elab.async false
set_option linter.all false
set_option maxRecDepth 100000
set_option maxHeartbeats 1000000
/-! A clean reading over plain data: values D, logical heap LH, results Re; each construct once. -/
namespace NL
open PySem PySem.Spec L2

/-! ### data -/
inductive D where
  | non | bl (b : Bool) | int (i : Int) | str (x : Str) | tup (xs : List D) | loc (n : Nat) | raw (v : V) | fl (xs : List D)
inductive Ob where
  | lst (xs : List D)
abbrev LH := List Ob
structure Ex where
  x : Str
  fs : List (Str × D)
inductive Re (a : Type) where
  | ok (a : a) (h : LH) | er (x : Ex) (h : LH) | bad
def Re.bind {a b : Type} : Re a → (a → LH → Re b) → Re b
  | .ok x h, f => f x h
  | .er x h, _ => .er x h
  | .bad, _ => .bad
@[simp] theorem Re.bind_ok {a b : Type} (x : a) (h : LH) (f : a → LH → Re b) : (Re.ok x h).bind f = f x h := rfl
@[simp] theorem Re.bind_er {a b : Type} (x : Ex) (h : LH) (f : a → LH → Re b) : (Re.er x h : Re a).bind f = .er x h := rfl
@[simp] theorem Re.bind_bad {a b : Type} (f : a → LH → Re b) : (Re.bad : Re a).bind f = .bad := rfl
abbrev LE := List (Option D)

/-! ### how data lie in the tracked heap -/
/-- a list that is never written: locked (the script), or of the written part -/
def FzL (K : PySem.W.Frag) (H : Hp) (a : Addr) (xs : List V) : Prop :=
  (∃ o, H a = some (.frz o (.lst xs))) ∨ ∃ (o : Obj) (its : Array Value) (n : Nat), K.lookup a = some o ∧ o.cls = .type "list" ∧ o.dict = none ∧ o.data = .seq its n ∧ its.size ≤ sizeLine ∧ Vals xs its.toList
theorem FzL.sq {K H a xs} (h : FzL K H a xs) : SqL K H a xs := h.elim (fun z => .inl (.inr z)) .inr
section
variable (K : PySem.W.Frag) (r : List Addr) (H : Hp)
mutual
inductive Rel : D → V → Prop
  | non : Rel .non .non
  | bl (b : Bool) : Rel (.bl b) (.bl b)
  | int (i : Int) : Rel (.int i) (.int i)
  | str (x : Str) : Rel (.str x) (.str x)
  | raw (v : V) : Rel (.raw v) v
  | loc {n : Nat} {a : Addr} : r[n]? = some a → Rel (.loc n) (.ref a)
  | tup {a : Addr} {xs : List V} {ds : List D} : SqT K H a xs → RelL ds xs → Rel (.tup ds) (.ref a)
  | fl {a : Addr} {xs : List V} {ds : List D} : FzL K H a xs → RelL ds xs → Rel (.fl ds) (.ref a)
inductive RelL : List D → List V → Prop
  | nil : RelL [] []
  | cons {d : D} {v : V} {ds : List D} {vs : List V} : Rel d v → RelL ds vs → RelL (d :: ds) (v :: vs)
end
def ObRel (a : Addr) : Ob → Prop
  | .lst xs => ∃ vs, H a = some (.lst vs) ∧ RelL K r H xs vs
structure SimH (lh : LH) : Prop where
  len : r.length = lh.length
  nd : r.Nodup
  ob : ∀ (n : Nat) (a : Addr) (o : Ob), r[n]? = some a → lh[n]? = some o → ObRel K r H a o
structure SimS (e : LE) (s : St) : Prop where
  len : e.length = s.length
  sl : ∀ (i : Nat) (d : D), e[i]? = some (some d) → ∃ v, s[i]? = some (some v) ∧ Rel K r H d v
end
structure Ext (K : PySem.W.Frag) (r : List Addr) (H : Hp) (r' : List Addr) (H' : Hp) : Prop where
  pre : ∀ (n : Nat) (a : Addr), r[n]? = some a → r'[n]? = some a
  tup : ∀ a xs, SqT K H a xs → SqT K H' a xs
  fl : ∀ a xs, FzL K H a xs → FzL K H' a xs
theorem Ext.refl {K r H} : Ext K r H r H := ⟨fun _ _ h => h, fun _ _ h => h, fun _ _ h => h⟩
theorem Ext.trans {K r H r1 H1 r2 H2} (a : Ext K r H r1 H1) (b : Ext K r1 H1 r2 H2) : Ext K r H r2 H2 :=
  ⟨fun n c h => b.pre n c (a.pre n c h), fun c xs h => b.tup c xs (a.tup c xs h), fun c xs h => b.fl c xs (a.fl c xs h)⟩
section
variable {K : PySem.W.Frag} {r r' : List Addr} {H H' : Hp}
mutual
theorem Rel.mono (x : Ext K r H r' H') : ∀ (d : D) (v : V), Rel K r H d v → Rel K r' H' d v
  | .non, _, h => by cases h; exact .non
  | .bl b, _, h => by cases h; exact .bl b
  | .int b, _, h => by cases h; exact .int b
  | .str b, _, h => by cases h; exact .str b
  | .raw b, _, h => by cases h; exact .raw b
  | .loc n, _, h => by cases h with | loc e => exact .loc (x.pre _ _ e)
  | .tup ds, _, h => by cases h with | tup e q => exact .tup (x.tup _ _ e) (RelL.mono x ds _ q)
  | .fl ds, _, h => by cases h with | fl e q => exact .fl (x.fl _ _ e) (RelL.mono x ds _ q)
theorem RelL.mono (x : Ext K r H r' H') : ∀ (ds : List D) (vs : List V), RelL K r H ds vs → RelL K r' H' ds vs
  | [], _, h => by cases h; exact .nil
  | d :: ds, _, h => by cases h with | cons p q => exact .cons (Rel.mono x d _ p) (RelL.mono x ds _ q)
end
theorem SimS.mono {e : LE} {s : St} (x : Ext K r H r' H') (h : SimS K r H e s) : SimS K r' H' e s :=
  ⟨h.len, fun i d q => let ⟨v, a, b⟩ := h.sl i d q; ⟨v, a, b.mono x⟩⟩
theorem SimS.set {e : LE} {s : St} {d : D} {v : V} (h : SimS K r H e s) (i : Nat) (q : Rel K r H d v) : SimS K r H (e.set i (some d)) (s.set i (some v)) := by
  refine ⟨by rw [List.length_set, List.length_set, h.len], fun j c hj => ?_⟩
  by_cases e1 : i = j
  · subst e1
    by_cases hl : i < e.length
    · rw [List.getElem?_set_self hl] at hj
      cases hj
      exact ⟨v, List.getElem?_set_self (by rw [← h.len]; exact hl), q⟩
    · rw [List.getElem?_eq_none (by rw [List.length_set]; omega)] at hj
      cases hj
  · rw [List.getElem?_set_ne e1] at hj
    obtain ⟨u, a, b⟩ := h.sl j c hj
    exact ⟨u, by rw [List.getElem?_set_ne e1]; exact a, b⟩
theorem RelL.length : ∀ {ds : List D} {vs : List V}, RelL K r H ds vs → ds.length = vs.length
  | _, _, .nil => rfl
  | _, _, .cons _ q => by rw [List.length_cons, List.length_cons, q.length]
theorem RelL.get : ∀ {ds : List D} {vs : List V} {i : Nat} {d : D}, RelL K r H ds vs → ds[i]? = some d → ∃ v, vs[i]? = some v ∧ Rel K r H d v
  | _, _, _, _, .nil, h => by simp at h
  | _, _, 0, d, .cons p q, h => by simp at h; subst h; exact ⟨_, rfl, p⟩
  | _, _, i + 1, d, .cons p q, h => by
    obtain ⟨v, a, b⟩ := q.get (i := i) (by simpa using h)
    exact ⟨v, by simpa using a, b⟩
theorem RelL.app : ∀ {ds es : List D} {vs us : List V}, RelL K r H ds vs → RelL K r H es us → RelL K r H (ds ++ es) (vs ++ us)
  | _, _, _, _, .nil, h => h
  | _, _, _, _, .cons p q, h => .cons p (q.app h)
theorem RelL.snoc {ds : List D} {vs : List V} {d : D} {v : V} (h : RelL K r H ds vs) (q : Rel K r H d v) : RelL K r H (ds ++ [d]) (vs ++ [v]) := h.app (.cons q .nil)
theorem RelL.take : ∀ (n : Nat) {ds : List D} {vs : List V}, RelL K r H ds vs → RelL K r H (ds.take n) (vs.take n)
  | 0, _, _, _ => .nil
  | _ + 1, _, _, .nil => .nil
  | n + 1, _, _, .cons p q => .cons p (q.take n)
theorem RelL.drop : ∀ (n : Nat) {ds : List D} {vs : List V}, RelL K r H ds vs → RelL K r H (ds.drop n) (vs.drop n)
  | 0, _, _, h => h
  | _ + 1, _, _, .nil => .nil
  | n + 1, _, _, .cons p q => q.drop n
theorem RelL.set : ∀ (n : Nat) {ds : List D} {vs : List V} {d : D} {v : V}, RelL K r H ds vs → Rel K r H d v → RelL K r H (ds.set n d) (vs.set n v)
  | _, _, _, _, _, .nil, _ => .nil
  | 0, _, _, _, _, .cons p q, h => .cons h q
  | n + 1, _, _, _, _, .cons p q, h => .cons p (q.set n h)
theorem RelL.rep : ∀ (n : Nat) {d : D} {v : V}, Rel K r H d v → RelL K r H (List.replicate n d) (List.replicate n v)
  | 0, _, _, _ => .nil
  | n + 1, _, _, h => .cons h (RelL.rep n h)
theorem RelL.erase : ∀ (n : Nat) {ds : List D} {vs : List V}, RelL K r H ds vs → RelL K r H (ds.eraseIdx n) (vs.eraseIdx n)
  | _, _, _, .nil => .nil
  | 0, _, _, .cons p q => q
  | n + 1, _, _, .cons p q => .cons p (q.erase n)
theorem ObRel.mono {a : Addr} {o : Ob} (x : Ext K r H r' H') (hk : H' a = H a) (h : ObRel K r H a o) : ObRel K r' H' a o := by
  cases o with
  | lst xs => obtain ⟨vs, e, q⟩ := h; exact ⟨vs, hk.trans e, q.mono x⟩
/-- heaps that grow -/
theorem Ext.laid {p : Addr} {o : HO} (hp : H p = none) : Ext K r H r (upd H p o) := by
  refine ⟨fun _ _ h => h, fun a xs h => ?_, fun a xs h => h.elim (fun ⟨ob, z⟩ => .inl ⟨ob, by rw [upd_ne (ne_of_none z hp)]; exact z⟩) .inr⟩
  rcases h with (h | ⟨ob, h⟩) | h
  · exact .inl (.inl (by rw [upd_ne (ne_of_none h hp)]; exact h))
  · exact .inl (.inr ⟨ob, by rw [upd_ne (ne_of_none h hp)]; exact h⟩)
  · exact .inr h
theorem SimH.free {lh : LH} (h : SimH K r H lh) {p : Addr} (hp : H p = none) : p ∉ r := fun hm => by
  obtain ⟨n, hn⟩ := List.getElem?_of_mem hm
  have hl : n < lh.length := by rw [← h.len]; exact (List.getElem?_eq_some_iff.mp hn).1
  have q := h.ob n p _ hn (List.getElem?_eq_getElem hl)
  cases e : lh[n] with
  | lst xs => rw [e] at q; obtain ⟨vs, z, _⟩ := q; rw [hp] at z; cases z
/-- an immutable thing is laid -/
theorem SimH.laidT {lh : LH} {p : Addr} {o : HO} (h : SimH K r H lh) (hp : H p = none) : SimH K r (upd H p o) lh :=
  ⟨h.len, h.nd, fun n a ob e1 e2 => (h.ob n a ob e1 e2).mono (Ext.laid hp) (upd_ne fun z => h.free hp (by rw [← z]; exact List.mem_of_getElem? e1))⟩
theorem Ext.more {p : Addr} {o : HO} (hp : H p = none) : Ext K r H (r ++ [p]) (upd H p o) := by
  have x := Ext.laid (K := K) (r := r) (o := o) hp
  refine ⟨fun n a h => ?_, x.tup, x.fl⟩
  rw [List.getElem?_append_left (List.getElem?_eq_some_iff.mp h).1]
  exact h
/-- a list is laid -/
theorem SimH.laid {lh : LH} {p : Addr} {ds : List D} {vs : List V} (h : SimH K r H lh) (hp : H p = none) (q : RelL K r H ds vs) : SimH K (r ++ [p]) (upd H p (.lst vs)) (lh ++ [.lst ds]) := by
  have x : Ext K r H (r ++ [p]) (upd H p (.lst vs)) := Ext.more hp
  refine ⟨by rw [List.length_append, List.length_append, h.len]; rfl, ?_, fun n a ob e1 e2 => ?_⟩
  · rw [List.nodup_append]
    refine ⟨h.nd, by simp, fun a ha b hb => ?_⟩
    have e : b = p := by simpa using hb
    subst e
    exact fun z => h.free hp (by rw [← z]; exact ha)
  · by_cases hn : n < r.length
    · rw [List.getElem?_append_left hn] at e1
      rw [List.getElem?_append_left (by rw [← h.len]; exact hn)] at e2
      exact (h.ob n a ob e1 e2).mono x (upd_ne fun z => h.free hp (by rw [← z]; exact List.mem_of_getElem? e1))
    · have l1 := (List.getElem?_eq_some_iff.mp e1).1
      have e : n = r.length := by rw [List.length_append] at l1; simp at l1; omega
      subst e
      rw [List.getElem?_concat_length] at e1
      rw [h.len, List.getElem?_concat_length] at e2
      cases e1
      cases e2
      exact ⟨vs, upd_same, q.mono x⟩
theorem laid_new {lh : LH} {p : Addr} (h : SimH K r H lh) : (r ++ [p])[lh.length]? = some p := by rw [← h.len, List.getElem?_concat_length]
theorem Ext.wr {p : Addr} {xs ys : List V} (hp : H p = some (.lst xs)) : Ext K r H r (upd H p (.lst ys)) := by
  refine ⟨fun _ _ h => h, fun a zs h => ?_, fun a zs h => h.elim (fun ⟨ob, z⟩ => .inl ⟨ob, by rw [upd_ne (ne_of z hp (by intro q; cases q))]; exact z⟩) .inr⟩
  rcases h with (h | ⟨ob, h⟩) | h
  · exact .inl (.inl (by rw [upd_ne (ne_of h hp (by intro z; cases z))]; exact h))
  · exact .inl (.inr ⟨ob, by rw [upd_ne (ne_of h hp (by intro z; cases z))]; exact h⟩)
  · exact .inr h
/-- a list is written -/
theorem SimH.wr {lh : LH} {n : Nat} {p : Addr} {xs : List V} {ds : List D} {vs : List V} (h : SimH K r H lh) (hn : r[n]? = some p) (hp : H p = some (.lst xs)) (q : RelL K r H ds vs) : SimH K r (upd H p (.lst vs)) (lh.set n (.lst ds)) := by
  have x : Ext K r H r (upd H p (.lst vs)) := Ext.wr hp
  refine ⟨by rw [List.length_set, h.len], h.nd, fun m a ob e1 e2 => ?_⟩
  by_cases e : n = m
  · subst e
    rw [hn] at e1
    cases e1
    rw [List.getElem?_set_self (by rw [← h.len]; exact (List.getElem?_eq_some_iff.mp hn).1)] at e2
    cases e2
    exact ⟨vs, upd_same, q.mono x⟩
  · rw [List.getElem?_set_ne e] at e2
    have hne : a ≠ p := fun z => by
      subst z
      exact e (nd_ix h.nd hn e1)
    exact (h.ob m a ob e1 e2).mono x (upd_ne hne)
end

/-! ### results and what is wanted of them -/
/-- an exception at D, and as it lies -/
def RelX (K : PySem.W.Frag) (mg : Str → Option Value) (r : List Addr) (H : Hp) (x : Ex) (c : Value) (dd : Option Addr) : Prop :=
  mg x.x = some c ∧ ((x.fs = [] ∧ dd = none) ∨ ∃ (d : Addr) (fv : List (Str × V)), dd = some d ∧ H d = some (.xd fv) ∧ RelL K r H (x.fs.map (·.2)) (fv.map (·.2)) ∧ x.fs.map (·.1) = fv.map (·.1))
section
variable (K : PySem.W.Frag) (mg : Str → Option Value) (W : XK)
def FinG {a b : Type} (R : List Addr → Hp → a → b → Prop) (r : List Addr) (H : Hp) (Q : b → Hp → Prop) : Re a → Prop
  | .ok d lh' => ∀ r' H' v, Ext K r H r' H' → SimH K r' H' lh' → R r' H' d v → Q v H'
  | .er x lh' => ∀ r' H' c dd, Ext K r H r' H' → SimH K r' H' lh' → RelX K mg r' H' x c dd → W c dd H'
  | .bad => False
end
section
variable {K : PySem.W.Frag} {mg : Str → Option Value} {W : XK}
theorem FinG.mono {a b : Type} {R : List Addr → Hp → a → b → Prop} {r r1 : List Addr} {H H1 : Hp} {Q : b → Hp → Prop} (x : Ext K r H r1 H1) : ∀ {t : Re a}, FinG K mg W R r H Q t → FinG K mg W R r1 H1 Q t
  | .ok d lh', h => fun r' H' v y => h r' H' v (x.trans y)
  | .er e lh', h => fun r' H' c dd y => h r' H' c dd (x.trans y)
  | .bad, h => h
theorem FinG.imp {a b : Type} {R : List Addr → Hp → a → b → Prop} {r : List Addr} {H : Hp} {Q Q' : b → Hp → Prop} (i : ∀ v H, Q v H → Q' v H) : ∀ {t : Re a}, FinG K mg W R r H Q t → FinG K mg W R r H Q' t
  | .ok d lh', h => fun r' H' v y z w => i _ _ (h r' H' v y z w)
  | .er e lh', h => h
  | .bad, h => h
theorem FinG.bind {a b c d : Type} {R : List Addr → Hp → a → b → Prop} {R' : List Addr → Hp → c → d → Prop} {r : List Addr} {H : Hp} {Q : d → Hp → Prop} {f : a → LH → Re c} : ∀ {t : Re a}, FinG K mg W R' r H Q (t.bind f) →
    FinG K mg W R r H (fun v H1 => ∃ r1 lh1 x, Ext K r H r1 H1 ∧ SimH K r1 H1 lh1 ∧ R r1 H1 x v ∧ FinG K mg W R' r1 H1 Q (f x lh1)) t
  | .ok x lh1, h => fun r1 H1 v y z w => ⟨r1, lh1, x, y, z, w, h.mono y⟩
  | .er e lh', h => h
  | .bad, h => h
theorem FinG.ok {a b : Type} {R : List Addr → Hp → a → b → Prop} {r : List Addr} {H : Hp} {Q : b → Hp → Prop} {d : a} {lh : LH} {v : b} (h : FinG K mg W R r H Q (.ok d lh)) (s : SimH K r H lh) (q : R r H d v) : Q v H := h r H v Ext.refl s q
theorem FinG.to {a b : Type} {R : List Addr → Hp → a → b → Prop} {r r' : List Addr} {H H' : Hp} {Q : b → Hp → Prop} {d : a} {lh : LH} {v : b} (h : FinG K mg W R r H Q (.ok d lh)) (x : Ext K r H r' H') (s : SimH K r' H' lh) (q : R r' H' d v) : Q v H' := h r' H' v x s q
end
end NL
set_option maxRecDepth 100000
set_option maxHeartbeats 1000000
namespace NL
open PySem PySem.Spec L2

/-! ### judgements -/
abbrev M := LE → LH → Re D
abbrev MT := LE → LH → Re Bool
abbrev MA := LE → LH → Re (List D)
def tG {a b : Type} (X : Cx) (W : WX) (R : List Addr → Hp → a → b → Prop) (m : LE → LH → Re a) : L2.St → Hp → (b → Hp → Prop) → Prop := fun s H Q =>
  ∃ r e lh, SimS X.K r H e s ∧ SimH X.K r H lh ∧ FinG X.K X.mg (fun c dd H' => W c dd s H') R r H Q (m e lh)
abbrev RB : List Addr → Hp → Bool → Bool → Prop := fun _ _ a b => a = b
def DE (X : Cx) (W : WX) (e : Expr) (m : M) : Prop := PE X e (tG X W (Rel X.K) m)
def DT (X : Cx) (W : WX) (e : Expr) (m : MT) : Prop := PT X e (tG X W RB m)
def DWW (X : Cx) (W : WX) (e : Expr) (m : MT) : Prop := PW X e (tG X W RB m)
structure DA (X : Cx) (W : WX) (es : List Expr) (m : MA) : Prop where
  pa : PA X es (tG X W (RelL X.K) m)
  len : ∀ e lh ds lh', m e lh = .ok ds lh' → ds.length = es.length
theorem pe_imp {X : Cx} {e : Expr} {t t' : TE} (h : PE X e t) (i : ∀ s H Q, t' s H Q → t s H Q) : PE X e t' := ⟨fun pins s σ H Q I w => h.run pins s σ H Q I (i σ H Q w)⟩
theorem pt_imp {X : Cx} {e : Expr} {t t' : TT} (h : PT X e t) (i : ∀ s H Q, t' s H Q → t s H Q) : PT X e t' := ⟨fun pins s σ H Q I w => h.run pins s σ H Q I (i σ H Q w)⟩
theorem pw_imp {X : Cx} {e : Expr} {t t' : TT} (h : PW X e t) (i : ∀ s H Q, t' s H Q → t s H Q) : PW X e t' := ⟨fun wh pins s σ H Q I w => h.run wh pins s σ H Q I (i σ H Q w)⟩
theorem pa_imp {X : Cx} {e : List Expr} {t t' : TA} (h : PA X e t) (i : ∀ s H Q, t' s H Q → t s H Q) : PA X e t' := ⟨fun p pins s σ H Q I w => h.run p pins s σ H Q I (i σ H Q w)⟩
section
variable {X : Cx} {W : WX}
/-- the state behind a part -/
theorem tG_bind {a b c d : Type} {R : List Addr → Hp → a → b → Prop} {R' : List Addr → Hp → c → d → Prop} {m : LE → LH → Re a} {f : LE → a → LH → Re c} {s : L2.St} {H : Hp} {Q : d → Hp → Prop}
    (h : tG X W R' (fun e lh => (m e lh).bind (f e)) s H Q) :
    tG X W R m s H (fun v H1 => ∃ r1 e lh1 x, SimS X.K r1 H1 e s ∧ SimH X.K r1 H1 lh1 ∧ R r1 H1 x v ∧ FinG X.K X.mg (fun c dd H' => W c dd s H') R' r1 H1 Q (f e x lh1)) := by
  obtain ⟨r, e, lh, S, Hh, F⟩ := h
  exact ⟨r, e, lh, S, Hh, F.bind.imp fun v H1 ⟨r1, lh1, x, y, z, w, F1⟩ => ⟨r1, e, lh1, x, S.mono y, z, w, F1⟩⟩
theorem tG_of {a b : Type} {R : List Addr → Hp → a → b → Prop} {m : LE → LH → Re a} {s : L2.St} {H : Hp} {Q : b → Hp → Prop} {r : List Addr} {e : LE} {lh : LH}
    (S : SimS X.K r H e s) (Hh : SimH X.K r H lh) (F : FinG X.K X.mg (fun c dd H' => W c dd s H') R r H Q (m e lh)) : tG X W R m s H Q := ⟨r, e, lh, S, Hh, F⟩

/-! ### names, constants -/
def varM (i : Nat) : M := fun e lh => match e[i]? with | some (some d) => .ok d lh | _ => .bad
def conM (d : D) : M := fun _ lh => .ok d lh
theorem de_var (i : Nat) {x : Str} {pos : Pos} (hN : X.N[i]? = some x := by rfl) (hv : Vis X.env.scope x := by first | exact Or.inl rfl | exact Or.inr (Or.inl rfl) | exact Or.inr (Or.inr rfl)) (hd : (x == ("__debug__" : Str)) = false := by decide)
    (hcd : (x == ("__classdict__" : Str)) = false := by decide) : DE X W (.Name x pos) (varM i) := by
  refine pe_imp (pe_var hN hv hd hcd) fun s H Q ⟨r, e, lh, S, Hh, F⟩ => ?_
  unfold varM at F
  split at F
  · rename_i d hd
    obtain ⟨v, a, b⟩ := S.sl i d hd
    exact ⟨v, a, F.ok Hh b⟩
  · exact F.elim
theorem de_con {e : Expr} {v : V} {d : D} (h : PE X e (tC v)) (q : ∀ r H, Rel X.K r H d v) : DE X W e (conM d) :=
  pe_imp h fun s H Q ⟨r, e, lh, S, Hh, F⟩ => F.ok Hh (q _ _)
theorem de_int {i j pos} : DE X W (.Constant (.int i) j pos) (conM (.int i)) := de_con pe_int fun _ _ => .int i
theorem de_bl {i j pos} : DE X W (.Constant (.bool i) j pos) (conM (.bl i)) := de_con pe_bl fun _ _ => .bl i
theorem de_str {i j pos} : DE X W (.Constant (.str i) j pos) (conM (.str i)) := de_con pe_str fun _ _ => .str i
theorem de_non {j pos} : DE X W (.Constant .none j pos) (conM .non) := de_con pe_non fun _ _ => .non
theorem de_glob {x : Str} {v : V} {d : D} {u : Value} {pos : Pos} (hm : X.mg x = some u) (rv : RelV v u) (q : ∀ r H, Rel X.K r H d v) (hg : Gl X x := by rfl) (hd : (x == ("__debug__" : Str)) = false := by decide) : DE X W (.Name x pos) (conM d) :=
  de_con (pe_glob hg hm rv hd) q

/-! ### operators -/
def opM (f : D → D → LH → Re D) (ma mb : M) : M := fun e lh => (ma e lh).bind fun a l1 => (mb e l1).bind fun b l2 => f a b l2
def OpD (X : Cx) (g : Value → Value → Sem Value) (f : D → D → LH → Re D) : Prop :=
  ∃ rr : R2, OpR X g rr ∧ ∀ (E : XK) r H lh a b v u Q, SimH X.K r H lh → Rel X.K r H a v → Rel X.K r H b u → FinG X.K X.mg E (Rel X.K) r H Q (f a b lh) → rr v u H Q
section
variable {a b : Expr} {ma mb : M} {pos : Pos}
theorem de_op_ (ha : DE X W a ma) (hb : DE X W b mb) {rr : R2} {f : D → D → LH → Re D} (ho : ∀ (E : XK) r H lh a b v u Q, SimH X.K r H lh → Rel X.K r H a v → Rel X.K r H b u → FinG X.K X.mg E (Rel X.K) r H Q (f a b lh) → rr v u H Q)
    {s : L2.St} {H : Hp} {Q : VK} (h : tG X W (Rel X.K) (opM f ma mb) s H Q) : tOp rr (tG X W (Rel X.K) ma) (tG X W (Rel X.K) mb) s H Q := by
  obtain ⟨r, e, lh, S, Hh, F⟩ := h
  refine tG_of S Hh (F.bind.imp fun v H1 ⟨r1, l1, x, y1, z1, w1, F1⟩ => ?_)
  refine tG_of (S.mono y1) z1 (F1.bind.imp fun u H2 ⟨r2, l2, x2, y2, z2, w2, F2⟩ => ?_)
  exact ho _ r2 H2 l2 _ _ _ _ Q z2 (w1.mono y2) w2 F2
theorem de_op {op : Operator} {f : D → D → LH → Re D} (ho : OpD X (binaryOp op) f) (ha : DE X W a ma) (hb : DE X W b mb) : DE X W (.BinOp a op b pos) (opM f ma mb) := by
  obtain ⟨rr, h1, h2⟩ := ho
  exact pe_imp (pe_op h1 ha hb) fun s H Q h => de_op_ ha hb h2 h
theorem de_cmp {op : CmpOp} {f : D → D → LH → Re D} (ho : OpD X (compareOp op) f) (ha : DE X W a ma) (hb : DE X W b mb) (hm : behindInMarks op b = false := by first | exact nobehind _ (by decide) (by decide) | rfl) : DE X W (.Compare a [op] [b] pos) (opM f ma mb) := by
  obtain ⟨rr, h1, h2⟩ := ho
  exact pe_imp (pe_cmpR h1 ha hb hm) fun s H Q h => de_op_ ha hb h2 h
/-- a value that must be a bool -/
def blR : Re D → Re Bool := fun t => t.bind fun d l => match d with | .bl k => .ok k l | _ => .bad
def blT (m : M) : MT := fun e lh => blR (m e lh)
theorem dt_cmp {op : CmpOp} {f : D → D → LH → Re D} (ho : OpD X (compareOp op) f) (ha : DE X W a ma) (hb : DE X W b mb) (hm : behindInMarks op b = false := by first | exact nobehind _ (by decide) (by decide) | rfl) : DT X W (.Compare a [op] [b] pos) (blT (opM f ma mb)) := by
  obtain ⟨rr, h1, h2⟩ := ho
  refine pt_imp (pt_cmpR h1 ha hb hm) fun s H Q h => ?_
  obtain ⟨r, e, lh, S, Hh, F⟩ := h
  have F' := FinG.bind (R := Rel X.K) F
  refine de_op_ ha hb h2 (tG_of S Hh (F'.imp fun v H1 ⟨r1, l1, x, y1, z1, w1, F1⟩ => ?_))
  cases w1 with
  | bl k => exact ⟨k, rfl, F1.ok z1 rfl⟩
  | _ => exact F1.elim
end

/-! ### ints -/
def ii (f : Int → Int → LH → Re D) : D → D → LH → Re D | .int i, .int j, lh => f i j lh | _, _, _ => .bad
def iiC (C : Int → Int → Prop) [∀ i j, Decidable (C i j)] (g : Int → Int → D) : D → D → LH → Re D := ii fun i j lh => if C i j then .ok (g i j) lh else .bad
theorem opd_iiC {g : Value → Value → Sem Value} {C : Int → Int → Prop} [∀ i j, Decidable (C i j)] {k : Int → Int → V} {kd : Int → Int → D} (h : OpR X g (rI C k)) (q : ∀ i j r H, Rel X.K r H (kd i j) (k i j)) : OpD X g (iiC C kd) := by
  refine ⟨_, h, fun E r H lh a b v u Q Hh ra rb F => ?_⟩
  cases ra with
  | int i =>
    cases rb with
    | int j =>
      have F' : FinG X.K X.mg E (Rel X.K) r H Q (if C i j then .ok (kd i j) lh else .bad) := F
      by_cases c : C i j
      · rw [if_pos c] at F'
        exact ⟨i, j, rfl, rfl, c, F'.ok Hh (q i j r H)⟩
      · rw [if_neg c] at F'
        exact F'.elim
    | _ => exact F.elim
  | _ => exact F.elim
def ii0 (g : Int → Int → D) : D → D → LH → Re D := ii fun i j lh => .ok (g i j) lh
theorem opd_ii0 {g : Value → Value → Sem Value} {k : Int → Int → V} {kd : Int → Int → D} (h : OpR X g (rI0 k)) (q : ∀ i j r H, Rel X.K r H (kd i j) (k i j)) : OpD X g (ii0 kd) := by
  refine ⟨_, h, fun E r H lh a b v u Q Hh ra rb F => ?_⟩
  cases ra with
  | int i =>
    cases rb with
    | int j => exact ⟨i, j, rfl, rfl, F.ok Hh (q i j r H)⟩
    | _ => exact F.elim
  | _ => exact F.elim
instance dCMul (i j : Int) : Decidable (CMul i j) := by unfold CMul; infer_instance
instance dCPow (i j : Int) : Decidable (CPow i j) := by unfold CPow; infer_instance
instance dCDiv (i j : Int) : Decidable (CDiv i j) := by unfold CDiv; infer_instance
def subD : D → D → LH → Re D := ii0 fun i j => .int (i - j)
def fdivD : D → D → LH → Re D := iiC CDiv fun i j => .int (i / j)
def modD : D → D → LH → Re D := iiC (fun _ j => 0 < j) fun i j => .int (i % j)
def powD : D → D → LH → Re D := iiC CPow fun i j => .int (i ^ j.toNat)
def ltD : D → D → LH → Re D := ii0 fun i j => .bl (decide (i < j))
def leD : D → D → LH → Re D := ii0 fun i j => .bl (decide (i ≤ j))
def gtD : D → D → LH → Re D := ii0 fun i j => .bl (decide (j < i))
def geD : D → D → LH → Re D := ii0 fun i j => .bl (decide (j ≤ i))
theorem o_sub : OpD X (binaryOp .Sub) subD := opd_ii0 op_sub fun _ _ _ _ => .int _
theorem o_fdiv : OpD X (binaryOp .FloorDiv) fdivD := opd_iiC op_fdiv fun _ _ _ _ => .int _
theorem o_mod : OpD X (binaryOp .Mod) modD := opd_iiC op_mod fun _ _ _ _ => .int _
theorem o_pow : OpD X (binaryOp .Pow) powD := opd_iiC op_pow fun _ _ _ _ => .int _
theorem o_lt : OpD X (compareOp .Lt) ltD := opd_ii0 op_lt fun _ _ _ _ => .bl _
theorem o_le : OpD X (compareOp .LtE) leD := opd_ii0 op_le fun _ _ _ _ => .bl _
theorem o_gt : OpD X (compareOp .Gt) gtD := opd_ii0 op_gt fun _ _ _ _ => .bl _
theorem o_ge : OpD X (compareOp .GtE) geD := opd_ii0 op_ge fun _ _ _ _ => .bl _

/-! ### + : ints, strs, lists, tuples -/
def addD : D → D → LH → Re D
  | .int i, .int j, lh => .ok (.int (i + j)) lh
  | .str x, .str y, lh => if x.length + y.length ≤ sizeLine then .ok (.str (x ++ y)) lh else .bad
  | .tup xs, .tup ys, lh => if xs.length + ys.length ≤ sizeLine then .ok (.tup (xs ++ ys)) lh else .bad
  | .loc n, .loc m, lh => match lh[n]?, lh[m]? with
    | some (.lst xs), some (.lst ys) => if xs.length + ys.length ≤ sizeLine then .ok (.loc lh.length) (lh ++ [.lst (xs ++ ys)]) else .bad
    | _, _ => .bad
  | _, _, _ => .bad
theorem SimH.get {K r H} {lh : LH} (h : SimH K r H lh) {n : Nat} {a : Addr} {o : Ob} (e : r[n]? = some a) (e2 : lh[n]? = some o) : ObRel K r H a o := h.ob n a o e e2
theorem RelL.nil_iff {K r H} {ds : List D} {vs : List V} (h : RelL K r H ds vs) : ds = [] ↔ vs = [] := by cases h <;> simp
theorem o_add : OpD X (binaryOp .Add) addD := by
  refine ⟨_, op_add.or (op_add_str.or (op_catA.or op_cat)), fun E r H lh a b v u Q Hh ra rb F => ?_⟩
  cases ra with
  | int i =>
    cases rb with
    | int j => exact .inl ⟨i, j, rfl, rfl, F.ok Hh (.int _)⟩
    | _ => exact F.elim
  | str i =>
    cases rb with
    | str j =>
      have F' : FinG X.K X.mg E (Rel X.K) r H Q (if i.length + j.length ≤ sizeLine then .ok (.str (i ++ j)) lh else .bad) := F
      by_cases c : i.length + j.length ≤ sizeLine
      · rw [if_pos c] at F'
        exact .inr (.inl ⟨i, j, rfl, rfl, c, F'.ok Hh (.str _)⟩)
      · rw [if_neg c] at F'
        exact F'.elim
    | _ => exact F.elim
  | @tup a1 xs ds e1 q1 =>
    cases rb with
    | @tup b1 ys es e2 q2 =>
      have F' : FinG X.K X.mg E (Rel X.K) r H Q (if ds.length + es.length ≤ sizeLine then .ok (.tup (ds ++ es)) lh else .bad) := F
      by_cases c : ds.length + es.length ≤ sizeLine
      · rw [if_pos c] at F'
        refine .inr (.inr (.inl ⟨a1, b1, xs, ys, rfl, rfl, e1, e2, by rw [← q1.length, ← q2.length]; exact c, fun z => ?_, fun _ z => ?_, fun _ _ p hp => ?_⟩))
        · have z' := q1.nil_iff.mpr z
          subst z'
          exact F'.ok Hh (.tup e2 q2)
        · have z' := q2.nil_iff.mpr z
          subst z'
          exact F'.ok Hh (by rw [List.append_nil]; exact .tup e1 q1)
        · have x : Ext X.K r H r (upd H p (.tup (xs ++ ys))) := Ext.laid hp
          exact F'.to x (Hh.laidT hp) (.tup (.of upd_same) ((q1.app q2).mono x))
      · rw [if_neg c] at F'
        exact F'.elim
    | _ => exact F.elim
  | @loc n a1 e1 =>
    cases rb with
    | @loc m b1 e2 =>
      have F' : FinG X.K X.mg E (Rel X.K) r H Q (match lh[n]?, lh[m]? with
        | some (.lst xs), some (.lst ys) => if xs.length + ys.length ≤ sizeLine then .ok (.loc lh.length) (lh ++ [.lst (xs ++ ys)]) else .bad
        | _, _ => .bad) := F
      split at F'
      · rename_i ds es h1 h2
        obtain ⟨xs, z1, q1⟩ := Hh.get e1 h1
        obtain ⟨ys, z2, q2⟩ := Hh.get e2 h2
        by_cases c : ds.length + es.length ≤ sizeLine
        · rw [if_pos c] at F'
          refine .inr (.inr (.inr ⟨a1, b1, xs, ys, rfl, rfl, z1, z2, by rw [← q1.length, ← q2.length]; exact c, fun p hp => ?_⟩))
          exact F'.to (Ext.more hp) (Hh.laid hp (q1.app q2)) (.loc (laid_new Hh))
        · rw [if_neg c] at F'
          exact F'.elim
      · exact F'.elim
    | _ => exact F.elim
  | _ => exact F.elim
/-! ### * : ints; a list of some length -/
def mulD : D → D → LH → Re D
  | .int i, .int j, lh => if CMul i j then .ok (.int (i * j)) lh else .bad
  | .loc n, .int k, lh => match lh[n]? with
    | some (.lst xs) => if -(2 ^ 63) ≤ k ∧ k < 2 ^ 63 ∧ xs.length * k.toNat ≤ sizeLine then .ok (.loc lh.length) (lh ++ [.lst (List.replicate k.toNat xs).flatten]) else .bad
    | _ => .bad
  | _, _, _ => .bad
theorem RelL.reps {K r H} {ds : List D} {vs : List V} (h : RelL K r H ds vs) : ∀ k : Nat, RelL K r H (List.replicate k ds).flatten (List.replicate k vs).flatten
  | 0 => .nil
  | k + 1 => by rw [List.replicate_succ, List.replicate_succ, List.flatten_cons, List.flatten_cons]; exact h.app (h.reps k)
theorem o_mul : OpD X (binaryOp .Mult) mulD := by
  refine ⟨_, op_mul.or op_rep, fun E r H lh a b v u Q Hh ra rb F => ?_⟩
  unfold mulD at F
  split at F
  · cases ra
    cases rb
    split at F
    · rename_i hc
      exact .inl ⟨_, _, rfl, rfl, hc, F.ok Hh (.int _)⟩
    · exact F.elim
  · cases ra with
    | loc e =>
      cases rb
      split at F
      · rename_i xs exs
        obtain ⟨vs, h0, q⟩ := Hh.get e exs
        split at F
        · rename_i hc
          exact .inr ⟨_, _, vs, rfl, rfl, h0, hc.1, hc.2.1, by rw [← q.length]; exact hc.2.2, fun p hp => F.to (Ext.more hp) (Hh.laid hp (q.reps _)) (.loc (laid_new Hh))⟩
        · exact F.elim
      · exact F.elim
  · exact F.elim
def negM (m : M) : M := fun e lh => (m e lh).bind fun d l => match d with | .int i => .ok (.int (-i)) l | _ => .bad
theorem de_neg {a : Expr} {m : M} {pos : Pos} (h : DE X W a m) : DE X W (.UnaryOp .USub a pos) (negM m) := by
  refine pe_imp (pe_un un_neg h) fun s H Q ⟨r, e, lh, S, Hh, F⟩ => ?_
  refine tG_of S Hh ((FinG.bind (R := Rel X.K) F).imp fun v H1 ⟨r1, l1, x, y1, z1, w1, F1⟩ => ?_)
  cases w1 with
  | int i => exact ⟨i, rfl, F1.ok z1 (.int _)⟩
  | _ => exact F1.elim
/-- a module's constant -/
def GlobD (K : PySem.W.Frag) (mg : Str → Option Value) (x : Str) (d : D) : Prop := ∃ (u : Value) (v : V), mg x = some u ∧ RelV v u ∧ ∀ r H, Rel K r H d v
theorem de_g {x : Str} {d : D} {pos : Pos} (h : GlobD X.K X.mg x d) (hg : Gl X x := by rfl) (hd : (x == ("__debug__" : Str)) = false := by decide) : DE X W (.Name x pos) (conM d) := by
  obtain ⟨u, v, h1, h2, h3⟩ := h
  exact de_glob h1 h2 h3 hg hd
/-- a built-in type as a value -/
theorem de_bty {x : Str} {n : String} {pos : Pos} (hm : X.mg x = none) (hv : bootBuiltins x = some (.type n)) (hg : Gl X x := by rfl) (hn : x ≠ "__name__" := by decide) (hd : (x == ("__debug__" : Str)) = false := by decide) : DE X W (.Name x pos) (conM (.raw (.ty n))) :=
  de_con (v := V.ty n) (pe_bltn hg hm hv (show Value.type n = Value.type n from rfl) hn hd) fun _ _ => .raw _
/-! ### is None -/
def isNon : D → Bool | .non => true | _ => false
end
end NL
set_option maxRecDepth 100000
set_option maxHeartbeats 1000000
namespace NL
open PySem PySem.Spec L2

/-- what a body brings: k calls deep there is room -/
structure Bk (k : Nat) (X : Cx) (W : WX) : Prop where
  calm : X.calm = true
  tk : Takes X W
  nd : X.N.Nodup
  pass : PassesOwn (model X.prog X.w) X.A X.env X.xe
  hr : Room k X.A
theorem Bk.hu {k X W} (b : Bk k X W) : X.A.units + 65 < cLine := by have := b.hr.un; omega
theorem Bk.hu0 {k X W} (b : Bk k X W) : X.A.units + 64 < cLine := by have := b.hr.un; omega

/-! ### data read off -/
def rd (lh : LH) : Nat → D → Option PyData
  | 0, d => match d with
    | .non => some .none | .bl b => some (.bool b) | .int i => some (.int i) | .str x => some (.str x) | _ => none
  | n + 1, d => match d with
    | .non => some .none | .bl b => some (.bool b) | .int i => some (.int i) | .str x => some (.str x)
    | .tup ds => (ds.mapM (rd lh n)).map .tuple
    | .loc k => match lh[k]? with
      | some (.lst xs) => (xs.mapM (rd lh n)).map .list
      | none => none
    | .fl xs => (xs.mapM (rd lh n)).map .list
    | .raw _ => none
section
variable {K : PySem.W.Frag} {r : List Addr} {H : Hp} {lh : LH}
theorem rd_all {n : Nat} (ih : ∀ d v p, rd lh n d = some p → Rel K r H d v → Dp K H v p) : ∀ (ds : List D) (vs : List V) (ps : List PyData), ds.mapM (rd lh n) = some ps → RelL K r H ds vs → DpAll K H vs ps
  | [], vs, ps, h, q => by
    cases q
    simp at h
    subst h
    exact .nil
  | d :: ds, vs, ps, h, q => by
    cases q with
    | cons q1 q2 =>
      rw [List.mapM_cons] at h
      cases e : rd lh n d with
      | none => rw [e] at h; simp at h
      | some p =>
        rw [e] at h
        cases e2 : ds.mapM (rd lh n) with
        | none => rw [e2] at h; simp at h
        | some ps' =>
          rw [e2] at h
          simp at h
          subst h
          exact .cons (ih _ _ _ e q1) (rd_all ih ds _ _ e2 q2)
theorem rd_dp (hs : SimH K r H lh) : ∀ (n : Nat) (d : D) (v : V) (p : PyData), rd lh n d = some p → Rel K r H d v → Dp K H v p
  | 0, d, v, p, h, q => by
    cases q with
    | non => simp [rd] at h; subst h; exact .non
    | bl b => simp [rd] at h; subst h; exact .bl b
    | int b => simp [rd] at h; subst h; exact .int b
    | str b => simp [rd] at h; subst h; exact .str b
    | _ => simp [rd] at h
  | n + 1, d, v, p, h, q => by
    have ih := rd_dp hs n
    cases q with
    | non => simp [rd] at h; subst h; exact .non
    | bl b => simp [rd] at h; subst h; exact .bl b
    | int b => simp [rd] at h; subst h; exact .int b
    | str b => simp [rd] at h; subst h; exact .str b
    | raw _ => simp [rd] at h
    | @fl a xs ds e q =>
      have h' : (ds.mapM (rd lh n)).map PyData.list = some p := h
      cases e2 : ds.mapM (rd lh n) with
      | none => rw [e2] at h'; simp at h'
      | some ps =>
        rw [e2] at h'
        simp at h'
        subst h'
        exact .lst e.sq (rd_all ih ds xs ps e2 q)
    | @tup a xs ds e q =>
      have h' : (ds.mapM (rd lh n)).map PyData.tuple = some p := h
      cases e2 : ds.mapM (rd lh n) with
      | none => rw [e2] at h'; simp at h'
      | some ps =>
        rw [e2] at h'
        simp at h'
        subst h'
        exact .tup e (rd_all ih ds xs ps e2 q)
    | @loc k a e =>
      have h' : (match lh[k]? with | some (.lst xs) => (xs.mapM (rd lh n)).map PyData.list | none => none) = some p := h
      split at h'
      · rename_i ds eo
        obtain ⟨vs, z, q⟩ := hs.get e eo
        cases e2 : ds.mapM (rd lh n) with
        | none => rw [e2] at h'; simp at h'
        | some ps =>
          rw [e2] at h'
          simp at h'
          subst h'
          exact .lst (.of z) (rd_all ih ds vs ps e2 q)
      · cases h'
end
/-! ### == -/
def eqR (lh : LH) (a b : D) : Option Bool := match a, b with
  | .str x, .str y => some (decide (x = y))
  | _, _ => match rd lh 16 a, rd lh 16 b with
    | some p, some q => if SeqAt.shaped p = true ∧ SeqAt.shaped q = true then some (PyData.eqv p q) else none
    | _, _ => none
def eqD : D → D → LH → Re D := fun a b lh => match eqR lh a b with | some k => .ok (.bl k) lh | none => .bad
def neD : D → D → LH → Re D := fun a b lh => match eqR lh a b with | some k => .ok (.bl (!k)) lh | none => .bad
section
variable {X : Cx} {W : WX}
theorem eqR_to {r H} {lh : LH} {a b : D} {v u : V} {k : Bool} (hs : SimH X.K r H lh) (ra : Rel X.K r H a v) (rb : Rel X.K r H b u) (e : eqR lh a b = some k) :
    (scal v u = true ∧ k = decide (v = u)) ∨ ∃ d e, Dp X.K H v d ∧ Dp X.K H u e ∧ SeqAt.shaped d = true ∧ SeqAt.shaped e = true ∧ k = PyData.eqv d e := by
  unfold eqR at e
  split at e
  · cases ra
    cases rb
    refine .inl ⟨rfl, ?_⟩
    rw [← Option.some.inj e]
    rename_i x y
    by_cases h : x = y
    · subst h; simp
    · rw [decide_eq_false h, decide_eq_false fun z => h (V.str.inj z)]
  · split at e
    · rename_i p q e1 e2
      split at e
      · rename_i h
        exact .inr ⟨p, q, rd_dp hs _ _ _ _ e1 ra, rd_dp hs _ _ _ _ e2 rb, h.1, h.2, (Option.some.inj e).symm⟩
      · cases e
    · cases e
theorem o_eq {n : Nat} (o : Bk n X W) : OpD X (compareOp .Eq) eqD := by
  refine ⟨_, op_eq.or (op_eqD o.hu0), fun E r H lh a b v u Q Hh ra rb F => ?_⟩
  unfold eqD at F
  split at F
  · rename_i k e
    rcases eqR_to Hh ra rb e with ⟨h1, h2⟩ | ⟨d, e', h1, h2, h3, h4, h5⟩
    · exact .inl ⟨h1, by rw [← h2]; exact F.ok Hh (.bl _)⟩
    · exact .inr ⟨d, e', h1, h2, h3, h4, by rw [← h5]; exact F.ok Hh (.bl _)⟩
  · exact F.elim
theorem o_ne {n : Nat} (o : Bk n X W) : OpD X (compareOp .NotEq) neD := by
  refine ⟨_, op_ne.or (op_neD o.hu0), fun E r H lh a b v u Q Hh ra rb F => ?_⟩
  unfold neD at F
  split at F
  · rename_i k e
    rcases eqR_to Hh ra rb e with ⟨h1, h2⟩ | ⟨d, e', h1, h2, h3, h4, h5⟩
    · exact .inl ⟨h1, by rw [← h2]; exact F.ok Hh (.bl _)⟩
    · exact .inr ⟨d, e', h1, h2, h3, h4, by rw [← h5]; exact F.ok Hh (.bl _)⟩
  · exact F.elim
/-! ### in, not in -/
def rInT (K : PySem.W.Frag) : R2 := fun x y H Q => ∃ d ds, Dp K H x d ∧ Dp K H y (.tuple ds) ∧ SeqAt.shaped d = true ∧ SeqAt.shaped (.tuple ds) = true ∧ Q (.bl (ds.any fun z => PyData.eqv z d)) H
def rNotInT (K : PySem.W.Frag) : R2 := fun x y H Q => ∃ d ds, Dp K H x d ∧ Dp K H y (.tuple ds) ∧ SeqAt.shaped d = true ∧ SeqAt.shaped (.tuple ds) = true ∧ Q (.bl (!ds.any fun z => PyData.eqv z d)) H
theorem room_in_tup {A : Around} {d : PyData} {ds : List PyData} (h : SeqAt.shaped d = true) (hu : A.units + 65 < cLine) : A.units + 1 + min (PyData.depthAll ds) d.depth < cLine := by
  have h1 := SeqAt.depth_of_shaped h
  have h2 : min (PyData.depthAll ds) d.depth ≤ d.depth := Nat.min_le_right _ _
  omega
theorem canAll_tup {ds : List PyData} (h : SeqAt.shaped (.tuple ds) = true) : PyData.canLayAll0 ds = true := by
  have := SeqAt.canLay_of_shaped h
  simpa only [PyData.canLay0] using this
theorem op_inT (hu : X.A.units + 65 < cLine) : OpR X (compareOp .In) (rInT X.K) := by
  intro pins s σ H x y v u Q I rx ry h
  obtain ⟨d, ds, hd, he, sd, se, q⟩ := h
  obtain ⟨as, r1⟩ := Dp.reads I d x v hd rx
  obtain ⟨bs, r2⟩ := Dp.reads I (.tuple ds) y u he ry
  exact SeqAt.in_tuple_reads r2 r1 (canAll_tup se) (SeqAt.canLay_of_shaped sd) (room_in_tup sd hu) ⟨.bl _, H, I, rfl, q⟩
theorem op_notInT (hu : X.A.units + 65 < cLine) : OpR X (compareOp .NotIn) (rNotInT X.K) := by
  intro pins s σ H x y v u Q I rx ry h
  obtain ⟨d, ds, hd, he, sd, se, q⟩ := h
  obtain ⟨as, r1⟩ := Dp.reads I d x v hd rx
  obtain ⟨bs, r2⟩ := Dp.reads I (.tuple ds) y u he ry
  exact SeqAt.notIn_tuple_reads r2 r1 (canAll_tup se) (SeqAt.canLay_of_shaped sd) (room_in_tup sd hu) ⟨.bl _, H, I, rfl, q⟩
def hasSub (y x : Str) : Bool := !(Builtin.Str.occurrences y x 0 y.length 1).isEmpty
def inR (lh : LH) (a b : D) : Option Bool := match a, b with
  | .str x, .str y => some (hasSub y x)
  | a, b => match rd lh 16 a, rd lh 16 b with
    | some p, some (.list qs) => if SeqAt.shaped p = true ∧ SeqAt.shaped (.list qs) = true then some (qs.any fun z => PyData.eqv z p) else none
    | some p, some (.tuple qs) => if SeqAt.shaped p = true ∧ SeqAt.shaped (.tuple qs) = true then some (qs.any fun z => PyData.eqv z p) else none
    | _, _ => none
def inD : D → D → LH → Re D := fun a b lh => match inR lh a b with | some k => .ok (.bl k) lh | none => .bad
def ninD : D → D → LH → Re D := fun a b lh => match inR lh a b with | some k => .ok (.bl (!k)) lh | none => .bad
theorem inR_to {r H} {lh : LH} {a b : D} {v u : V} {k : Bool} (hs : SimH X.K r H lh) (ra : Rel X.K r H a v) (rb : Rel X.K r H b u) (e : inR lh a b = some k) :
    (∃ i j, v = .str i ∧ u = .str j ∧ k = hasSub j i) ∨ (∃ d ds, Dp X.K H v d ∧ Dp X.K H u (.list ds) ∧ SeqAt.shaped d = true ∧ SeqAt.shaped (.list ds) = true ∧ k = (ds.any fun z => PyData.eqv z d)) ∨
      ∃ d ds, Dp X.K H v d ∧ Dp X.K H u (.tuple ds) ∧ SeqAt.shaped d = true ∧ SeqAt.shaped (.tuple ds) = true ∧ k = (ds.any fun z => PyData.eqv z d) := by
  unfold inR at e
  split at e
  · cases ra
    cases rb
    exact .inl ⟨_, _, rfl, rfl, (Option.some.inj e).symm⟩
  · split at e
    · rename_i p q e1 e2
      split at e
      · rename_i h
        exact .inr (.inl ⟨p, q, rd_dp hs _ _ _ _ e1 ra, rd_dp hs _ _ _ _ e2 rb, h.1, h.2, (Option.some.inj e).symm⟩)
      · cases e
    · rename_i p q e1 e2
      split at e
      · rename_i h
        exact .inr (.inr ⟨p, q, rd_dp hs _ _ _ _ e1 ra, rd_dp hs _ _ _ _ e2 rb, h.1, h.2, (Option.some.inj e).symm⟩)
      · cases e
    · cases e
theorem o_in {n : Nat} (o : Bk n X W) : OpD X (compareOp .In) inD := by
  refine ⟨_, op_in_str.or ((op_inD o.hu).or (op_inT o.hu)), fun E r H lh a b v u Q Hh ra rb F => ?_⟩
  unfold inD at F
  split at F
  · rename_i k e
    rcases inR_to Hh ra rb e with ⟨i, j, e1, e2, h2⟩ | ⟨d, e', h1, h2, h3, h4, h5⟩ | ⟨d, e', h1, h2, h3, h4, h5⟩
    · exact .inl ⟨i, j, e1, e2, by show Q (.bl (hasSub j i)) H; rw [← h2]; exact F.ok Hh (.bl _)⟩
    · exact .inr (.inl ⟨d, e', h1, h2, h3, h4, by rw [← h5]; exact F.ok Hh (.bl _)⟩)
    · exact .inr (.inr ⟨d, e', h1, h2, h3, h4, by rw [← h5]; exact F.ok Hh (.bl _)⟩)
  · exact F.elim
theorem o_nin {n : Nat} (o : Bk n X W) : OpD X (compareOp .NotIn) ninD := by
  refine ⟨_, op_notin_str.or ((op_notInD o.hu).or (op_notInT o.hu)), fun E r H lh a b v u Q Hh ra rb F => ?_⟩
  unfold ninD at F
  split at F
  · rename_i k e
    rcases inR_to Hh ra rb e with ⟨i, j, e1, e2, h2⟩ | ⟨d, e', h1, h2, h3, h4, h5⟩ | ⟨d, e', h1, h2, h3, h4, h5⟩
    · exact .inl ⟨i, j, e1, e2, by show Q (.bl (!(hasSub j i))) H; rw [← h2]; exact F.ok Hh (.bl _)⟩
    · exact .inr (.inl ⟨d, e', h1, h2, h3, h4, by rw [← h5]; exact F.ok Hh (.bl _)⟩)
    · exact .inr (.inr ⟨d, e', h1, h2, h3, h4, by rw [← h5]; exact F.ok Hh (.bl _)⟩)
  · exact F.elim
/-! ### is None -/
def isD : D → D → LH → Re D := fun a b lh => match a, b with | .raw _, _ => .bad | a, .non => .ok (.bl (isNon a)) lh | _, _ => .bad
def isntD : D → D → LH → Re D := fun a b lh => match a, b with | .raw _, _ => .bad | a, .non => .ok (.bl (!isNon a)) lh | _, _ => .bad
theorem isNon_to {r H} {a : D} {v : V} (hne : ∀ x, a ≠ .raw x) (ra : Rel X.K r H a v) : isNon a = decide (v = .non) := by
  cases ra with
  | non => rfl
  | raw => exact absurd rfl (hne v)
  | _ => rfl
theorem o_is : OpD X (compareOp .Is) isD := by
  refine ⟨_, op_isN, fun E r H lh a b v u Q Hh ra rb F => ?_⟩
  unfold isD at F
  split at F
  · exact F.elim
  · rename_i hne
    cases rb
    refine ⟨rfl, ?_⟩
    rw [← isNon_to (fun x => by intro z; exact hne x z) ra]
    exact F.ok Hh (.bl _)
  · exact F.elim
theorem o_isnt : OpD X (compareOp .IsNot) isntD := by
  refine ⟨_, op_notN, fun E r H lh a b v u Q Hh ra rb F => ?_⟩
  unfold isntD at F
  split at F
  · exact F.elim
  · rename_i hne
    cases rb
    refine ⟨rfl, ?_⟩
    rw [← isNon_to (fun x => by intro z; exact hne x z) ra]
    exact F.ok Hh (.bl _)
  · exact F.elim

/-! ### truth -/
def truD (lh : LH) : D → Option Bool
  | .non => some false
  | .bl b => some b
  | .int i => some (i != 0)
  | .str y => if y.length ≤ sizeLine then some ((y.length : Int) != 0) else none
  | .tup ds => some (!ds.isEmpty)
  | .loc n => match lh[n]? with | some (.lst xs) => some (!xs.isEmpty) | none => none
  | .fl ds => some (!ds.isEmpty)
  | .raw _ => none
theorem RelL.emp {K r H} {ds : List D} {vs : List V} (h : RelL K r H ds vs) : ds.isEmpty = vs.isEmpty := by cases h <;> rfl
theorem truD_to {r H} {lh : LH} {a : D} {v : V} {k : Bool} (hs : SimH X.K r H lh) (ra : Rel X.K r H a v) (e : truD lh a = some k) : TruV X.K v H k := by
  cases ra with
  | non => exact (Option.some.inj e).symm
  | bl b => exact (Option.some.inj e).symm
  | int i => exact (Option.some.inj e).symm
  | str y =>
    have e' : (if y.length ≤ sizeLine then some ((y.length : Int) != 0) else none) = some k := e
    by_cases h : y.length ≤ sizeLine
    · rw [if_pos h] at e'
      exact ⟨h, (Option.some.inj e').symm⟩
    · rw [if_neg h] at e'
      cases e'
  | raw _ => cases e
  | @tup a xs ds e1 q => exact .inr (.inl ⟨xs, e1, by rw [← q.emp]; exact (Option.some.inj e).symm⟩)
  | @fl a xs ds e1 q => exact .inl ⟨xs, e1.sq, by rw [← q.emp]; exact (Option.some.inj e).symm⟩
  | @loc n a e1 =>
    have e' : (match lh[n]? with | some (.lst xs) => some (!xs.isEmpty) | none => none) = some k := e
    split at e'
    · rename_i ds eo
      obtain ⟨vs, z, q⟩ := hs.get e1 eo
      exact .inl ⟨vs, .of z, by rw [← q.emp]; exact (Option.some.inj e').symm⟩
    · cases e'
def truM (m : M) : MT := fun e lh => (m e lh).bind fun d l => match truD l d with | some k => .ok k l | none => .bad
section
variable {a b c : Expr} {rest : List Expr} {ma mb mc : M} {ta tb : MT} {pos : Pos}
theorem dt_tru (ha : DE X W a ma) (he : ∀ whole, isTrue a X.env whole = (do let v ← whole; standAt a.pos; holding [v] (truthy v)) := by intro _; rfl) : DT X W a (truM ma) := by
  refine pt_imp (pt_truth ha he) fun s H Q ⟨r, e, lh, S, Hh, F⟩ => ?_
  refine tG_of S Hh ((FinG.bind (R := Rel X.K) F).imp fun v H1 ⟨r1, l1, x, y1, z1, w1, F1⟩ => ?_)
  split at F1
  · rename_i k ek
    exact ⟨k, truD_to z1 w1 ek, F1.ok z1 rfl⟩
  · exact F1.elim
/-! ### and, or, not; if; tests -/
def andT (t u : MT) : MT := fun e lh => (t e lh).bind fun k l => if k = true then u e l else .ok false l
def orT (t u : MT) : MT := fun e lh => (t e lh).bind fun k l => if k = true then .ok true l else u e l
def notT (t : MT) : MT := fun e lh => (t e lh).bind fun k l => .ok (!k) l
theorem dw_and1 (ha : DT X W a ta) : DWW X W (.BoolOp .And [a] pos) ta := pw_and1 ha
theorem dw_or1 (ha : DT X W a ta) : DWW X W (.BoolOp .Or [a] pos) ta := pw_or1 ha
theorem dw_and (ha : DT X W a ta) (hb : DWW X W (.BoolOp .And (b :: rest) pos) tb) : DWW X W (.BoolOp .And (a :: b :: rest) pos) (andT ta tb) := by
  refine pw_imp (pw_and ha hb) fun s H Q ⟨r, e, lh, S, Hh, F⟩ => ?_
  refine tG_of S Hh ((FinG.bind (R := RB) F).imp fun k H1 ⟨r1, l1, x, y1, z1, w1, F1⟩ => ?_)
  have w1 : x = k := w1
  subst w1
  cases x with
  | true => exact iteT (tG_of (S.mono y1) z1 F1)
  | false => exact iteF (F1.ok z1 rfl)
theorem dw_or (ha : DT X W a ta) (hb : DWW X W (.BoolOp .Or (b :: rest) pos) tb) : DWW X W (.BoolOp .Or (a :: b :: rest) pos) (orT ta tb) := by
  refine pw_imp (pw_or ha hb) fun s H Q ⟨r, e, lh, S, Hh, F⟩ => ?_
  refine tG_of S Hh ((FinG.bind (R := RB) F).imp fun k H1 ⟨r1, l1, x, y1, z1, w1, F1⟩ => ?_)
  have w1 : x = k := w1
  subst w1
  cases x with
  | true => exact iteT (F1.ok z1 rfl)
  | false => exact iteF (tG_of (S.mono y1) z1 F1)
theorem dt_w (h : DWW X W a ta) : DT X W a ta := PW.pt h
theorem dt_not (ha : DT X W a ta) : DT X W (.UnaryOp .Not a pos) (notT ta) := by
  refine pt_imp (pt_not ha) fun s H Q ⟨r, e, lh, S, Hh, F⟩ => ?_
  refine tG_of S Hh ((FinG.bind (R := RB) F).imp fun k H1 ⟨r1, l1, x, y1, z1, w1, F1⟩ => ?_)
  have w1 : x = k := w1
  subst w1
  exact F1.ok z1 rfl
def andM (ma mb : M) : M := fun e lh => (ma e lh).bind fun d l => match truD l d with | some k => if k = true then mb e l else .ok d l | none => .bad
def orM (ma mb : M) : M := fun e lh => (ma e lh).bind fun d l => match truD l d with | some k => if k = true then .ok d l else mb e l | none => .bad
def notM (ma : M) : M := fun e lh => (ma e lh).bind fun d l => match truD l d with | some k => .ok (.bl (!k)) l | none => .bad
theorem de_one {op} (h : DE X W a ma) : DE X W (.BoolOp op [a] pos) ma := pe_one h
theorem de_and (ha : DE X W a ma) (hb : DE X W (.BoolOp .And (b :: rest) pos) mb) : DE X W (.BoolOp .And (a :: b :: rest) pos) (andM ma mb) := by
  refine pe_imp (pe_andT ha hb) fun s H Q ⟨r, e, lh, S, Hh, F⟩ => ?_
  refine tG_of S Hh ((FinG.bind (R := Rel X.K) F).imp fun v H1 ⟨r1, l1, x, y1, z1, w1, F1⟩ => ?_)
  split at F1
  · rename_i k ek
    refine ⟨k, truD_to z1 w1 ek, ?_⟩
    cases k with
    | true => exact iteT (tG_of (S.mono y1) z1 F1)
    | false => exact iteF (F1.ok z1 w1)
  · exact F1.elim
theorem de_or (ha : DE X W a ma) (hb : DE X W (.BoolOp .Or (b :: rest) pos) mb) : DE X W (.BoolOp .Or (a :: b :: rest) pos) (orM ma mb) := by
  refine pe_imp (pe_orT ha hb) fun s H Q ⟨r, e, lh, S, Hh, F⟩ => ?_
  refine tG_of S Hh ((FinG.bind (R := Rel X.K) F).imp fun v H1 ⟨r1, l1, x, y1, z1, w1, F1⟩ => ?_)
  split at F1
  · rename_i k ek
    refine ⟨k, truD_to z1 w1 ek, ?_⟩
    cases k with
    | true => exact iteT (F1.ok z1 w1)
    | false => exact iteF (tG_of (S.mono y1) z1 F1)
  · exact F1.elim
theorem de_not (ha : DE X W a ma) : DE X W (.UnaryOp .Not a pos) (notM ma) := by
  refine pe_imp (pe_notT ha) fun s H Q ⟨r, e, lh, S, Hh, F⟩ => ?_
  refine tG_of S Hh ((FinG.bind (R := Rel X.K) F).imp fun v H1 ⟨r1, l1, x, y1, z1, w1, F1⟩ => ?_)
  split at F1
  · rename_i k ek
    exact ⟨k, truD_to z1 w1 ek, F1.ok z1 (.bl _)⟩
  · exact F1.elim
def ifM (t : MT) (ma mb : M) : M := fun e lh => (t e lh).bind fun k l => if k = true then ma e l else mb e l
theorem de_if (hc : DT X W c ta) (ha : DE X W a ma) (hb : DE X W b mb) : DE X W (.IfExp c a b pos) (ifM ta ma mb) := by
  refine pe_imp (pe_ifExp hc ha hb) fun s H Q ⟨r, e, lh, S, Hh, F⟩ => ?_
  refine tG_of S Hh ((FinG.bind (R := RB) F).imp fun k H1 ⟨r1, l1, x, y1, z1, w1, F1⟩ => ?_)
  have w1 : x = k := w1
  subst w1
  cases x with
  | true => exact iteT (tG_of (S.mono y1) z1 F1)
  | false => exact iteF (tG_of (S.mono y1) z1 F1)
/-! ### a op b op c -/
def chM (f g : D → D → LH → Re D) (ma mb mc : M) : M := fun e lh => (ma e lh).bind fun a l1 => (mb e l1).bind fun b l2 => (f a b l2).bind fun z l3 => match z with
  | .bl k => if k = true then (mc e l3).bind fun c l4 => g b c l4 else .ok (.bl false) l3
  | _ => .bad
theorem OpD.use {g : Value → Value → Sem Value} {f : D → D → LH → Re D} (h : OpD X g f) : ∃ rr : R2, OpR X g rr ∧ ∀ (E : XK) r H lh a b v u Q, SimH X.K r H lh → Rel X.K r H a v → Rel X.K r H b u → FinG X.K X.mg E (Rel X.K) r H Q (f a b lh) → rr v u H Q := h
theorem de_ch_ {f g : D → D → LH → Re D} {rr rr' : R2} (h2 : ∀ (E : XK) r H lh a b v u Q, SimH X.K r H lh → Rel X.K r H a v → Rel X.K r H b u → FinG X.K X.mg E (Rel X.K) r H Q (f a b lh) → rr v u H Q)
    (h4 : ∀ (E : XK) r H lh a b v u Q, SimH X.K r H lh → Rel X.K r H a v → Rel X.K r H b u → FinG X.K X.mg E (Rel X.K) r H Q (g a b lh) → rr' v u H Q) {s : L2.St} {H : Hp} {Q : VK} (h : tG X W (Rel X.K) (chM f g ma mb mc) s H Q) :
    tChain rr rr' (tG X W (Rel X.K) ma) (tG X W (Rel X.K) mb) (tG X W (Rel X.K) mc) s H Q := by
  obtain ⟨r, e, lh, S, Hh, F⟩ := h
  refine tG_of S Hh ((FinG.bind (R := Rel X.K) F).imp fun v H1 ⟨r1, l1, x, y1, z1, w1, F1⟩ => ?_)
  refine tG_of (S.mono y1) z1 ((FinG.bind (R := Rel X.K) F1).imp fun u H2 ⟨r2, l2, x2, y2, z2, w2, F2⟩ => ?_)
  refine h2 (fun c dd H' => W c dd s H') r2 H2 l2 x x2 v u _ z2 (w1.mono y2) w2 ((FinG.bind (R := Rel X.K) F2).imp fun z H3 ⟨r3, l3, x3, y3, z3, w3, F3⟩ => ?_)
  cases w3 with
  | bl k =>
    refine ⟨k, rfl, ?_⟩
    cases k with
    | true =>
      refine iteT (tG_of (((S.mono y1).mono y2).mono y3) z3 ((FinG.bind (R := Rel X.K) F3).imp fun w H4 ⟨r4, l4, x4, y4, z4, w4, F4⟩ => ?_))
      exact h4 (fun c dd H' => W c dd s H') r4 H4 l4 x2 x4 u w _ z4 ((w2.mono y3).mono y4) w4 F4
    | false => exact iteF (F3.ok z3 (.bl _))
  | _ => exact F3.elim
theorem de_chain {op op' : CmpOp} {f g : D → D → LH → Re D} (ho : OpD X (compareOp op) f) (ho' : OpD X (compareOp op') g) (ha : DE X W a ma) (hb : DE X W b mb) (hc : DE X W c mc) (hm : lastMarks [op, op'] [b, c] = false := by with_unfolding_all rfl) :
    DE X W (.Compare a [op, op'] [b, c] pos) (chM f g ma mb mc) := by
  obtain ⟨rr, h1, h2⟩ := ho
  obtain ⟨rr', h3, h4⟩ := ho'
  exact pe_imp (pe_chain h1 h3 ha hb hc hm) fun s H Q h => de_ch_ h2 h4 h
theorem dt_chain {op op' : CmpOp} {f g : D → D → LH → Re D} (ho : OpD X (compareOp op) f) (ho' : OpD X (compareOp op') g) (ha : DE X W a ma) (hb : DE X W b mb) (hc : DE X W c mc) (hm : lastMarks [op, op'] [b, c] = false := by with_unfolding_all rfl) :
    DT X W (.Compare a [op, op'] [b, c] pos) (blT (chM f g ma mb mc)) := by
  obtain ⟨rr, h1, h2⟩ := ho
  obtain ⟨rr', h3, h4⟩ := ho'
  refine pt_imp (pt_chain h1 h3 ha hb hc hm) fun s H Q ⟨r, e, lh, S, Hh, F⟩ => ?_
  refine de_ch_ h2 h4 (tG_of S Hh ((FinG.bind (R := Rel X.K) F).imp fun v H1 ⟨r1, l1, x, y1, z1, w1, F1⟩ => ?_))
  cases w1 with
  | bl k => exact ⟨k, rfl, F1.ok z1 rfl⟩
  | _ => exact F1.elim
end
end
end NL
set_option maxRecDepth 100000
set_option maxHeartbeats 1000000
namespace NL
open PySem PySem.Spec L2
section
variable {X : Cx} {W : WX}
/-! ### arguments, displays -/
def nilA : MA := fun _ lh => .ok [] lh
def consA (ma : M) (mr : MA) : MA := fun e lh => (ma e lh).bind fun d l => (mr e l).bind fun ds l2 => .ok (d :: ds) l2
theorem da_nil : DA X W [] nilA where
  pa := pa_imp pa_nil fun s H Q ⟨r, e, lh, S, Hh, F⟩ => F.ok Hh .nil
  len := fun e lh ds lh' h => by
    have h' : Re.ok ([] : List D) lh = Re.ok ds lh' := h
    cases h'
    rfl
theorem da_cons {e : Expr} {es : List Expr} {ma : M} {mr : MA} (ha : DE X W e ma) (hr : DA X W es mr) (hs : starEach (e :: es) X.env = (false, eval e X.env) :: starEach es X.env := by rfl) : DA X W (e :: es) (consA ma mr) where
  pa := by
    refine pa_imp (pa_cons ha hr.pa hs) fun s H Q ⟨r, e, lh, S, Hh, F⟩ => ?_
    refine tG_of S Hh ((FinG.bind (R := Rel X.K) F).imp fun v H1 ⟨r1, l1, x, y1, z1, w1, F1⟩ => ?_)
    refine tG_of (S.mono y1) z1 ((FinG.bind (R := RelL X.K) F1).imp fun vs H2 ⟨r2, l2, x2, y2, z2, w2, F2⟩ => ?_)
    exact F2.ok z2 (.cons (w1.mono y2) w2)
  len := fun e lh ds lh' h => by
    have h' : (ma e lh).bind (fun d l => (mr e l).bind fun ds l2 => Re.ok (d :: ds) l2) = Re.ok ds lh' := h
    cases e1 : ma e lh with
    | ok d l =>
      rw [e1] at h'
      have h' : (mr e l).bind (fun ds l2 => Re.ok (d :: ds) l2) = Re.ok ds lh' := h'
      cases e2 : mr e l with
      | ok es' l2 =>
        rw [e2] at h'
        have h' : Re.ok (d :: es') l2 = Re.ok ds lh' := h'
        cases h'
        rw [List.length_cons, List.length_cons, hr.len _ _ _ _ e2]
      | er x l2 => rw [e2] at h'; cases h'
      | bad => rw [e2] at h'; cases h'
    | er x l => rw [e1] at h'; cases h'
    | bad => rw [e1] at h'; cases h'
/-- the list of an argument list, its length told -/
theorem FinG.len {es : List Expr} {m : MA} (hd : DA X W es m) {E : XK} {r : List Addr} {H : Hp} {Q : List V → Hp → Prop} {e : LE} {lh : LH} (h : FinG X.K X.mg E (RelL X.K) r H (fun vs H1 => vs.length = es.length → Q vs H1) (m e lh)) : FinG X.K X.mg E (RelL X.K) r H Q (m e lh) := by
  have hl := hd.len e lh
  cases q : m e lh with
  | ok ds l =>
    rw [q] at h
    exact fun r' H' vs a b c => h r' H' vs a b c (by rw [← c.length]; exact hl ds l q)
  | er x l => rw [q] at h; exact h
  | bad => rw [q] at h; exact h
def tupM (ma : MA) : M := fun e lh => (ma e lh).bind fun ds l => .ok (.tup ds) l
def lstM (ma : MA) : M := fun e lh => (ma e lh).bind fun ds l => .ok (.loc l.length) (l ++ [.lst ds])
theorem de_tup {es : List Expr} {ma : MA} {k : Nat} {pos : Pos} (h : DA X W es ma) (hz : es.length ≤ 1000 := by decide) : DE X W (.Tuple es k pos) (tupM ma) := by
  refine pe_imp (pe_tup h.pa) fun s H Q ⟨r, e, lh, S, Hh, F⟩ => ?_
  refine tG_of S Hh (FinG.len h ((FinG.bind (R := RelL X.K) F).imp fun vs H1 ⟨r1, l1, x, y1, z1, w1, F1⟩ hl => ?_))
  refine ⟨Nat.le_of_lt (small1000 (by omega)), fun p hp => ?_⟩
  exact F1.to (Ext.laid hp) (z1.laidT hp) (.tup (.of upd_same) (w1.mono (Ext.laid hp)))
theorem de_lst {es : List Expr} {ma : MA} {pos : Pos} (h : DA X W es ma) (hz : es.length ≤ 1000 := by decide) : DE X W (.List es pos) (lstM ma) := by
  refine pe_imp (pe_lst h.pa) fun s H Q ⟨r, e, lh, S, Hh, F⟩ => ?_
  refine tG_of S Hh (FinG.len h ((FinG.bind (R := RelL X.K) F).imp fun vs H1 ⟨r1, l1, x, y1, z1, w1, F1⟩ hl => ?_))
  refine ⟨Nat.le_of_lt (small1000 (by omega)), fun p hp => ?_⟩
  exact F1.to (Ext.more hp) (z1.laid hp w1) (.loc (laid_new z1))

/-! ### subscripts, slices -/
/-- what is a list, its items -/
def sq (lh : LH) : D → Option (List D)
  | .loc n => match lh[n]? with | some (.lst xs) => some xs | none => none
  | .fl xs => some xs
  | _ => none
@[simp] theorem sq_loc (lh : LH) (n : Nat) : sq lh (.loc n) = match lh[n]? with | some (.lst xs) => some xs | none => none := rfl
@[simp] theorem sq_fl (lh : LH) (xs : List D) : sq lh (.fl xs) = some xs := rfl
@[simp] theorem sq_tup (lh : LH) (xs : List D) : sq lh (.tup xs) = none := rfl
@[simp] theorem sq_non (lh : LH) : sq lh .non = none := rfl
@[simp] theorem sq_bl (lh : LH) (b : Bool) : sq lh (.bl b) = none := rfl
@[simp] theorem sq_int (lh : LH) (b : Int) : sq lh (.int b) = none := rfl
@[simp] theorem sq_str (lh : LH) (b : Str) : sq lh (.str b) = none := rfl
@[simp] theorem sq_raw (lh : LH) (b : V) : sq lh (.raw b) = none := rfl
theorem sq_to {K r H} {lh : LH} {d : D} {v : V} {ds : List D} (hs : SimH K r H lh) (q : Rel K r H d v) (h : sq lh d = some ds) : ∃ a vs, v = .ref a ∧ SqL K H a vs ∧ RelL K r H ds vs := by
  cases q with
  | @loc n a e =>
    have h' : (match lh[n]? with | some (.lst xs) => some xs | none => none) = some ds := h
    split at h'
    · rename_i xs eo
      cases h'
      obtain ⟨vs, z, q⟩ := hs.get e eo
      exact ⟨a, vs, rfl, .of z, q⟩
    · cases h'
  | @fl a vs xs e q =>
    cases h
    exact ⟨a, vs, rfl, e.sq, q⟩
  | _ => cases h
def ixD : D → D → LH → Re D := fun a b lh => match a, b with
  | .tup ds, .int i => match atI ds i with | some d => .ok d lh | none => .bad
  | .str z, .int i => if z.length ≤ sizeLine then (match atI z.cps.toList i with | some c => .ok (.str ⟨#[c]⟩) lh | none => .bad) else .bad
  | a, .int i => match sq lh a with | some ds => (match atI ds i with | some d => .ok d lh | none => .bad) | none => .bad
  | _, _ => .bad
theorem RelL.atI {K r H} {ds : List D} {vs : List V} {i : Int} {d : D} (h : RelL K r H ds vs) (e : atI ds i = some d) : ∃ v, L2.atI vs i = some v ∧ Rel K r H d v := by
  unfold L2.atI at e ⊢
  rw [← h.length]
  cases q : ixN ds.length i with
  | none => rw [q] at e; cases e
  | some j =>
    rw [q] at e
    exact h.get (show ds[j]? = some d from e)
def IxD (X : Cx) (f : D → D → LH → Re D) : Prop := ∃ rr : R2, IxR X rr ∧ ∀ (E : XK) r H lh a b v u Q, SimH X.K r H lh → Rel X.K r H a v → Rel X.K r H b u → FinG X.K X.mg E (Rel X.K) r H Q (f a b lh) → rr v u H Q
theorem ix_D : IxD X ixD := by
  refine ⟨_, ix_seq, fun E r H lh a b v u Q Hh ra rb F => ?_⟩
  unfold ixD at F
  split at F
  · cases ra with
    | tup e q =>
      cases rb
      split at F
      · rename_i d ed
        obtain ⟨v, h1, h2⟩ := q.atI ed
        exact .inr (.inl ⟨_, _, _, v, rfl, rfl, e, h1, F.ok Hh h2⟩)
      · exact F.elim
  · cases ra
    cases rb
    split at F
    · rename_i hz
      split at F
      · rename_i c ec
        exact .inr (.inr ⟨_, _, c, rfl, rfl, hz, ec, F.ok Hh (.str _)⟩)
      · exact F.elim
    · exact F.elim
  · cases rb
    split at F
    · rename_i ds eds
      obtain ⟨p, vs, rfl, h0, q⟩ := sq_to Hh ra eds
      split at F
      · rename_i d ed
        obtain ⟨v, h1, h2⟩ := q.atI ed
        exact .inl ⟨_, _, _, v, rfl, rfl, h0, h1, F.ok Hh h2⟩
      · exact F.elim
    · exact F.elim
  · exact F.elim
theorem de_ix {a b : Expr} {ma mb : M} {pos : Pos} (ha : DE X W a ma) (hb : DE X W b mb) (hs : PlainIx b := by exact fun _ _ => rfl) : DE X W (.Subscript a b pos) (opM ixD ma mb) := by
  obtain ⟨rr, h1, h2⟩ := ix_D (X := X)
  exact pe_imp (pe_ix h1 ha hb hs) fun s H Q h => de_op_ ha hb h2 h
abbrev MO := LE → LH → Re (Option Int)
def DO (X : Cx) (W : WX) (e : Option Expr) (m : MO) : Prop := PO X e (tG X W (fun _ _ a b => a = b) m)
theorem po_imp {e : Option Expr} {t t' : TO} (h : PO X e t) (i : ∀ s H Q, t' s H Q → t s H Q) : PO X e t' := ⟨fun pins s σ H Q I w => h.run pins s σ H Q I (i σ H Q w)⟩
def noM : MO := fun _ lh => .ok none lh
def soM (m : M) : MO := fun e lh => (m e lh).bind fun d l => match d with | .int i => .ok (some i) l | _ => .bad
theorem do_none : DO X W none noM := po_imp po_none fun s H Q ⟨r, e, lh, S, Hh, F⟩ => F.ok Hh rfl
theorem do_some {e : Expr} {m : M} (h : DE X W e m) : DO X W (some e) (soM m) := by
  refine po_imp (po_some h) fun s H Q ⟨r, e, lh, S, Hh, F⟩ => ?_
  refine tG_of S Hh ((FinG.bind (R := Rel X.K) F).imp fun v H1 ⟨r1, l1, x, y1, z1, w1, F1⟩ => ?_)
  cases w1 with
  | int i => exact ⟨i, rfl, F1.ok z1 rfl⟩
  | _ => exact F1.elim
def cutL {a : Type} (xs : List a) (lo hi : Option Int) : List a := (xs.drop (HT.sIx xs.length 0 lo)).take (HT.sIx xs.length xs.length hi - HT.sIx xs.length 0 lo)
theorem RelL.cut {K r H} {ds : List D} {vs : List V} (h : RelL K r H ds vs) (lo hi : Option Int) : RelL K r H (cutL ds lo hi) (cutV vs lo hi) := by
  unfold cutL cutV
  rw [← h.length]
  exact (h.drop _).take _
def slD : D → Option Int → Option Int → LH → Re D := fun a lo hi lh => match a with
  | .tup ds => .ok (.tup (cutL ds lo hi)) lh
  | a => match sq lh a with | some ds => .ok (.loc lh.length) (lh ++ [.lst (cutL ds lo hi)]) | none => .bad
theorem cutL_all {a : Type} {xs : List a} {lo hi : Option Int} (h : HT.sIx xs.length 0 lo = 0 ∧ HT.sIx xs.length xs.length hi = xs.length) : cutL xs lo hi = xs := by
  unfold cutL
  rw [h.1, h.2]
  simp
def slM (ma : M) (ml mh : MO) : M := fun e lh => (ma e lh).bind fun d l => (ml e l).bind fun lo l2 => (mh e l2).bind fun hi l3 => slD d lo hi l3
theorem de_sl {a : Expr} {lo hi : Option Expr} {ma : M} {ml mh : MO} {p2 pos : Pos} (ha : DE X W a ma) (hl : DO X W lo ml) (hh : DO X W hi mh) : DE X W (.Subscript a (.Slice lo hi none p2) pos) (slM ma ml mh) := by
  refine pe_imp (pe_slice (sl_list.or sl_tupA) ha hl hh) fun s H Q ⟨r, e, lh, S, Hh, F⟩ => ?_
  refine tG_of S Hh ((FinG.bind (R := Rel X.K) F).imp fun v H1 ⟨r1, l1, x, y1, z1, w1, F1⟩ => ?_)
  refine tG_of (S.mono y1) z1 ((FinG.bind (R := fun _ _ a b => a = b) F1).imp fun lo H2 ⟨r2, l2, x2, y2, z2, w2, F2⟩ => ?_)
  refine tG_of ((S.mono y1).mono y2) z2 ((FinG.bind (R := fun _ _ a b => a = b) F2).imp fun hi H3 ⟨r3, l3, x3, y3, z3, w3, F3⟩ => ?_)
  have w2 : x2 = lo := w2
  have w3 : x3 = hi := w3
  subst w2 w3
  have w4 := (w1.mono y2).mono y3
  unfold slD at F3
  split at F3
  · cases w4 with
    | tup e q =>
      refine .inr ⟨_, _, rfl, e, fun hw => ?_, fun hw p hp => ?_⟩
      · rw [← q.length] at hw
        rw [cutL_all hw] at F3
        exact F3.ok z3 (.tup e q)
      · exact F3.to (Ext.laid hp) (z3.laidT hp) (.tup (.of upd_same) ((q.cut _ _).mono (Ext.laid hp)))
  · split at F3
    · rename_i ds eds
      obtain ⟨p0, vs, rfl, h0, q⟩ := sq_to z3 w4 eds
      exact .inl ⟨_, _, rfl, h0, fun p hp => F3.to (Ext.more hp) (z3.laid hp (q.cut _ _)) (.loc (laid_new z3))⟩
    · exact F3.elim

/-! ### built-in functions -/
def CallD (X : Cx) (f : Value) (g : List D → LH → Re D) : Prop :=
  ∃ rr : List V → Hp → VK → Prop, CallR X f rr ∧ ∀ (E : XK) r H lh ds vs Q, SimH X.K r H lh → RelL X.K r H ds vs → FinG X.K X.mg E (Rel X.K) r H Q (g ds lh) → rr vs H Q
def callM (g : List D → LH → Re D) (ma : MA) : M := fun e lh => (ma e lh).bind fun ds l => g ds l
theorem de_cb_ {es : List Expr} {ma : MA} (ha : DA X W es ma) {rr : List V → Hp → VK → Prop} {g : List D → LH → Re D} (h2 : ∀ (E : XK) r H lh ds vs Q, SimH X.K r H lh → RelL X.K r H ds vs → FinG X.K X.mg E (Rel X.K) r H Q (g ds lh) → rr vs H Q)
    {s : L2.St} {H : Hp} {Q : VK} (h : tG X W (Rel X.K) (callM g ma) s H Q) : tCB rr (tG X W (RelL X.K) ma) s H Q := by
  obtain ⟨r, e, lh, S, Hh, F⟩ := h
  refine tG_of S Hh ((FinG.bind (R := RelL X.K) F).imp fun vs H1 ⟨r1, l1, x, y1, z1, w1, F1⟩ => ?_)
  exact h2 _ r1 H1 l1 x vs Q z1 w1 F1
theorem de_callB {id : String} {x : Str} {p pos : Pos} {e : Expr} {es : List Expr} {g : List D → LH → Re D} {ma : MA} (hc : CallD X (.builtin id) g) (hm : X.mg x = none) (hv : bootBuiltins x = some (.builtin id)) (ha : DA X W (e :: es) ma) (hg : Gl X x := by rfl) (hn : x ≠ "__name__" := by decide) (hdb : (x == ("__debug__" : Str)) = false := by decide)
    (he : starEach (e :: es) X.env = (false, eval e X.env) :: starEach es X.env := by rfl) (hpl : (backTo pos (starEach es X.env)).any (·.1) = false := by rfl) : DE X W (.Call (.Name x p) (e :: es) [] pos) (callM g ma) := by
  obtain ⟨rr, h1, h2⟩ := hc
  exact pe_imp (pe_callB h1 hg hm hv ha.pa hn hdb he hpl) fun s H Q h => de_cb_ ha h2 h
theorem de_callTy {T : String} {x : Str} {p pos : Pos} {e : Expr} {es : List Expr} {g : List D → LH → Re D} {ma : MA} (hc : CallD X (.type T) g) (hm : X.mg x = none) (hv : bootBuiltins x = some (.type T)) (ha : DA X W (e :: es) ma) (hg : Gl X x := by rfl) (hn : x ≠ "__name__" := by decide) (hdb : (x == ("__debug__" : Str)) = false := by decide)
    (he : starEach (e :: es) X.env = (false, eval e X.env) :: starEach es X.env := by rfl) (hpl : (backTo pos (starEach es X.env)).any (·.1) = false := by rfl) : DE X W (.Call (.Name x p) (e :: es) [] pos) (callM g ma) := by
  obtain ⟨rr, h1, h2⟩ := hc
  exact pe_imp (pe_callTy h1 hg hm hv ha.pa hn hdb he hpl) fun s H Q h => de_cb_ ha h2 h
/-- len -/
def lenD : List D → LH → Re D := fun ds lh => match ds with
  | [.tup xs] => .ok (.int xs.length) lh
  | [.str z] => if z.length ≤ sizeLine then .ok (.int z.length) lh else .bad
  | [d] => match sq lh d with | some xs => .ok (.int xs.length) lh | none => .bad
  | _ => .bad
theorem c_len : CallD X (.builtin "len") lenD := by
  refine ⟨_, call_len_seq.or call_len_str, fun E r H lh ds vs Q Hh ra F => ?_⟩
  unfold lenD at F
  split at F
  · cases ra with
    | cons ra rb =>
      cases rb
      cases ra with
      | tup e q => exact .inl ⟨_, _, rfl, .inr e, by rw [← q.length]; exact F.ok Hh (.int _)⟩
  · cases ra with
    | cons ra rb =>
      cases rb
      cases ra
      split at F
      · rename_i hz
        exact .inr ⟨_, rfl, hz, F.ok Hh (.int _)⟩
      · exact F.elim
  · cases ra with
    | cons ra rb =>
      cases rb
      split at F
      · rename_i ds eds
        obtain ⟨p, vs, rfl, h0, q⟩ := sq_to Hh ra eds
        exact .inl ⟨_, _, rfl, .inl h0, by rw [← q.length]; exact F.ok Hh (.int _)⟩
      · exact F.elim
  · exact F.elim
/-- int of an int or a bool -/
def intD : List D → LH → Re D := fun ds lh => match ds with
  | [.int i] => .ok (.int i) lh
  | [.bl k] => .ok (.int (if k then 1 else 0)) lh
  | _ => .bad
theorem c_int : CallD X (.type "int") intD := by
  refine ⟨_, call_int1, fun E r H lh ds vs Q Hh ra F => ?_⟩
  unfold intD at F
  split at F
  · cases ra with
    | cons ra rb =>
      cases rb
      cases ra
      exact .inl ⟨_, rfl, F.ok Hh (.int _)⟩
  · cases ra with
    | cons ra rb =>
      cases rb
      cases ra
      exact .inr ⟨_, rfl, F.ok Hh (.int _)⟩
  · exact F.elim
/-- list(..) of a list or a tuple -/
def listD : List D → LH → Re D := fun ds lh => match ds with
  | [.tup xs] => .ok (.loc lh.length) (lh ++ [.lst xs])
  | [d] => match sq lh d with | some xs => .ok (.loc lh.length) (lh ++ [.lst xs]) | none => .bad
  | _ => .bad
theorem c_list : CallD X (.type "list") listD := by
  refine ⟨_, call_list_of, fun E r H lh ds vs Q Hh ra F => ?_⟩
  unfold listD at F
  split at F
  · cases ra with
    | cons ra rb =>
      cases rb
      cases ra with
      | tup e q => exact ⟨_, _, rfl, .inr e, fun p hp => F.to (Ext.more hp) (Hh.laid hp q) (.loc (laid_new Hh))⟩
  · cases ra with
    | cons ra rb =>
      cases rb
      split at F
      · rename_i ds eds
        obtain ⟨p0, vs, rfl, h0, q⟩ := sq_to Hh ra eds
        exact ⟨_, _, rfl, .inl h0, fun p hp => F.to (Ext.more hp) (Hh.laid hp q) (.loc (laid_new Hh))⟩
      · exact F.elim
  · exact F.elim
/-- tuple(..) of a list or a tuple -/
def tupleD : List D → LH → Re D := fun ds lh => match ds with
  | [.tup xs] => .ok (.tup xs) lh
  | [d] => match sq lh d with | some xs => .ok (.tup xs) lh | none => .bad
  | _ => .bad
theorem c_tuple : CallD X (.type "tuple") tupleD := by
  refine ⟨_, call_tuple_of, fun E r H lh ds vs Q Hh ra F => ?_⟩
  unfold tupleD at F
  split at F
  · cases ra with
    | cons ra rb =>
      cases rb
      cases ra with
      | tup e q => exact ⟨_, _, rfl, .inr ⟨e, F.ok Hh (.tup e q)⟩⟩
  · cases ra with
    | cons ra rb =>
      cases rb
      split at F
      · rename_i ds eds
        obtain ⟨p0, vs, rfl, h0, q⟩ := sq_to Hh ra eds
        exact ⟨_, _, rfl, .inl ⟨h0, fun p hp => F.to (Ext.laid hp) (Hh.laidT hp) (.tup (.of upd_same) (q.mono (Ext.laid hp)))⟩⟩
      · exact F.elim
  · exact F.elim
/-- all, any of a list of bools -/
def bls : List D → Option (List Bool)
  | [] => some []
  | .bl b :: r => (bls r).map (b :: ·)
  | _ :: _ => none
theorem bls_to {K r H} : ∀ {ds : List D} {vs : List V} {bs : List Bool}, RelL K r H ds vs → bls ds = some bs → vs = bs.map V.bl
  | _, _, bs, .nil, h => by cases h; rfl
  | _, _, bs, .cons p q, h => by
    cases p with
    | bl b =>
      rename_i ds' vs'
      have h' : (bls ds').map (b :: ·) = some bs := h
      cases e : bls ds' with
      | none => rw [e] at h'; cases h'
      | some bs' =>
        rw [e] at h'
        cases h'
        rw [bls_to q e]
        rfl
    | _ => cases h
def qntD (f : List Bool → Bool) : List D → LH → Re D := fun ds lh => match ds with
  | [d] => match sq lh d with | some xs => (match bls xs with | some bs => .ok (.bl (f bs)) lh | none => .bad) | none => .bad
  | _ => .bad
def allD : List D → LH → Re D := qntD fun bs => bs.all id
def anyD : List D → LH → Re D := qntD fun bs => bs.any id
theorem c_all {k} (o : Bk k X W) : CallD X (.builtin "all") allD := by
  refine ⟨_, cr_all o.calm, fun E r H lh ds vs Q Hh ra F => ?_⟩
  unfold allD qntD at F
  split at F
  · cases ra with
    | cons ra rb =>
      cases rb
      split at F
      · rename_i ds eds
        obtain ⟨p0, vs, rfl, h0, q⟩ := sq_to Hh ra eds
        split at F
        · rename_i bs ebs
          have e2 := bls_to q ebs
          subst e2
          exact ⟨_, bs, rfl, h0, F.ok Hh (.bl _)⟩
        · exact F.elim
      · exact F.elim
  · exact F.elim
theorem c_any {k} (o : Bk k X W) : CallD X (.builtin "any") anyD := by
  refine ⟨_, cr_any o.calm, fun E r H lh ds vs Q Hh ra F => ?_⟩
  unfold anyD qntD at F
  split at F
  · cases ra with
    | cons ra rb =>
      cases rb
      split at F
      · rename_i ds eds
        obtain ⟨p0, vs, rfl, h0, q⟩ := sq_to Hh ra eds
        split at F
        · rename_i bs ebs
          have e2 := bls_to q ebs
          subst e2
          exact ⟨_, bs, rfl, h0, F.ok Hh (.bl _)⟩
        · exact F.elim
      · exact F.elim
  · exact F.elim
/-- isinstance -/
def tyNames : List String := ["NoneType", "bool", "int", "str", "tuple", "list"]
def isT (a b : String) : Bool := a == b || (a == "bool" && b == "int")
theorem isT_ok : ∀ a ∈ tyNames, ∀ b ∈ tyNames, kitB a b = some (isT a b) := by decide +kernel
def tyOf (lh : LH) : D → Option String
  | .non => some "NoneType" | .bl _ => some "bool" | .int _ => some "int" | .str _ => some "str" | .tup _ => some "tuple"
  | .loc n => match lh[n]? with | some (.lst _) => some "list" | none => none
  | .fl _ => some "list"
  | .raw _ => none
theorem tyOf_mem {lh : LH} {d : D} {t : String} (h : tyOf lh d = some t) : t ∈ tyNames := by
  cases d with
  | loc n =>
    have h' : (match lh[n]? with | some (.lst _) => some "list" | none => none) = some t := h
    split at h'
    · cases h'; decide
    · cases h'
  | raw _ => cases h
  | _ => cases h; decide
theorem tyOf_to {K r H} {lh : LH} {d : D} {v : V} {t : String} (hs : SimH K r H lh) (q : Rel K r H d v) (h : tyOf lh d = some t) : TyX K H v (.type t) := by
  cases q with
  | non => cases h; exact .base .non
  | bl b => cases h; exact .base (.bl b)
  | int b => cases h; exact .base (.int b)
  | str b => cases h; exact .base (.str b)
  | raw _ => cases h
  | @tup a xs ds e q =>
    cases h
    rcases e with (e | ⟨o, e⟩) | ⟨o, its, n, hk, hc, _⟩
    · exact .base (.tup e)
    · exact .fTuple e
    · exact .kTuple hk hc
  | @loc n a e =>
    have h' : (match lh[n]? with | some (.lst _) => some "list" | none => none) = some t := h
    split at h'
    · rename_i ds eo
      cases h'
      obtain ⟨vs, z, q⟩ := hs.get e eo
      exact .base (.lst z)
    · cases h'
  | @fl a vs xs e q =>
    cases h
    rcases e with ⟨o, e⟩ | ⟨o, its, n, hk, hc, _⟩
    · exact .base (.frz e)
    · exact .kList hk hc
def clsN : List D → Option (List String)
  | [] => some []
  | .raw (.ty n) :: r => if n ∈ tyNames then (clsN r).map (n :: ·) else none
  | _ :: _ => none
def isiD : List D → LH → Re D := fun ds lh => match ds with
  | [d, .raw (.ty n)] => match tyOf lh d with | some t => if n ∈ tyNames then .ok (.bl (isT t n)) lh else .bad | none => .bad
  | [d, .tup cs] => match tyOf lh d, clsN cs with | some t, some ns => .ok (.bl (ns.any fun n => isT t n)) lh | _, _ => .bad
  | _ => .bad
theorem clsN_to {K r H} {t : String} (ht : t ∈ tyNames) : ∀ {ds : List D} {vs : List V} {ns : List String}, RelL K r H ds vs → clsN ds = some ns →
    ∃ us, Paired ClsV vs us ∧ PySem.W.kitAny K (.type t) us = some (ns.any fun n => isT t n)
  | _, _, ns, .nil, h => by cases h; exact ⟨[], .nil, rfl⟩
  | _, _, ns, .cons p q, h => by
    rename_i d v ds' vs'
    unfold clsN at h
    split at h
    · rename_i e
      cases e
    · rename_i n r' e
      cases e
      cases p
      split at h
      · rename_i hn
        cases e2 : clsN ds' with
        | none => rw [e2] at h; cases h
        | some ns' =>
          rw [e2] at h
          cases h
          obtain ⟨us, h1, h2⟩ := clsN_to ht q e2
          refine ⟨.type n :: us, .cons (.ty n) h1, kitAny_cons (kit_ty (isT_ok t ht n hn)) (fun z => ?_) (fun z => ?_)⟩
          · rw [h2, List.any_cons, z, Bool.false_or]
          · rw [List.any_cons, z, Bool.true_or]
      · cases h
    · cases h
def rIsiS (K : PySem.W.Frag) : List V → Hp → VK → Prop := fun xs H Q => ∃ (x : V) (tp : Addr) (cs : List V) (t : Value) (us : List Value) (b : Bool), xs = [x, .ref tp] ∧ SqT K H tp cs ∧ Paired ClsV cs us ∧ TyX K H x t ∧ PySem.W.kitAny K t us = some b ∧ Q (.bl b) H
theorem call_isiS : CallR X (.builtin "isinstance") (rIsiS X.K) := by
  intro pins s σ H xs us Q I r h
  obtain ⟨x, tp, cs, t, ws, b, rfl, hT, k, ty, e, q⟩ := h
  obtain ⟨u1, u2, rfl, r1, r2⟩ := vals2 r
  cases (show u2 = Value.ref tp from r2)
  obtain ⟨P, Z, p, hx⟩ := kit_of I r1 ty
  obtain ⟨its, rv, ⟨o, h1, h2, n, h3⟩, _⟩ := I.tuple hT
  have e3 := ClsV.all k rv
  subst e3
  obtain ⟨oc, od, dt, sl⟩ := o
  simp only at h2 h3
  subst h2 h3
  exact PySem.W.kia_tup Z I.kIn p h1 e hx fun tk => ⟨.bl b, H, I.tok tk, rfl, q⟩
theorem c_isi : CallD X (.builtin "isinstance") isiD := by
  refine ⟨_, (call_isi (X := X)).or (call_isiS (X := X)), fun E r H lh ds vs Q Hh ra F => ?_⟩
  unfold isiD at F
  split at F
  · cases ra with
    | cons ra rb =>
      cases rb with
      | cons rb rc =>
        cases rc
        cases rb
        split at F
        · rename_i t et
          split at F
          · rename_i hn
            exact .inl ⟨_, _, _, _, _, rfl, .ty _, tyOf_to Hh ra et, kit_ty (isT_ok _ (tyOf_mem et) _ hn), F.ok Hh (.bl _)⟩
          · exact F.elim
        · exact F.elim
  · cases ra with
    | cons ra rb =>
      cases rb with
      | cons rb rc =>
        cases rc
        cases rb with
        | @tup a xs cs e q =>
          split at F
          · rename_i t ns et ens
            obtain ⟨us, h1, h2⟩ := clsN_to (K := X.K) (tyOf_mem et) q ens
            exact .inr ⟨_, a, xs, _, us, _, rfl, e, h1, tyOf_to Hh ra et, h2, F.ok Hh (.bl _)⟩
          · exact F.elim
  · exact F.elim
end
end NL
set_option maxRecDepth 100000
set_option maxHeartbeats 1000000
namespace NL
open PySem PySem.Spec L2
/-! ### statements -/
inductive RS where
  | nx (e : LE) (h : LH) | rt (d : D) (h : LH) | bk (e : LE) (h : LH) | ct (e : LE) (h : LH) | er (x : Ex) (e : LE) (h : LH) | bad
abbrev SM := LE → LH → RS
/-- a value's result, then the statement's -/
def toS (e : LE) (f : D → LH → RS) : Re D → RS | .ok d l => f d l | .er x l => .er x e l | .bad => .bad
def toSB (e : LE) (f : Bool → LH → RS) : Re Bool → RS | .ok d l => f d l | .er x l => .er x e l | .bad => .bad
@[simp] theorem toS_ok (e : LE) (f : D → LH → RS) (d : D) (l : LH) : toS e f (.ok d l) = f d l := rfl
@[simp] theorem toS_er (e : LE) (f : D → LH → RS) (x : Ex) (l : LH) : toS e f (.er x l) = .er x e l := rfl
@[simp] theorem toS_bad (e : LE) (f : D → LH → RS) : toS e f .bad = .bad := rfl
@[simp] theorem toSB_ok (e : LE) (f : Bool → LH → RS) (d : Bool) (l : LH) : toSB e f (.ok d l) = f d l := rfl
@[simp] theorem toSB_er (e : LE) (f : Bool → LH → RS) (x : Ex) (l : LH) : toSB e f (.er x l) = .er x e l := rfl
@[simp] theorem toSB_bad (e : LE) (f : Bool → LH → RS) : toSB e f .bad = .bad := rfl
section
variable (X : Cx) (W : WX)
def FinS (r : List Addr) (H : Hp) (T : Ends) : RS → Prop
  | .nx e l => ∀ r' H' s', Ext X.K r H r' H' → SimS X.K r' H' e s' → SimH X.K r' H' l → T.nx s' H'
  | .bk e l => ∀ r' H' s', Ext X.K r H r' H' → SimS X.K r' H' e s' → SimH X.K r' H' l → T.bk s' H'
  | .ct e l => ∀ r' H' s', Ext X.K r H r' H' → SimS X.K r' H' e s' → SimH X.K r' H' l → T.ct s' H'
  | .rt d l => ∀ r' H' v, Ext X.K r H r' H' → SimH X.K r' H' l → Rel X.K r' H' d v → T.rt v H'
  | .er x e l => ∀ r' H' s' c dd, Ext X.K r H r' H' → SimS X.K r' H' e s' → SimH X.K r' H' l → RelX X.K X.mg r' H' x c dd → W c dd s' H'
  | .bad => False
def tSt (m : SM) : TS := fun T s H => ∃ r e lh, SimS X.K r H e s ∧ SimH X.K r H lh ∧ FinS X W r H T (m e lh)
def DS (st : Stmt) (m : SM) : Prop := PS X st (tSt X W m)
def DSs (st : List Stmt) (m : SM) : Prop := PSs X st (tSt X W m)
end
section
variable {X : Cx} {W : WX}
theorem ps_imp {st : Stmt} {t t' : TS} (h : PS X st t) (i : ∀ T s H, t' T s H → t T s H) : PS X st t' := ⟨fun pins s σ H D I w => h.run pins s σ H D I (i D σ H w)⟩
theorem pss_imp {st : List Stmt} {t t' : TS} (h : PSs X st t) (i : ∀ T s H, t' T s H → t T s H) : PSs X st t' := ⟨fun pins s σ H D I w => h.run pins s σ H D I (i D σ H w)⟩
theorem pg_imp {tg : Expr} {t t' : TG} (h : PG X tg t) (i : ∀ v s H Q, t' v s H Q → t v s H Q) : PG X tg t' := ⟨fun pins s σ H v u Q I r w => h.run pins s σ H v u Q I r (i v σ H Q w)⟩
theorem pgs_imp {tg : List Expr} {t t' : TGs} (h : PGs X tg t) (i : ∀ v s H Q, t' v s H Q → t v s H Q) : PGs X tg t' := ⟨fun pins s σ H v u Q I r w => h.run pins s σ H v u Q I r (i v σ H Q w)⟩
theorem pi_imp {tg e : Expr} {t t' : TI} (h : PI X tg e t) (i : ∀ s H Q, t' s H Q → t s H Q) : PI X tg e t' := ⟨fun pins s σ H R I w => h.run pins s σ H R I (i σ H R w)⟩
theorem FinS.mono {r r1 : List Addr} {H H1 : Hp} {T : Ends} (x : Ext X.K r H r1 H1) : ∀ {t : RS}, FinS X W r H T t → FinS X W r1 H1 T t
  | .nx e l, h => fun r' H' s' a b c => h r' H' s' (x.trans a) b c
  | .bk e l, h => fun r' H' s' a b c => h r' H' s' (x.trans a) b c
  | .ct e l, h => fun r' H' s' a b c => h r' H' s' (x.trans a) b c
  | .rt d l, h => fun r' H' s' a b c => h r' H' s' (x.trans a) b c
  | .er q e l, h => fun r' H' s' c dd a => h r' H' s' c dd (x.trans a)
  | .bad, h => h
/-- a value's result ahead -/
theorem FinS.val {r : List Addr} {H : Hp} {T : Ends} {s : L2.St} {e : LE} {f : D → LH → RS} (S : SimS X.K r H e s) : ∀ {t : Re D}, FinS X W r H T (toS e f t) →
    FinG X.K X.mg (fun c dd H' => W c dd s H') (Rel X.K) r H (fun v H1 => ∃ r1 l1 d, Ext X.K r H r1 H1 ∧ SimH X.K r1 H1 l1 ∧ Rel X.K r1 H1 d v ∧ FinS X W r1 H1 T (f d l1)) t
  | .ok d l, h => fun r1 H1 v a b c => ⟨r1, l, d, a, b, c, FinS.mono a h⟩
  | .er x l, h => fun r' H' c dd a b q => h r' H' s c dd a (S.mono a) b q
  | .bad, h => h
theorem FinS.valB {r : List Addr} {H : Hp} {T : Ends} {s : L2.St} {e : LE} {f : Bool → LH → RS} (S : SimS X.K r H e s) : ∀ {t : Re Bool}, FinS X W r H T (toSB e f t) →
    FinG X.K X.mg (fun c dd H' => W c dd s H') RB r H (fun v H1 => ∃ r1 l1 d, Ext X.K r H r1 H1 ∧ SimH X.K r1 H1 l1 ∧ RB r1 H1 d v ∧ FinS X W r1 H1 T (f d l1)) t
  | .ok d l, h => fun r1 H1 v a b c => ⟨r1, l, d, a, b, c, FinS.mono a h⟩
  | .er x l, h => fun r' H' c dd a b q => h r' H' s c dd a (S.mono a) b q
  | .bad, h => h
/-! ### blocks -/
def RS.bd : RS → SM → RS
  | .nx e l, f => f e l | .rt d l, _ => .rt d l | .bk e l, _ => .bk e l | .ct e l, _ => .ct e l | .er x e l, _ => .er x e l | .bad, _ => .bad
@[simp] theorem bd_nx (e : LE) (l : LH) (f : SM) : (RS.nx e l).bd f = f e l := rfl
@[simp] theorem bd_rt (d : D) (l : LH) (f : SM) : (RS.rt d l).bd f = .rt d l := rfl
@[simp] theorem bd_bk (e : LE) (l : LH) (f : SM) : (RS.bk e l).bd f = .bk e l := rfl
@[simp] theorem bd_ct (e : LE) (l : LH) (f : SM) : (RS.ct e l).bd f = .ct e l := rfl
@[simp] theorem bd_er (x : Ex) (e : LE) (l : LH) (f : SM) : (RS.er x e l).bd f = .er x e l := rfl
@[simp] theorem bd_bad (f : SM) : (RS.bad).bd f = .bad := rfl
theorem FinS.bd {r : List Addr} {H : Hp} {T : Ends} {f : SM} : ∀ {t : RS}, FinS X W r H T (t.bd f) →
    FinS X W r H { T with nx := fun s' H' => ∃ r' e' l', Ext X.K r H r' H' ∧ SimS X.K r' H' e' s' ∧ SimH X.K r' H' l' ∧ FinS X W r' H' T (f e' l') } t
  | .nx e l, h => fun r' H' s' a b c => ⟨r', e, l, a, b, c, FinS.mono a h⟩
  | .bk e l, h => h
  | .ct e l, h => h
  | .rt d l, h => h
  | .er q e l, h => h
  | .bad, h => h
theorem FinS.imp {r : List Addr} {H : Hp} {T T' : Ends} (h1 : ∀ s H, T.nx s H → T'.nx s H) (h2 : ∀ v H, T.rt v H → T'.rt v H) (h3 : ∀ s H, T.bk s H → T'.bk s H) (h4 : ∀ s H, T.ct s H → T'.ct s H) : ∀ {t : RS}, FinS X W r H T t → FinS X W r H T' t
  | .nx e l, h => fun r' H' s' a b c => h1 _ _ (h r' H' s' a b c)
  | .bk e l, h => fun r' H' s' a b c => h3 _ _ (h r' H' s' a b c)
  | .ct e l, h => fun r' H' s' a b c => h4 _ _ (h r' H' s' a b c)
  | .rt d l, h => fun r' H' s' a b c => h2 _ _ (h r' H' s' a b c)
  | .er q e l, h => h
  | .bad, h => h
def seqS (m1 m2 : SM) : SM := fun e lh => (m1 e lh).bd m2
def nxS : SM := fun e lh => .nx e lh
def bkS : SM := fun e lh => .bk e lh
def ctS : SM := fun e lh => .ct e lh
theorem tSt_seq {m1 m2 : SM} {T : Ends} {s : L2.St} {H : Hp} (h : tSt X W (seqS m1 m2) T s H) : tSeq (tSt X W m1) (tSt X W m2) T s H := by
  obtain ⟨r, e, lh, S, Hh, F⟩ := h
  refine ⟨r, e, lh, S, Hh, ?_⟩
  have F' := FinS.bd F
  refine FinS.imp ?_ ?_ ?_ ?_ F'
  case refine_2 => exact fun _ _ z => z
  case refine_3 => exact fun _ _ z => z
  case refine_4 => exact fun _ _ z => z
  intro s' H' h
  obtain ⟨r', e', l', _, b, c, q⟩ := h
  exact ⟨r', e', l', b, c, q⟩
theorem dss_nil : DSs X W [] nxS := pss_imp pss_nil fun T s H ⟨r, e, lh, S, Hh, F⟩ => F r H s Ext.refl S Hh
theorem dss_cons {st : Stmt} {rest : List Stmt} {m1 m2 : SM} (h1 : DS X W st m1) (h2 : DSs X W rest m2) : DSs X W (st :: rest) (seqS m1 m2) :=
  pss_imp (pss_cons h1 h2) fun T s H h => tSt_seq h
theorem dss_one {st : Stmt} {m1 : SM} (h1 : DS X W st m1) : DSs X W [st] m1 := pss_one h1
theorem ds_pass {pos : Pos} : DS X W (.Pass pos) nxS := ps_imp ps_pass fun T s H ⟨r, e, lh, S, Hh, F⟩ => F r H s Ext.refl S Hh
theorem ds_break {pos : Pos} : DS X W (.Break pos) bkS := ps_imp ps_break fun T s H ⟨r, e, lh, S, Hh, F⟩ => F r H s Ext.refl S Hh
theorem ds_continue {pos : Pos} : DS X W (.Continue pos) ctS := ps_imp ps_continue fun T s H ⟨r, e, lh, S, Hh, F⟩ => F r H s Ext.refl S Hh
/-! ### small statements -/
def exS (m : M) : SM := fun e lh => toS e (fun _ l => .nx e l) (m e lh)
def rtS (m : M) : SM := fun e lh => toS e (fun d l => .rt d l) (m e lh)
def ifS (t : MT) (m1 m2 : SM) : SM := fun e lh => toSB e (fun k l => if k = true then m1 e l else m2 e l) (t e lh)
theorem ds_doc {x j pos pos'} : DS X W (.Expr (.Constant (.str x) j pos) pos') nxS := ps_imp ps_doc fun T s H ⟨r, e, lh, S, Hh, F⟩ => F r H s Ext.refl S Hh
theorem ds_expr {x : Expr} {m : M} {pos : Pos} (h : DE X W x m) (hs : swapsWith x none pos.line X.env = pure false := by rfl) : DS X W (.Expr x pos) (exS m) := by
  refine ps_imp (ps_expr h hs) fun T s H ⟨r, e, lh, S, Hh, F⟩ => ?_
  refine tG_of S Hh ((FinS.val S F).imp fun v H1 ⟨r1, l1, d, a, b, c, F1⟩ => ?_)
  exact F1 r1 H1 s Ext.refl (S.mono a) b
theorem ds_ret {x : Expr} {m : M} {pos : Pos} (h : DE X W x m) : DS X W (.Return (some x) pos) (rtS m) := by
  refine ps_imp (ps_ret h) fun T s H ⟨r, e, lh, S, Hh, F⟩ => ?_
  refine tG_of S Hh ((FinS.val S F).imp fun v H1 ⟨r1, l1, d, a, b, c, F1⟩ => ?_)
  exact F1 r1 H1 v Ext.refl b c
def rtN : SM := fun e lh => .rt .non lh
theorem ds_retN {pos : Pos} : DS X W (.Return none pos) rtN := ps_imp ps_retN fun T s H ⟨r, e, lh, S, Hh, F⟩ => F r H _ Ext.refl Hh .non
theorem ds_if {c : Expr} {a b : List Stmt} {t : MT} {m1 m2 : SM} {pos : Pos} (hc : DT X W c t) (ha : DSs X W a m1) (hb : DSs X W b m2) : DS X W (.If c a b pos) (ifS t m1 m2) := by
  refine ps_imp (ps_if hc ha hb) fun T s H ⟨r, e, lh, S, Hh, F⟩ => ?_
  refine tG_of S Hh ((FinS.valB S F).imp fun k H1 ⟨r1, l1, d, a, b, c, F1⟩ => ?_)
  have c : d = k := c
  subst c
  cases d with
  | true => exact iteT ⟨r1, e, l1, S.mono a, b, F1⟩
  | false => exact iteF ⟨r1, e, l1, S.mono a, b, F1⟩
/-! ### targets -/
abbrev TM := D → LE → LH → RS
def tTg (X : Cx) (W : WX) (vs : List Nat) (g : TM) : TG := fun v s H Q => ∃ r e lh d, SimS X.K r H e s ∧ SimH X.K r H lh ∧ Rel X.K r H d v ∧
  FinS X W r H { nx := fun s' H' => wipe s' vs = wipe s vs → Q s' H', rt := fun _ _ => False } (g d e lh)
def DG (X : Cx) (W : WX) (tg : Expr) (vs : List Nat) (g : TM) : Prop := PG X tg (tTg X W vs g)
abbrev TMs := List D → LE → LH → RS
def tTgs (X : Cx) (W : WX) (vs : List Nat) (g : TMs) : TGs := fun us s H Q => ∃ r e lh ds, SimS X.K r H e s ∧ SimH X.K r H lh ∧ RelL X.K r H ds us ∧
  FinS X W r H { nx := fun s' H' => wipe s' vs = wipe s vs → Q s' H', rt := fun _ _ => False } (g ds e lh)
def DGs (X : Cx) (W : WX) (tg : List Expr) (vs : List Nat) (g : TMs) : Prop := PGs X tg (tTgs X W vs g)
theorem wipe_at (s : L2.St) : ∀ (vs : List Nat) (i : Nat), (wipe s vs)[i]? = if i ∈ vs ∧ i < s.length then some none else s[i]?
  | [], i => by simp [wipe]
  | v :: vs, i => by
    unfold wipe
    by_cases h : v = i
    · subst h
      by_cases hl : v < s.length
      · rw [List.getElem?_set_self (by rw [wipe_length]; exact hl), if_pos ⟨List.mem_cons_self, hl⟩]
      · rw [List.getElem?_eq_none (by rw [List.length_set, wipe_length]; omega), if_neg fun z => hl z.2, List.getElem?_eq_none (by omega)]
    · rw [List.getElem?_set_ne h, wipe_at s vs i]
      by_cases hm : i ∈ vs ∧ i < s.length
      · rw [if_pos hm, if_pos ⟨List.mem_cons_of_mem _ hm.1, hm.2⟩]
      · rw [if_neg hm, if_neg fun z => hm ⟨(List.mem_cons.mp z.1).elim (fun q => absurd q.symm h) id, z.2⟩]
theorem wipe_sub {s s' : L2.St} {vs ws : List Nat} (h : wipe s vs = wipe s' vs) (hs : ∀ i ∈ vs, i ∈ ws) : wipe s ws = wipe s' ws := by
  have hl : s.length = s'.length := by rw [← wipe_length s vs, h, wipe_length]
  refine List.ext_getElem? fun i => ?_
  rw [wipe_at, wipe_at, hl]
  by_cases hi : i ∈ ws ∧ i < s'.length
  · rw [if_pos hi, if_pos hi]
  · rw [if_neg hi, if_neg hi]
    have q : (wipe s vs)[i]? = (wipe s' vs)[i]? := by rw [h]
    rw [wipe_at, wipe_at, hl] at q
    by_cases hv : i ∈ vs ∧ i < s'.length
    · exact absurd ⟨hs i hv.1, hv.2⟩ hi
    · rw [if_neg hv, if_neg hv] at q
      exact q
theorem wipe_set (s : L2.St) (i : Nat) (x : Option V) : wipe (s.set i x) [i] = wipe s [i] := by
  show (s.set i x).set i none = s.set i none
  rw [List.set_set]
def nmG (i : Nat) : TM := fun d e lh => .nx (e.set i (some d)) lh
theorem dg_name {i : Nat} {x : Str} {pos : Pos} (hN : X.N.Nodup) (hi : X.N[i]? = some x := by rfl) (hx : Loc X.env.scope x := by first | exact Or.inl rfl | exact Or.inr rfl) (hf : X.fn x = true ∨ X.env.scope.names.lookup x = some .local := by first | exact .inl rfl | exact .inr rfl | assumption) :
    DG X W (.Name x pos) [i] (nmG i) :=
  pg_imp (pg_name hN hi hx hf) fun v s H Q ⟨r, e, lh, d, S, Hh, q, F⟩ => F r H (s.set i (some v)) Ext.refl (S.set i q) Hh (wipe_set s i _)
def nilG : TMs := fun ds e lh => match ds with | [] => .nx e lh | _ => .bad
def consG (g : TM) (gs : TMs) : TMs := fun ds e lh => match ds with | d :: r => seqS (g d) (gs r) e lh | [] => .bad
theorem dgs_nil : DGs X W [] [] nilG := by
  refine pgs_imp pgs_nil fun us s H Q ⟨r, e, lh, ds, S, Hh, q, F⟩ => ?_
  unfold nilG at F
  split at F
  · cases q
    exact ⟨rfl, F r H s Ext.refl S Hh rfl⟩
  · exact F.elim
theorem dgs_cons {t : Expr} {ts : List Expr} {vs ws : List Nat} {g : TM} {gs : TMs} (h1 : DG X W t vs g) (h2 : DGs X W ts ws gs)
    (hs : (assignEach (t :: ts) X.env).map (·.2) = assign t X.env :: (assignEach ts X.env).map (·.2) := by rfl) : DGs X W (t :: ts) (vs ++ ws) (consG g gs) := by
  refine pgs_imp (pgs_cons h1 h2 hs) fun us s H Q ⟨r, e, lh, ds, S, Hh, q, F⟩ => ?_
  unfold consG at F
  split at F
  · rename_i d ds'
    cases q with
    | @cons _ v _ us' p q =>
      refine ⟨v, us', rfl, r, e, lh, d, S, Hh, p, ?_⟩
      have F' := FinS.bd F
      refine FinS.imp ?_ ?_ ?_ ?_ F'
      case refine_2 => exact fun _ _ z => z
      case refine_3 => exact fun _ _ z => z
      case refine_4 => exact fun _ _ z => z
      intro s' H' h hw
      obtain ⟨r', e', l', a, b, c, F2⟩ := h
      refine ⟨r', e', l', ds', b, c, q.mono a, ?_⟩
      refine FinS.imp ?_ ?_ ?_ ?_ F2
      case refine_2 => exact fun _ _ z => z
      case refine_3 => exact fun _ _ z => z
      case refine_4 => exact fun _ _ z => z
      intro s2 H2 h2 hw2
      refine h2 ?_
      exact (wipe_sub hw2 fun i hi => List.mem_append_right _ hi).trans (wipe_sub hw fun i hi => List.mem_append_left _ hi)
  · exact F.elim
theorem pg_or {tg : Expr} {g g' : TG} (h : PG X tg g) (h' : PG X tg g') : PG X tg (fun v s H Q => g v s H Q ∨ g' v s H Q) :=
  ⟨fun pins s σ H v u Q I r w => w.elim (h.run pins s σ H v u Q I r) (h'.run pins s σ H v u Q I r)⟩
/-- a, b, .. = a tuple or a list of that length -/
def tupG (n : Nat) (gs : TMs) : TM := fun d e lh => match d with
  | .tup ds => if ds.length = n then gs ds e lh else .bad
  | d => match sq lh d with | some ds => if ds.length = n then gs ds e lh else .bad | none => .bad
theorem dg_tup {es : List Expr} {k n : Nat} {vs : List Nat} {gs : TMs} {pos : Pos} (hc : X.calm = true) (h : DGs X W es vs gs) (hn : (assignEach es X.env).length = n := by rfl) (hst : (assignEach es X.env).findIdx? (·.1) = none := by rfl) :
    DG X W (.Tuple es k pos) vs (tupG n gs) := by
  refine pg_imp (pg_or (pg_tup hc h hn hst) (pg_lst hc h hn hst)) fun v s H Q ⟨r, e, lh, d, S, Hh, q, F⟩ => ?_
  unfold tupG at F
  split at F
  · cases q with
    | tup e1 q =>
      split at F
      · rename_i hl
        exact .inl ⟨_, _, rfl, e1, by rw [← q.length]; exact hl, r, e, lh, _, S, Hh, q, F⟩
      · exact F.elim
  · split at F
    · rename_i ds eds
      obtain ⟨p0, us, rfl, h0, q⟩ := sq_to Hh q eds
      split at F
      · rename_i hl
        exact .inr ⟨_, _, rfl, h0, by rw [← q.length]; exact hl, r, e, lh, _, S, Hh, q, F⟩
      · exact F.elim
    · exact F.elim
/-! ### stores to items -/
def setR (o i d : D) (e : LE) (lh : LH) : RS := match o, i with
  | .loc n, .int k => match lh[n]? with
    | some (.lst xs) => (match ixN xs.length k with | some j => .nx e (lh.set n (.lst (xs.set j d))) | none => .bad)
    | _ => .bad
  | _, _ => .bad
def subG (mo mi : M) : TM := fun d e lh => toS e (fun o l1 => toS e (fun i l2 => setR o i d e l2) (mi e l1)) (mo e lh)
theorem dg_sub {o i : Expr} {mo mi : M} {pos : Pos} (ho : DE X W o mo) (hi : DE X W i mi)
    (ha : ∀ v, assign (.Subscript o i pos) X.env v = (do
      let ov ← holding [v] (eval o X.env)
      let iv ← holding [v, ov] (eval i X.env)
      standAt pos
      holding [v, ov, iv] (setItem ov iv v)
      release [v, ov, iv] []) := by intro _; rfl) : DG X W (.Subscript o i pos) [] (subG mo mi) := by
  refine pg_imp (pg_sub ho hi set_list ha) fun v s H Q ⟨r, e, lh, d, S, Hh, q, F⟩ => ?_
  refine tG_of S Hh ((FinS.val S F).imp fun ov H1 ⟨r1, l1, o1, a, b, c, F1⟩ => ?_)
  refine tG_of (S.mono a) b ((FinS.val (S.mono a) F1).imp fun iv H2 ⟨r2, l2, i1, a2, b2, c2, F2⟩ => ?_)
  unfold setR at F2
  have c := c.mono a2
  have q := (q.mono a).mono a2
  split at F2
  · cases c with
    | loc e1 =>
      cases c2
      split at F2
      · rename_i xs exs
        obtain ⟨us, h0, qs⟩ := b2.get e1 exs
        split at F2
        · rename_i j ej
          refine ⟨_, us, _, j, rfl, rfl, h0, by rw [← qs.length]; exact ej, ?_⟩
          exact F2 r2 _ s (Ext.wr h0) ((S.mono a).mono (a2.trans (Ext.wr h0))) (b2.wr e1 h0 (qs.set j q)) rfl
        · exact F2.elim
      · exact F2.elim
  · exact F2.elim
/-! ### assignments -/
def asS (m : M) (g : TM) : SM := fun e lh => toS e (fun d l => g d e l) (m e lh)
theorem tSt_asg {m : M} {g : TM} {vs : List Nat} {T : Ends} {s : L2.St} {H : Hp} (hg : ∀ d e lh, match g d e lh with | .nx _ _ => True | .er _ _ _ => True | .bad => True | _ => False) (h : tSt X W (asS m g) T s H) : tAsg (tG X W (Rel X.K) m) (tTg X W vs g) T s H := by
  obtain ⟨r, e, lh, S, Hh, F⟩ := h
  refine tG_of S Hh ((FinS.val S F).imp fun v H1 ⟨r1, l1, d, a, b, c, F1⟩ => ?_)
  refine ⟨r1, e, l1, d, S.mono a, b, c, ?_⟩
  have hg := hg d e l1
  cases z : g d e l1 with
  | nx e2 l2 => rw [z] at F1; exact fun r' H' s' a b c _ => F1 r' H' s' a b c
  | er x e2 l2 => rw [z] at F1; exact F1
  | bad => rw [z] at F1; exact F1
  | _ => rw [z] at hg; exact hg.elim
/-- targets go on, raise, or are bad -/
def Gd (g : TM) : Prop := ∀ d e lh, match g d e lh with | .nx _ _ => True | .er _ _ _ => True | .bad => True | _ => False
def Gds (g : TMs) : Prop := ∀ d e lh, match g d e lh with | .nx _ _ => True | .er _ _ _ => True | .bad => True | _ => False
theorem gd_nm {i : Nat} : Gd (nmG i) := fun _ _ _ => trivial
theorem gds_nil : Gds nilG := fun ds e lh => by cases ds <;> trivial
theorem gds_cons {g : TM} {gs : TMs} (h : Gd g) (h2 : Gds gs) : Gds (consG g gs) := fun ds e lh => by
  cases ds with
  | nil => trivial
  | cons d r =>
    have q := h d e lh
    show match (g d e lh).bd (gs r) with | .nx _ _ => True | .er _ _ _ => True | .bad => True | _ => False
    cases z : g d e lh with
    | nx e1 l1 => exact h2 r e1 l1
    | er x e1 l1 => trivial
    | bad => trivial
    | _ => rw [z] at q; exact q.elim
theorem gd_if {n : Nat} {gs : TMs} (h : Gds gs) (ds : List D) (e : LE) (lh : LH) : match (if ds.length = n then gs ds e lh else RS.bad) with | .nx _ _ => True | .er _ _ _ => True | .bad => True | _ => False := by
  by_cases hl : ds.length = n
  · rw [if_pos hl]; exact h ds e lh
  · rw [if_neg hl]; trivial
theorem gd_tup {n : Nat} {gs : TMs} (h : Gds gs) : Gd (tupG n gs) := fun d e lh => by
  unfold tupG
  cases d with
  | tup ds => exact gd_if h ds e lh
  | loc k =>
    dsimp only
    cases sq lh (.loc k) with
    | none => trivial
    | some ds => exact gd_if h ds e lh
  | fl ds => exact gd_if h ds e lh
  | _ => trivial
theorem setR_or (o i d : D) (e : LE) (l : LH) : (∃ e' l', setR o i d e l = .nx e' l') ∨ setR o i d e l = .bad := by
  unfold setR
  split
  · split
    · split
      · exact .inl ⟨_, _, rfl⟩
      · exact .inr rfl
    · exact .inr rfl
  · exact .inr rfl
theorem gd_sub {mo mi : M} : Gd (subG mo mi) := fun d e lh => by
  show match toS e (fun o l1 => toS e (fun i l2 => setR o i d e l2) (mi e l1)) (mo e lh) with | .nx _ _ => True | .er _ _ _ => True | .bad => True | _ => False
  cases mo e lh with
  | ok o l1 =>
    show match toS e (fun i l2 => setR o i d e l2) (mi e l1) with | .nx _ _ => True | .er _ _ _ => True | .bad => True | _ => False
    cases mi e l1 with
    | ok i l2 =>
      show match setR o i d e l2 with | .nx _ _ => True | .er _ _ _ => True | .bad => True | _ => False
      rcases setR_or o i d e l2 with ⟨e', l', q⟩ | q
      · rw [q]; trivial
      · rw [q]; trivial
    | er x l2 => trivial
    | bad => trivial
  | er x l1 => trivial
  | bad => trivial
theorem ds_asg {tg x : Expr} {m : M} {g : TM} {vs : List Nat} {pos : Pos} (hm : DE X W x m) (hg : DG X W tg vs g) (gd : Gd g) (hs : swapsWithSole [tg] x pos.line X.env = pure false := by rfl) (hw : swappedStores [tg] x X.env = pure none := by rfl)
    (h1 : (assignEach [tg] X.env).map (·.2) = [assign tg X.env] := by rfl) : DS X W (.Assign [tg] x pos) (asS m g) :=
  ps_imp (ps_asg hm hg hs hw h1) fun T s H h => tSt_asg gd h
theorem ds_set {i : Nat} {y : Str} {x : Expr} {m : M} {pos pos' : Pos} (hN : X.N.Nodup) (hm : DE X W x m) (hi : X.N[i]? = some y := by rfl) (hx : Loc X.env.scope y := by first | exact Or.inl rfl | exact Or.inr rfl) (hs : swapsWith x (some (.Name y pos')) pos.line X.env = pure false := by rfl)
    (hf : X.fn y = true ∨ X.env.scope.names.lookup y = some .local := by first | exact .inl rfl | exact .inr rfl | assumption) : DS X W (.Assign [.Name y pos'] x pos) (asS m (nmG i)) := by
  refine ps_imp (ps_set hN hi hx hm hs hf) fun T s H ⟨r, e, lh, S, Hh, F⟩ => ?_
  refine tG_of S Hh ((FinS.val S F).imp fun v H1 ⟨r1, l1, d, a, b, c, F1⟩ => ?_)
  exact F1 r1 H1 (s.set i (some v)) Ext.refl ((S.mono a).set i c) b
/-- a, b = x, y (two or three plain local names) -/
def toSA (e : LE) (f : List D → LH → RS) : Re (List D) → RS | .ok d l => f d l | .er x l => .er x e l | .bad => .bad
theorem FinS.valA {r : List Addr} {H : Hp} {T : Ends} {s : L2.St} {e : LE} {f : List D → LH → RS} (S : SimS X.K r H e s) : ∀ {t : Re (List D)}, FinS X W r H T (toSA e f t) →
    FinG X.K X.mg (fun c dd H' => W c dd s H') (RelL X.K) r H (fun v H1 => ∃ r1 l1 d, Ext X.K r H r1 H1 ∧ SimH X.K r1 H1 l1 ∧ RelL X.K r1 H1 d v ∧ FinS X W r1 H1 T (f d l1)) t
  | .ok d l, h => fun r1 H1 v a b c => ⟨r1, l, d, a, b, c, FinS.mono a h⟩
  | .er x l, h => fun r' H' c dd a b q => h r' H' s c dd a (S.mono a) b q
  | .bad, h => h
def parS (i j : Nat) (ma : MA) : SM := fun e lh => toSA e (fun ds l => match ds with | [a, b] => .nx ((e.set i (some a)).set j (some b)) l | _ => .bad) (ma e lh)
theorem ds_par {i j : Nat} {x y : Str} {a b : Expr} {ma : MA} {px py pt pos : Pos} {kt k2 : Nat} {pt2 : Pos} (hc : X.calm = true) (hN : X.N.Nodup) (ha : DA X W [a, b] ma) (hi : X.N[i]? = some x := by rfl) (hj : X.N[j]? = some y := by rfl) (hij : i ≠ j := by decide)
    (hx : X.env.scope.names.lookup x = some .local := by rfl) (hy : X.env.scope.names.lookup y = some .local := by rfl)
    (hw : swappedStores [.Tuple [.Name x px, .Name y py] kt pt] (.Tuple [a, b] k2 pt2) X.env = pure (some [x, y]) := by rfl)
    (hs : swapsWithSole [.Tuple [.Name x px, .Name y py] kt pt] (.Tuple [a, b] k2 pt2) pos.line X.env = pure false := by rfl) :
    DS X W (.Assign [.Tuple [.Name x px, .Name y py] kt pt] (.Tuple [a, b] k2 pt2) pos) (parS i j ma) := by
  refine ps_imp (ps_par hc hN hi hj hij hx hy ha.pa hw hs) fun T s H ⟨r, e, lh, S, Hh, F⟩ => ?_
  refine tG_of S Hh ((FinS.valA S F).imp fun vs H1 ⟨r1, l1, ds, a, b, c, F1⟩ => ?_)
  split at F1
  · cases c with
    | cons p q =>
      cases q with
      | cons p' q =>
        cases q
        exact ⟨_, _, rfl, F1 r1 H1 _ Ext.refl (((S.mono a).set i p).set j p') b⟩
  · exact F1.elim
def parS3 (i j l : Nat) (ma : MA) : SM := fun e lh => toSA e (fun ds h => match ds with | [a, b, c] => .nx (((e.set i (some a)).set j (some b)).set l (some c)) h | _ => .bad) (ma e lh)
theorem ds_par3 {i j l : Nat} {x y z : Str} {a b c : Expr} {ma : MA} {px py pz pt pos : Pos} {kt k2 : Nat} {pt2 : Pos} (hc : X.calm = true) (hN : X.N.Nodup) (ha : DA X W [a, b, c] ma) (hi : X.N[i]? = some x := by rfl) (hj : X.N[j]? = some y := by rfl) (hl : X.N[l]? = some z := by rfl) (hij : i ≠ j := by decide) (hil : i ≠ l := by decide) (hjl : j ≠ l := by decide)
    (hx : X.env.scope.names.lookup x = some .local := by rfl) (hy : X.env.scope.names.lookup y = some .local := by rfl) (hz : X.env.scope.names.lookup z = some .local := by rfl)
    (hw : swappedStores [.Tuple [.Name x px, .Name y py, .Name z pz] kt pt] (.Tuple [a, b, c] k2 pt2) X.env = pure (some [x, y, z]) := by rfl)
    (hs : swapsWithSole [.Tuple [.Name x px, .Name y py, .Name z pz] kt pt] (.Tuple [a, b, c] k2 pt2) pos.line X.env = pure false := by rfl) :
    DS X W (.Assign [.Tuple [.Name x px, .Name y py, .Name z pz] kt pt] (.Tuple [a, b, c] k2 pt2) pos) (parS3 i j l ma) := by
  refine ps_imp (ps_par3 hc hN hi hj hl hij hil hjl hx hy hz ha.pa hw hs) fun T s H ⟨r, e, lh, S, Hh, F⟩ => ?_
  refine tG_of S Hh ((FinS.valA S F).imp fun vs H1 ⟨r1, l1, ds, a, b, c, F1⟩ => ?_)
  split at F1
  · cases c with
    | cons p q =>
      cases q with
      | cons p' q =>
        cases q with
        | cons p2 q =>
          cases q
          exact ⟨_, _, _, rfl, F1 r1 H1 _ Ext.refl ((((S.mono a).set i p).set j p').set l p2) b⟩
  · exact F1.elim
end
end NL
set_option maxRecDepth 100000
set_option maxHeartbeats 1000000
namespace NL
open PySem PySem.Spec L2
/-! ### what is walked -/
structure ItD where
  fuel : Nat
  nx : Nat → LH → Option (Option D)
def IterOk (K : PySem.W.Frag) (r : List Addr) (H : Hp) (it : ItD) (J : It) : Prop := ∀ r' H' lh', Ext K r H r' H' → SimH K r' H' lh' → ∀ i,
  match it.nx i lh' with
  | none => True
  | some none => J.stop i H'
  | some (some d) => J.go i H' ∧ ∀ x H2, J.yld i H' x H2 → Ext K r' H' r' H2 ∧ SimH K r' H2 lh' ∧ Rel K r' H2 d x
abbrev MI := LE → LH → Re ItD
def DI (X : Cx) (W : WX) (tg iter : Expr) (mi : MI) : Prop := PI X tg iter (tG X W (IterOk X.K) mi)
section
variable {X : Cx} {W : WX}
theorem pi_or {tg e : Expr} {t t' : TI} (h : PI X tg e t) (h' : PI X tg e t') : PI X tg e (fun s H R => t s H R ∨ t' s H R) :=
  ⟨fun pins s σ H R I w => w.elim (h.run pins s σ H R I) (h'.run pins s σ H R I)⟩
def itL (n : D) (xs : List D) : ItD := ⟨xs.length + 1, fun i l => (sq l n).map fun ys => ys[i]?⟩
def itT (xs : List D) : ItD := ⟨xs.length + 1, fun i _ => some xs[i]?⟩
def itS (x : Str) : ItD := ⟨x.cps.toList.length + 1, fun i _ => some ((x.cps.toList[i]?).map fun c => .str ⟨#[c]⟩)⟩
def itR (lo : Int) (n : Nat) : ItD := ⟨n + 1, fun i _ => some (if i < n then some (.int (lo + i)) else none)⟩
def pr2 (a b : Option D) : Option D := match a, b with | some x, some y => some (.tup [x, y]) | _, _ => none
def itZ (n m : D) (xs : List D) : ItD := ⟨xs.length + 1, fun i l => match sq l n, sq l m with | some ys, some zs => some (pr2 ys[i]? zs[i]?) | _, _ => none⟩
def itZT (xs ys : List D) : ItD := ⟨xs.length + 1, fun i _ => some (pr2 xs[i]? ys[i]?)⟩
def itE (n : D) (xs : List D) : ItD := ⟨xs.length + 1, fun i l => (sq l n).map fun ys => ys[i]?.map fun y => .tup [.int (i : Nat), y]⟩
section
variable {K : PySem.W.Frag} {r : List Addr} {H : Hp}
theorem ok_itS {x : Str} : IterOk K r H (itS x) (Its x) := fun r' H' lh' y hs i => by
  show match some ((x.cps.toList[i]?).map fun c => D.str ⟨#[c]⟩) with | none => True | some none => _ | some (some d) => _
  cases q : x.cps.toList[i]? with
  | none =>
    have h := List.getElem?_eq_none_iff.mp q
    exact (show x.cps.size ≤ i by rwa [Array.length_toList] at h)
  | some c =>
    have q' : x.cps[i]? = some c := by rw [← Array.getElem?_toList]; exact q
    refine ⟨(Array.getElem?_eq_some_iff.mp q').1, fun v H2 hy => ?_⟩
    obtain ⟨rfl, c2, h2, rfl⟩ := hy
    rw [q'] at h2
    cases h2
    exact ⟨Ext.refl, hs, .str _⟩
theorem ok_itL {n : D} {a : Addr} {xs : List D} (e : Rel K r H n (.ref a)) : IterOk K r H (itL n xs) (Itl K a) := fun r' H' lh' x hs i => by
  show match (sq lh' n).map fun ys => ys[i]? with | none => True | some none => _ | some (some d) => _
  cases q : sq lh' n with
  | none => trivial
  | some ys =>
    obtain ⟨a0, vs, ea, h0, rl⟩ := sq_to hs (e.mono x) q
    cases ea
    show match some ys[i]? with | none => True | some none => _ | some (some d) => _
    cases q2 : ys[i]? with
    | none => exact ⟨vs, h0, by rw [← rl.length]; exact List.getElem?_eq_none_iff.mp q2⟩
    | some d =>
      obtain ⟨v, h1, h2⟩ := rl.get q2
      refine ⟨⟨vs, v, h0, h1⟩, fun y H2 hy => ?_⟩
      obtain ⟨e1, e2⟩ := hy
      subst e1
      have z := e2 vs h0
      rw [h1] at z
      cases z
      exact ⟨Ext.refl, hs, h2⟩
theorem ok_itT {a : Addr} {xs : List D} {vs : List V} (e : SqT K H a vs) (rl : RelL K r H xs vs) : IterOk K r H (itT xs) (Itt K a) := fun r' H' lh' x hs i => by
  have h0 := x.tup _ _ e
  have rl := rl.mono x
  show match some xs[i]? with | none => True | some none => _ | some (some d) => _
  cases q2 : xs[i]? with
  | none => exact ⟨vs, h0, by rw [← rl.length]; exact List.getElem?_eq_none_iff.mp q2⟩
  | some d =>
    obtain ⟨v, h1, h2⟩ := rl.get q2
    refine ⟨⟨vs, v, h0, h1⟩, fun y H2 hy => ?_⟩
    obtain ⟨e1, e2⟩ := hy
    subst e1
    have z := e2 vs h0
    rw [h1] at z
    cases z
    exact ⟨Ext.refl, hs, h2⟩
theorem ok_itR {lo : Int} {n : Nat} : IterOk K r H (itR lo n) (Itr lo n) := fun r' H' lh' x hs i => by
  show match some (if i < n then some (D.int (lo + i)) else none) with | none => True | some none => _ | some (some d) => _
  by_cases h : i < n
  · rw [if_pos h]
    refine ⟨h, fun y H2 hy => ?_⟩
    obtain ⟨e1, e2⟩ := hy
    subst e1 e2
    exact ⟨Ext.refl, hs, .int _⟩
  · rw [if_neg h]
    exact Nat.le_of_not_lt h
theorem ok_itZ {n m : D} {a b : Addr} {xs : List D} (e : Rel K r H n (.ref a)) (e' : Rel K r H m (.ref b)) : IterOk K r H (itZ n m xs) (Itz K a b) := fun r' H' lh' x hs i => by
  show match (match sq lh' n, sq lh' m with | some ys, some zs => some (pr2 ys[i]? zs[i]?) | _, _ => none) with | none => True | some none => _ | some (some d) => _
  cases q : sq lh' n with
  | none => trivial
  | some ys =>
    cases q' : sq lh' m with
    | none => trivial
    | some zs =>
      obtain ⟨a0, vs, ea, h0, rl⟩ := sq_to hs (e.mono x) q
      cases ea
      obtain ⟨b0, us, eb, h0', rl'⟩ := sq_to hs (e'.mono x) q'
      cases eb
      show match some (pr2 ys[i]? zs[i]?) with | none => True | some none => _ | some (some d) => _
      cases q2 : ys[i]? with
      | none => exact ⟨vs, us, h0, h0', .inl (by rw [← rl.length]; exact List.getElem?_eq_none_iff.mp q2)⟩
      | some d =>
        cases q3 : zs[i]? with
        | none => exact ⟨vs, us, h0, h0', .inr (by rw [← rl'.length]; exact List.getElem?_eq_none_iff.mp q3)⟩
        | some d' =>
          obtain ⟨v, h1, h2⟩ := rl.get q2
          obtain ⟨v', h1', h2'⟩ := rl'.get q3
          refine ⟨⟨vs, us, v, v', h0, h0', h1, h1'⟩, fun y H2 hy => ?_⟩
          obtain ⟨T, z, z', e1, e2, e3, e4, e5⟩ := hy
          subst e1 e3
          have f1 := e4 vs h0
          have f2 := e5 us h0'
          rw [h1] at f1
          rw [h1'] at f2
          cases f1
          cases f2
          have xx : Ext K r' H' r' (upd H' T (.tup [v, v'])) := Ext.laid e2
          exact ⟨xx, hs.laidT e2, .tup (.of upd_same) (.cons (h2.mono xx) (.cons (h2'.mono xx) .nil))⟩
theorem ok_itZT {a b : Addr} {xs zs : List D} {vs us : List V} (e : SqT K H a vs) (e' : SqT K H b us) (rl : RelL K r H xs vs) (rl' : RelL K r H zs us) : IterOk K r H (itZT xs zs) (RZ.ItzT K a b) := fun r' H' lh' x hs i => by
  have h0 := x.tup _ _ e
  have h0' := x.tup _ _ e'
  have rl := rl.mono x
  have rl' := rl'.mono x
  show match some (pr2 xs[i]? zs[i]?) with | none => True | some none => _ | some (some d) => _
  cases q2 : xs[i]? with
  | none => exact ⟨vs, us, h0, h0', .inl (by rw [← rl.length]; exact List.getElem?_eq_none_iff.mp q2)⟩
  | some d =>
    cases q3 : zs[i]? with
    | none => exact ⟨vs, us, h0, h0', .inr (by rw [← rl'.length]; exact List.getElem?_eq_none_iff.mp q3)⟩
    | some d' =>
      obtain ⟨v, h1, h2⟩ := rl.get q2
      obtain ⟨v', h1', h2'⟩ := rl'.get q3
      refine ⟨⟨vs, us, v, v', h0, h0', h1, h1'⟩, fun y H2 hy => ?_⟩
      obtain ⟨T, z, z', e1, e2, e3, e4, e5⟩ := hy
      subst e1 e3
      have f1 := e4 vs h0
      have f2 := e5 us h0'
      rw [h1] at f1
      rw [h1'] at f2
      cases f1
      cases f2
      have xx : Ext K r' H' r' (upd H' T (.tup [v, v'])) := Ext.laid e2
      exact ⟨xx, hs.laidT e2, .tup (.of upd_same) (.cons (h2.mono xx) (.cons (h2'.mono xx) .nil))⟩
theorem ok_itE {n : D} {a : Addr} {xs : List D} (e : Rel K r H n (.ref a)) : IterOk K r H (itE n xs) (Ite K a) := fun r' H' lh' x hs i => by
  show match (sq lh' n).map (fun ys => ys[i]?.map fun y => D.tup [.int (i : Nat), y]) with | none => True | some none => _ | some (some d) => _
  cases q : sq lh' n with
  | none => trivial
  | some ys =>
    obtain ⟨a0, vs, ea, h0, rl⟩ := sq_to hs (e.mono x) q
    cases ea
    show match some (ys[i]?.map fun y => D.tup [.int (i : Nat), y]) with | none => True | some none => _ | some (some d) => _
    cases q2 : ys[i]? with
    | none => exact ⟨vs, h0, by rw [← rl.length]; exact List.getElem?_eq_none_iff.mp q2⟩
    | some d =>
      obtain ⟨v, h1, h2⟩ := rl.get q2
      refine ⟨⟨vs, v, h0, h1⟩, fun y H2 hy => ?_⟩
      obtain ⟨T, z, e1, e2, e3, e4⟩ := hy
      subst e1 e3
      have f1 := e4 vs h0
      rw [h1] at f1
      cases f1
      have xx : Ext K r' H' r' (upd H' T (.tup [.int (i : Nat), v])) := Ext.laid e2
      exact ⟨xx, hs.laidT e2, .tup (.of upd_same) (.cons (.int _) (.cons (h2.mono xx) .nil))⟩
end
/-- a list or a tuple is walked -/
def seqI (m : M) : MI := fun e lh => (m e lh).bind fun d l => match d with
  | .tup xs => .ok (itT xs) l
  | .str z => .ok (itS z) l
  | d => match sq l d with | some xs => .ok (itL d xs) l | none => .bad
theorem di_seq {tg x : Expr} {m : M} (h : DE X W x m) : DI X W tg x (seqI m) := by
  have h1 : PI X tg x (iList X.K (tG X W (Rel X.K) m)) := pi_list h
  have h2 : PI X tg x (iTup X.K (tG X W (Rel X.K) m)) := pi_tup h
  -- one reading for both
  refine ⟨fun pins s σ H R I w => ?_⟩
  obtain ⟨r, e, lh, S, Hh, F⟩ := w
  have F := FinG.bind (R := Rel X.K) F
  have hE : wpAny (model X.prog X.w) X.A (eval x X.env) (EP X pins σ (fun v H1 => (∃ a, v = .ref a ∧ (∃ xs, SqL X.K H1 a xs) ∧ R (Itl X.K a) H1) ∨ (∃ a, v = .ref a ∧ (∃ xs, SqT X.K H1 a xs) ∧ R (Itt X.K a) H1) ∨ ∃ z, v = .str z ∧ R (Its z) H1)) X.xe s := by
    refine PE.run h pins s σ H _ I (tG_of S Hh (F.imp fun v H1 ⟨r1, l1, x, y1, z1, w1, F1⟩ => ?_))
    split at F1
    · cases w1 with
      | tup e1 q => exact .inr (.inl ⟨_, rfl, ⟨_, e1⟩, F1.ok z1 (ok_itT e1 q)⟩)
    · cases w1 with
      | str => exact .inr (.inr ⟨_, rfl, F1.ok z1 ok_itS⟩)
    · split at F1
      · rename_i xs exs
        obtain ⟨a, vs, rfl, h0, q⟩ := sq_to z1 w1 exs
        exact .inl ⟨a, rfl, ⟨vs, h0⟩, F1.ok z1 (ok_itL w1)⟩
      · exact F1.elim
  refine thn hE fun v s1 ⟨x, H1, I1, r1, q1⟩ => ?_
  rcases q1 with ⟨a, rfl, ⟨xs, hq⟩, q⟩ | ⟨a, rfl, ⟨xs, hq⟩, q⟩ | ⟨z, rfl, q⟩
  · cases r1
    obtain ⟨its, rv, p, hz⟩ := I1.list hq
    refine wpAny_pyIter_list p.isList ?_
    refine ⟨s1.heap.objs.size, [s1.heap.objs.size], _, _, H1, rfl, I1.kept (t' := s1.toks) fun b o e => Heap.get?_push_of_some _ e, turn_list a _, ⟨_, Heap.get?_push_size _ rfl, rfl, rfl⟩, fun b hb => ?_, q⟩
    have e : b = s1.heap.objs.size := by simpa using hb
    subst e
    exact I1.fpOk (Nat.le_refl _) (I1.hok.fresh (Nat.le_refl _))
  · cases r1
    obtain ⟨its, rv, p, hz⟩ := I1.tuple hq
    refine wpAny_pyIter_tuple (show s1.heap.IsTuple a its.toArray from p) ?_
    refine ⟨s1.heap.objs.size, [s1.heap.objs.size], _, _, H1, rfl, I1.kept (t' := s1.toks) fun b o e => Heap.get?_push_of_some _ e, turn_tuple a _, ⟨_, Heap.get?_push_size _ rfl, rfl, rfl⟩, fun b hb => ?_, q⟩
    have e : b = s1.heap.objs.size := by simpa using hb
    subst e
    exact I1.fpOk (Nat.le_refl _) (I1.hok.fresh (Nat.le_refl _))
  · obtain ⟨t, rfl⟩ := r1
    cases ha : z.cps.all (· < 128)
    · exact wpAny_pyIter_wide ha (pi_one (tk := s1.toks) I1 _ (turn_str _ z t "str_iterator" (.inr rfl)) ⟨_, Heap.get?_push_size _ rfl, rfl, rfl⟩ q)
    · exact wpAny_pyIter_ascii ha (pi_one (tk := s1.toks) I1 _ (turn_str _ z t "str_ascii_iterator" (.inl rfl)) ⟨_, Heap.get?_push_size _ rfl, rfl, rfl⟩ q)
/-- range(j), range(i, j) -/
def rngI (ma : MA) : MI := fun e lh => (ma e lh).bind fun ds l => match ds with
  | [.int j] => if -(2 ^ 62) ≤ j ∧ j < 2 ^ 62 then .ok (itR 0 j.toNat) l else .bad
  | [.int i, .int j] => if -(2 ^ 62) ≤ i ∧ i < 2 ^ 62 ∧ -(2 ^ 62) ≤ j ∧ j < 2 ^ 62 then .ok (itR i (j - i).toNat) l else .bad
  | _ => .bad
theorem di_range1 {tg a : Expr} {ma : MA} {p pos : Pos} (ha : DA X W [a] ma) (hm : X.mg "range" = none) (hg : Gl X "range" := by rfl) (hs : starEach [a] X.env = [(false, eval a X.env)] := by rfl) : DI X W tg (.Call (.Name "range" p) [a] [] pos) (rngI ma) := by
  refine pi_imp (pi_range1 hg hm ha.pa hs) fun s H R ⟨r, e, lh, S, Hh, F⟩ => ?_
  refine tG_of S Hh (FinG.len ha ((FinG.bind (R := RelL X.K) F).imp fun vs H1 ⟨r1, l1, x, y1, z1, w1, F1⟩ hl => ?_))
  split at F1
  · cases w1 with
    | cons p q =>
      cases q
      cases p
      split at F1
      · rename_i hb
        exact ⟨_, rfl, hb.1, hb.2, F1.ok z1 ok_itR⟩
      · exact F1.elim
  · have := w1.length
    rw [hl] at this
    simp at this
  · exact F1.elim
theorem di_range2 {tg a b : Expr} {ma : MA} {p pos : Pos} (ha : DA X W [a, b] ma) (hm : X.mg "range" = none) (hg : Gl X "range" := by rfl) (hs : starEach [a, b] X.env = [(false, eval a X.env), (false, eval b X.env)] := by rfl) (hs2 : starEach [b] X.env = [(false, eval b X.env)] := by rfl) :
    DI X W tg (.Call (.Name "range" p) [a, b] [] pos) (rngI ma) := by
  refine pi_imp (pi_range2 hg hm ha.pa hs hs2) fun s H R ⟨r, e, lh, S, Hh, F⟩ => ?_
  refine tG_of S Hh (FinG.len ha ((FinG.bind (R := RelL X.K) F).imp fun vs H1 ⟨r1, l1, x, y1, z1, w1, F1⟩ hl => ?_))
  split at F1
  · have := w1.length
    rw [hl] at this
    simp at this
  · cases w1 with
    | cons p q =>
      cases q with
      | cons p' q =>
        cases q
        cases p
        cases p'
        split at F1
        · rename_i hb
          exact ⟨_, _, rfl, hb, F1.ok z1 ok_itR⟩
        · exact F1.elim
  · exact F1.elim
/-- zip of two lists or two tuples -/
def zipI (ma : MA) : MI := fun e lh => (ma e lh).bind fun ds l => match ds with
  | [.tup xs, .tup ys] => .ok (itZT xs ys) l
  | [d, d'] => match sq l d, sq l d' with | some xs, some _ => .ok (itZ d d' xs) l | _, _ => .bad
  | _ => .bad
theorem di_zip {a b : Expr} {elts : List Expr} {kk : Nat} {ma : MA} {p pos tpos : Pos} (ha : DA X W [a, b] ma) (hm : X.mg "zip" = none) (hg : Gl X "zip" := by rfl) (hs : starEach [a, b] X.env = (false, eval a X.env) :: starEach [b] X.env := by rfl) (hpl : (backTo pos (starEach [b] X.env)).any (·.1) = false := by rfl) :
    DI X W (.Tuple elts kk tpos) (.Call (.Name "zip" p) [a, b] [] pos) (zipI ma) := by
  refine pi_imp (RZ.pi_zipA hg hm ha.pa hs hpl) fun s H R ⟨r, e, lh, S, Hh, F⟩ => ?_
  refine tG_of S Hh ((FinG.bind (R := RelL X.K) F).imp fun vs H1 ⟨r1, l1, x, y1, z1, w1, F1⟩ => ?_)
  split at F1
  · cases w1 with
    | cons p q =>
      cases q with
      | cons p' q =>
        cases q
        cases p with
        | tup e1 q1 =>
          cases p' with
          | tup e2 q2 => exact ⟨_, _, _, _, rfl, .inr ⟨e1, e2, F1.ok z1 (ok_itZT e1 e2 q1 q2)⟩⟩
  · cases w1 with
    | cons p q =>
      cases q with
      | cons p' q =>
        cases q
        split at F1
        · rename_i xs ys exs eys
          obtain ⟨a0, vs, rfl, h0, _⟩ := sq_to z1 p exs
          obtain ⟨b0, us, rfl, h1, _⟩ := sq_to z1 p' eys
          exact ⟨_, _, vs, us, rfl, .inl ⟨h0, h1, F1.ok z1 (ok_itZ p p')⟩⟩
        · exact F1.elim
  · exact F1.elim
/-- enumerate of a list -/
def enI (ma : MA) : MI := fun e lh => (ma e lh).bind fun ds l => match ds with
  | [d] => match sq l d with | some xs => .ok (itE d xs) l | _ => .bad
  | _ => .bad
theorem di_enum {a : Expr} {elts : List Expr} {kk : Nat} {ma : MA} {p pos tpos : Pos} (ha : DA X W [a] ma) (hm : X.mg "enumerate" = none) (hg : Gl X "enumerate" := by rfl) (hs : starEach [a] X.env = [(false, eval a X.env)] := by rfl) :
    DI X W (.Tuple elts kk tpos) (.Call (.Name "enumerate" p) [a] [] pos) (enI ma) := by
  refine pi_imp (pi_enum hg hm ha.pa hs) fun s H R ⟨r, e, lh, S, Hh, F⟩ => ?_
  refine tG_of S Hh ((FinG.bind (R := RelL X.K) F).imp fun vs H1 ⟨r1, l1, x, y1, z1, w1, F1⟩ => ?_)
  split at F1
  · cases w1 with
    | cons p q =>
      cases q
      split at F1
      · rename_i xs exs
        obtain ⟨a0, vs, rfl, h0, _⟩ := sq_to z1 p exs
        exact ⟨_, vs, rfl, h0, F1.ok z1 (ok_itE p)⟩
      · exact F1.elim
  · exact F1.elim
/-! ### for, while -/
/-- a turn's end -/
def RS.lp : RS → SM → RS
  | .nx e l, f => f e l | .ct e l, f => f e l | .rt d l, _ => .rt d l | .bk e l, _ => .nx e l | .er x e l, _ => .er x e l | .bad, _ => .bad
@[simp] theorem lp_nx (e : LE) (l : LH) (f : SM) : (RS.nx e l).lp f = f e l := rfl
@[simp] theorem lp_rt (d : D) (l : LH) (f : SM) : (RS.rt d l).lp f = .rt d l := rfl
@[simp] theorem lp_bk (e : LE) (l : LH) (f : SM) : (RS.bk e l).lp f = .nx e l := rfl
@[simp] theorem lp_ct (e : LE) (l : LH) (f : SM) : (RS.ct e l).lp f = f e l := rfl
@[simp] theorem lp_er (x : Ex) (e : LE) (l : LH) (f : SM) : (RS.er x e l).lp f = .er x e l := rfl
@[simp] theorem lp_bad (f : SM) : (RS.bad).lp f = .bad := rfl
theorem FinS.lp {r : List Addr} {H : Hp} {T : Ends} {f : SM} : ∀ {t : RS}, FinS X W r H T (t.lp f) →
    FinS X W r H { nx := fun s' H' => ∃ r' e' l', Ext X.K r H r' H' ∧ SimS X.K r' H' e' s' ∧ SimH X.K r' H' l' ∧ FinS X W r' H' T (f e' l'), ct := fun s' H' => ∃ r' e' l', Ext X.K r H r' H' ∧ SimS X.K r' H' e' s' ∧ SimH X.K r' H' l' ∧ FinS X W r' H' T (f e' l'), bk := T.nx, rt := T.rt } t
  | .nx e l, h => fun r' H' s' a b c => ⟨r', e, l, a, b, c, FinS.mono a h⟩
  | .ct e l, h => fun r' H' s' a b c => ⟨r', e, l, a, b, c, FinS.mono a h⟩
  | .bk e l, h => h
  | .rt d l, h => h
  | .er q e l, h => h
  | .bad, h => h
def forN (nx : Nat → LH → Option (Option D)) (g : TM) (body : SM) : Nat → Nat → SM
  | 0, _ => fun _ _ => .bad
  | f + 1, i => fun e lh => match nx i lh with
    | none => .bad
    | some none => .nx e lh
    | some (some d) => ((g d e lh).bd body).lp (forN nx g body f (i + 1))
def toSI (e : LE) (f : ItD → LH → RS) : Re ItD → RS | .ok d l => f d l | .er x l => .er x e l | .bad => .bad
@[simp] theorem toSI_ok (e : LE) (f : ItD → LH → RS) (d : ItD) (l : LH) : toSI e f (.ok d l) = f d l := rfl
def forS (mi : MI) (g : TM) (body : SM) : SM := fun e lh => toSI e (fun it l => forN it.nx g body it.fuel 0 e l) (mi e lh)
theorem FinS.valI {r : List Addr} {H : Hp} {T : Ends} {s : L2.St} {e : LE} {f : ItD → LH → RS} (S : SimS X.K r H e s) : ∀ {t : Re ItD}, FinS X W r H T (toSI e f t) →
    FinG X.K X.mg (fun c dd H' => W c dd s H') (IterOk X.K) r H (fun v H1 => ∃ r1 l1 d, Ext X.K r H r1 H1 ∧ SimH X.K r1 H1 l1 ∧ IterOk X.K r1 H1 d v ∧ FinS X W r1 H1 T (f d l1)) t
  | .ok d l, h => fun r1 H1 v a b c => ⟨r1, l, d, a, b, c, FinS.mono a h⟩
  | .er x l, h => fun r' H' c dd a b q => h r' H' s c dd a (S.mono a) b q
  | .bad, h => h
theorem IterOk.mono {K : PySem.W.Frag} {r r' : List Addr} {H H' : Hp} {it : ItD} {J : It} (x : Ext K r H r' H') (h : IterOk K r H it J) : IterOk K r' H' it J := fun r2 H2 l2 y => h r2 H2 l2 (x.trans y)
theorem ds_for {k : Nat} {tg iter : Expr} {body : List Stmt} {mi : MI} {vs : List Nat} {g : TM} {m : SM} {pos : Pos} (o : Bk k X W) (hi : DI X W tg iter mi) (hg : DG X W tg vs g) (gd : Gd g) (hb : DSs X W body m)
    (hs : ∀ x, foldedSetIterable iter X.env x = pure x := by intro _; rfl) : DS X W (.For tg iter body [] pos) (forS mi g m) := by
  refine ps_imp (ps_for o.pass o.calm hi hg hb hs) fun T s H ⟨r, e, lh, S, Hh, F⟩ => ?_
  refine tG_of S Hh ((FinS.valI S F).imp fun J H1 ⟨r1, l1, it, a, b, c, F1⟩ => ?_)
  refine ⟨fun i m σ H => ∃ r e lh, Ext X.K r1 H1 r H ∧ SimS X.K r H e σ ∧ SimH X.K r H lh ∧ FinS X W r H T (forN it.nx g ‹SM› m i e lh), ⟨it.fuel, r1, e, l1, Ext.refl, S.mono a, b, F1⟩, ?_⟩
  rintro i n σ2 H2 ⟨r2, e2, l2, x2, S2, Hh2, F2⟩
  cases n with
  | zero => exact F2.elim
  | succ f =>
    have F2 : FinS X W r2 H2 T (match it.nx i l2 with
      | none => .bad
      | some none => .nx e2 l2
      | some (some d) => ((g d e2 l2).bd m).lp (forN it.nx g m f (i + 1))) := F2
    have ok := c r2 H2 l2 x2 Hh2 i
    cases q : it.nx i l2 with
    | none => rw [q] at F2; exact F2.elim
    | some od =>
      cases od with
      | none =>
        rw [q] at F2 ok
        exact .inl ⟨ok, F2 r2 H2 σ2 Ext.refl S2 Hh2⟩
      | some d =>
        rw [q] at F2 ok
        refine .inr ⟨ok.1, fun σ H => ∃ r e lh, Ext X.K r1 H1 r H ∧ SimS X.K r H e σ ∧ SimH X.K r H lh ∧ FinS X W r H T (forN it.nx g m f (i + 1) e lh), fun σ' H' h => ⟨f, Nat.lt_succ_self f, h⟩, fun x H3 hy => ?_⟩
        obtain ⟨y1, y2, y3⟩ := ok.2 x H3 hy
        refine ⟨r2, e2, l2, d, S2.mono y1, y2, y3, ?_⟩
        have F3 := FinS.bd (FinS.lp (FinS.mono y1 F2))
        have gd := gd d e2 l2
        cases z : g d e2 l2 with
        | nx e3 l3 =>
          rw [z] at F3
          intro r4 H4 s4 a4 b4 c4 hw
          obtain ⟨r5, e5, l5, a5, b5, c5, F5⟩ := F3 r4 H4 s4 a4 b4 c4
          refine ⟨r5, e5, l5, b5, c5, ?_⟩
          refine FinS.imp ?_ ?_ ?_ ?_ F5
          case refine_2 => exact fun _ _ z => z
          case refine_3 => exact fun _ _ z => z
          · rintro s6 H6 ⟨r6, e6, l6, a6, b6, c6, F6⟩
            exact ⟨r6, e6, l6, (x2.trans y1).trans a6, b6, c6, F6⟩
          · rintro s6 H6 ⟨r6, e6, l6, a6, b6, c6, F6⟩
            exact ⟨r6, e6, l6, (x2.trans y1).trans a6, b6, c6, F6⟩
        | er x e2 l2 => rw [z] at F3; exact F3
        | bad => rw [z] at F3; exact F3
        | _ => rw [z] at gd; exact gd.elim
def whN (t : MT) (body : SM) : Nat → SM
  | 0 => fun _ _ => .bad
  | f + 1 => fun e lh => toSB e (fun k l => if k = true then (body e l).lp (whN t body f) else .nx e l) (t e lh)
def fuel0 : Nat := 100000000
def whS (fuel : Nat) (t : MT) (body : SM) : SM := whN t body fuel
theorem ds_while {k : Nat} {c : Expr} {body : List Stmt} {t : MT} {m : SM} {pos : Pos} (fuel : Nat) (o : Bk k X W) (hc : DT X W c t) (hb : DSs X W body m) : DS X W (.While c body [] pos) (whS fuel t m) := by
  refine ps_imp (ps_while o.pass hc hb) fun T s H ⟨r, e, lh, S, Hh, F⟩ => ?_
  refine ⟨fun n σ H => ∃ r e lh, SimS X.K r H e σ ∧ SimH X.K r H lh ∧ FinS X W r H T (whN t m n e lh), ⟨fuel, r, e, lh, S, Hh, F⟩, ?_⟩
  rintro n σ2 H2 ⟨r2, e2, l2, S2, Hh2, F2⟩
  cases n with
  | zero => exact F2.elim
  | succ f =>
    have F2 : FinS X W r2 H2 T (toSB e2 (fun k l => if k = true then (m e2 l).lp (whN t m f) else .nx e2 l) (t e2 l2)) := F2
    refine tG_of S2 Hh2 ((FinS.valB S2 F2).imp fun k H1 ⟨r1, l1, d, a, b, c, F3⟩ => ?_)
    have c : d = k := c
    subst c
    cases d with
    | false => exact iteF (F3 r1 H1 σ2 Ext.refl (S2.mono a) b)
    | true =>
      refine iteT ⟨fun σ H => ∃ r e lh, SimS X.K r H e σ ∧ SimH X.K r H lh ∧ FinS X W r H T (whN t m f e lh), fun σ' H' h => ⟨f, Nat.lt_succ_self f, h⟩, ?_⟩
      have F3 : FinS X W r1 H1 T ((m e2 l1).lp (whN t m f)) := F3
      refine ⟨r1, e2, l1, S2.mono a, b, ?_⟩
      refine FinS.imp ?_ ?_ ?_ ?_ (FinS.lp F3)
      case refine_2 => exact fun _ _ z => z
      case refine_3 => exact fun _ _ z => z
      · rintro s6 H6 ⟨r6, e6, l6, a6, b6, c6, F6⟩
        exact ⟨r6, e6, l6, b6, c6, F6⟩
      · rintro s6 H6 ⟨r6, e6, l6, a6, b6, c6, F6⟩
        exact ⟨r6, e6, l6, b6, c6, F6⟩
end
end NL
set_option maxRecDepth 100000
set_option maxHeartbeats 1000000
namespace NL
open PySem PySem.Spec L2
/-! ### list comprehensions of one clause -/
def Wf : WX := fun _ _ _ _ => False
theorem Bk.blk {k : Nat} {X : Cx} {W : WX} (o : Bk k X W) (s : Shared) (H : Hp) (scope : Scope) (C : Env) (fp : List Addr) : Bk k (Cx.blk X s H scope C fp) Wf :=
  ⟨o.calm, takes0, o.nd, PassesOwn.never, o.hr⟩
def wipeD (e : LE) : List Nat → LE
  | [] => e
  | v :: vs => (wipeD e vs).set v none
theorem wipeD_length (e : LE) : ∀ vs : List Nat, (wipeD e vs).length = e.length
  | [] => rfl
  | v :: vs => by unfold wipeD; rw [List.length_set, wipeD_length e vs]
theorem SimS.wipe {K r H} {e : LE} {s : L2.St} (h : SimS K r H e s) : ∀ vs : List Nat, SimS K r H (wipeD e vs) (L2.wipe s vs)
  | [] => h
  | v :: vs => by
    have ih := h.wipe vs
    refine ⟨by rw [wipeD_length, wipe_length, h.len], fun i d hi => ?_⟩
    have hi : ((wipeD e vs).set v none)[i]? = some (some d) := hi
    by_cases e1 : v = i
    · subst e1
      by_cases hl : v < (wipeD e vs).length
      · rw [List.getElem?_set_self hl] at hi; cases hi
      · rw [List.getElem?_eq_none (by rw [List.length_set]; omega)] at hi; cases hi
    · rw [List.getElem?_set_ne e1] at hi
      obtain ⟨u, a, b⟩ := ih.sl i d hi
      exact ⟨u, by show ((L2.wipe s vs).set v none)[i]? = _; rw [List.getElem?_set_ne e1]; exact a, b⟩
def lcN (nx : Nat → LH → Option (Option D)) (g : TM) (t : MT) (m : M) (n0 : Nat) (e : LE) : Nat → Nat → LH → Re D
  | 0, _ => fun _ => .bad
  | f + 1, i => fun lh => match nx i lh with
    | none => .bad
    | some none => .ok (.loc n0) lh
    | some (some d) => match g d e lh with
      | .nx e1 l1 => match t e1 l1 with
        | .ok false l2 => lcN nx g t m n0 e f (i + 1) l2
        | .ok true l2 => match m e1 l2 with
          | .ok y l3 => match l3[n0]? with
            | some (.lst acc) => if acc.length < sizeLine then lcN nx g t m n0 e f (i + 1) (l3.set n0 (.lst (acc ++ [y]))) else .bad
            | _ => .bad
          | _ => .bad
        | _ => .bad
      | _ => .bad
def lcM (mi : MI) (g : TM) (t : MT) (m : M) (own : List Nat) : M := fun e lh => (mi e lh).bind fun it l => lcN it.nx g t m l.length (wipeD e own) it.fuel 0 (l ++ [.lst []])
def DTs (X : Cx) (W : WX) (ifs : List Expr) (t : MT) : Prop := PTs X ifs (tG X W RB t)
def yesT : MT := fun _ lh => .ok true lh
section
variable {X : Cx} {W : WX}
theorem dts_nil : DTs X W [] yesT := ⟨fun pins s σ H Q I ⟨r, e, lh, S, Hh, F⟩ => pts_nil.run pins s σ H Q I (F.ok Hh rfl)⟩
theorem dts_one {c : Expr} {t : MT} (h : DT X W c t) : DTs X W [c] t := pts_one h
theorem lcM_to {mi : MI} {g : TM} {t : MT} {m : M} {own gv : List Nat} (hgv : ∀ i ∈ gv, i ∈ own) (gd : Gd g) {s : L2.St} {H : Hp} {Q : VK} {X' : Cx} (hK : X'.K = X.K) (hmg : X'.mg = X.mg)
    (h : tG X W (Rel X.K) (lcM mi g t m own) s H Q) : tLc (tG X W (IterOk X.K) mi) (tTg X' Wf gv g) (tG X' Wf RB t) (tG X' Wf (Rel X'.K) m) own s H Q := by
  obtain ⟨r, e, lh, S, Hh, F⟩ := h
  refine tG_of S Hh ((FinG.bind (R := IterOk X.K) F).imp fun J H1 ⟨r1, l1, it, y1, z1, w1, F1⟩ => ?_)
  intro p hp
  have x0 : Ext X.K r1 H1 (r1 ++ [p]) (upd H1 p (.lst [])) := Ext.more hp
  refine ⟨fun i n H => ∃ r2 l2, Ext X.K (r1 ++ [p]) (upd H1 p (.lst [])) r2 H ∧ SimH X.K r2 H l2 ∧ FinG X.K X.mg (fun c dd H' => W c dd s H') (Rel X.K) r2 H Q (lcN it.nx g t m l1.length (wipeD e own) n i l2),
    ⟨it.fuel, r1 ++ [p], l1 ++ [.lst []], Ext.refl, z1.laid hp .nil, F1.mono x0⟩, ?_⟩
  rintro i n H2 ⟨r2, l2, x2, h2, F2⟩
  have hloc : r2[l1.length]? = some p := x2.pre _ _ (laid_new z1)
  cases n with
  | zero => exact F2.elim
  | succ f =>
    have F2 : FinG X.K X.mg (fun c dd H' => W c dd s H') (Rel X.K) r2 H2 Q (match it.nx i l2 with
      | none => .bad
      | some none => .ok (.loc l1.length) l2
      | some (some d) => match g d (wipeD e own) l2 with
        | .nx e1 l1' => match t e1 l1' with
          | .ok false l2 => lcN it.nx g t m l1.length (wipeD e own) f (i + 1) l2
          | .ok true l2 => match m e1 l2 with
            | .ok y l3 => match l3[l1.length]? with
              | some (.lst acc) => if acc.length < sizeLine then lcN it.nx g t m l1.length (wipeD e own) f (i + 1) (l3.set l1.length (.lst (acc ++ [y]))) else .bad
              | _ => .bad
            | _ => .bad
          | _ => .bad
        | _ => .bad) := F2
    have ok := w1 r2 H2 l2 (x0.trans x2) h2 i
    cases q : it.nx i l2 with
    | none => rw [q] at F2; exact F2.elim
    | some od =>
      cases od with
      | none =>
        rw [q] at F2 ok
        exact .inl ⟨ok, F2.ok h2 (.loc hloc)⟩
      | some d =>
        rw [q] at F2 ok
        refine .inr ⟨ok.1, fun H => ∃ r3 l3, Ext X.K (r1 ++ [p]) (upd H1 p (.lst [])) r3 H ∧ SimH X.K r3 H l3 ∧ FinG X.K X.mg (fun c dd H' => W c dd s H') (Rel X.K) r3 H Q (lcN it.nx g t m l1.length (wipeD e own) f (i + 1) l3), fun H' h => ⟨f, Nat.lt_succ_self f, h⟩, fun x H3 hy => ?_⟩
        obtain ⟨a1, a2, a3⟩ := ok.2 x H3 hy
        have S3 : SimS X.K r2 H3 (wipeD e own) (L2.wipe s own) := (((S.wipe own).mono y1).mono x0).mono (x2.trans a1)
        refine ⟨r2, wipeD e own, l2, d, by rw [hK]; exact S3, by rw [hK]; exact a2, by rw [hK]; exact a3, ?_⟩
        have F3 := F2.mono a1
        dsimp only at F3
        have gd := gd d (wipeD e own) l2
        cases z : g d (wipeD e own) l2 with
        | nx e1 l3 =>
          rw [z] at F3
          intro r4 H4 s4 a4 b4 c4 hw
          rw [hK] at a4 b4 c4
          refine ⟨wipe_sub hw hgv |>.trans ?_, r4, e1, l3, by rw [hK]; exact b4, by rw [hK]; exact c4, ?_⟩
          · refine List.ext_getElem? fun j => ?_
            rw [wipe_at, wipe_length, wipe_at]
            by_cases hj : j ∈ own ∧ j < s.length
            · rw [if_pos hj, if_pos hj]
            · rw [if_neg hj, if_neg hj]
          have F4 := F3.mono a4
          cases z2 : t e1 l3 with
          | ok k l4 =>
            dsimp only at F4
            rw [z2] at F4
            intro r5 H5 k' a5 c5 e5
            rw [hK] at a5 c5
            have e5 : k = k' := e5
            subst e5
            have F5 := F4.mono a5
            cases k with
            | false => exact iteF ⟨r5, l4, x2.trans (a1.trans (a4.trans a5)), c5, F5⟩
            | true =>
              refine iteT ⟨r5, e1, l4, by rw [hK]; exact b4.mono a5, by rw [hK]; exact c5, ?_⟩
              cases z3 : m e1 l4 with
              | ok y l5 =>
                dsimp only at F5
                rw [z3] at F5
                intro r6 H6 v a6 c6 e6
                rw [hK] at a6 c6 e6
                have F6 := F5.mono a6
                dsimp only at F6
                have hl6 : r6[l1.length]? = some p := a6.pre _ _ (a5.pre _ _ (a4.pre _ _ hloc))
                split at F6
                · rename_i acc eacc
                  obtain ⟨us, hu, qs⟩ := c6.get hl6 eacc
                  split at F6
                  · rename_i hlt
                    refine ⟨us, hu, by rw [← qs.length]; exact hlt, r6, _, x2.trans (a1.trans (a4.trans (a5.trans (a6.trans (Ext.wr hu))))), c6.wr hl6 hu (qs.snoc e6), F6.mono (Ext.wr hu)⟩
                  · exact F6.elim
                · exact F6.elim
              | er x l5 => dsimp only at F5; rw [z3] at F5; exact F5.elim
              | bad => dsimp only at F5; rw [z3] at F5; exact F5.elim
          | er x l4 => dsimp only at F4; rw [z2] at F4; exact F4.elim
          | bad => dsimp only at F4; rw [z2] at F4; exact F4.elim
        | er x e1 l3 => rw [z] at F3; exact F3.elim
        | bad => rw [z] at F3; exact F3.elim
        | _ => rw [z] at gd; exact gd.elim
theorem de_lc {k : Nat} {elt tg iter : Expr} {ifs : List Expr} {scope : Scope} (own : List (Str × Nat)) {pos : Pos} {mi : MI} {g : TM} {gv : List Nat} {t : MT} {m : M} (o : Bk k X W) (hi : DI X W tg iter mi)
    (hg : ∀ (s : Shared) (H : Hp) (C : Addr) (cl : List (Str × Addr)) (fp : List Addr), Bk k (Cx.blk X s H scope (compEnvC scope cl C X.env) fp) Wf → DG (Cx.blk X s H scope (compEnvC scope cl C X.env) fp) Wf tg gv g) (gd : Gd g)
    (ht : ∀ (s : Shared) (H : Hp) (C : Addr) (cl : List (Str × Addr)) (fp : List Addr), Bk k (Cx.blk X s H scope (compEnvC scope cl C X.env) fp) Wf → DTs (Cx.blk X s H scope (compEnvC scope cl C X.env) fp) Wf ifs t)
    (he : ∀ (s : Shared) (H : Hp) (C : Addr) (cl : List (Str × Addr)) (fp : List Addr), Bk k (Cx.blk X s H scope (compEnvC scope cl C X.env) fp) Wf → DE (Cx.blk X s H scope (compEnvC scope cl C X.env) fp) Wf elt m)
    (ok : BlkOk X.N X.env.scope scope own := by exact blkOk_by rfl) (hgv : ∀ i ∈ gv, i ∈ own.map (·.2) := by decide) (hs : ∀ x, foldedSetIterable iter X.env x = pure x := by intro _; rfl) :
    DE X W (.ListComp elt [⟨tg, iter, ifs, 0⟩] scope pos) (lcM mi g t m (own.map (·.2))) :=
  pe_imp (pe_lc (g := tTg X Wf gv g) (tt := tG X Wf RB t) (te := tG X Wf (Rel X.K) m) o.calm o.nd hi ok (fun s H C cl fp => hg s H C cl fp (o.blk s H scope _ fp)) (fun s H C cl fp => ht s H C cl fp (o.blk s H scope _ fp)) (fun s H C cl fp => he s H C cl fp (o.blk s H scope _ fp)) hs)
    fun s H Q h => lcM_to (X' := X) hgv gd rfl rfl h
theorem ds_setLc {k i : Nat} {y : Str} {py : Pos} {elt tg iter : Expr} {ifs : List Expr} {scope : Scope} (own : List (Str × Nat)) {pos spos : Pos} {mi : MI} {g : TM} {gv : List Nat} {t : MT} {m : M} (o : Bk k X W) (hi : DI X W tg iter mi)
    (hg : ∀ (s : Shared) (H : Hp) (C : Addr) (cl : List (Str × Addr)) (fp : List Addr), Bk k (Cx.blk X s H scope (compEnvC scope cl C X.env) fp) Wf → DG (Cx.blk X s H scope (compEnvC scope cl C X.env) fp) Wf tg gv g) (gd : Gd g)
    (ht : ∀ (s : Shared) (H : Hp) (C : Addr) (cl : List (Str × Addr)) (fp : List Addr), Bk k (Cx.blk X s H scope (compEnvC scope cl C X.env) fp) Wf → DTs (Cx.blk X s H scope (compEnvC scope cl C X.env) fp) Wf ifs t)
    (he : ∀ (s : Shared) (H : Hp) (C : Addr) (cl : List (Str × Addr)) (fp : List Addr), Bk k (Cx.blk X s H scope (compEnvC scope cl C X.env) fp) Wf → DE (Cx.blk X s H scope (compEnvC scope cl C X.env) fp) Wf elt m)
    (ok : BlkOk X.N X.env.scope scope own := by exact blkOk_by rfl) (hgv : ∀ i ∈ gv, i ∈ own.map (·.2) := by decide) (hy : X.N[i]? = some y := by rfl) (hyl : X.env.scope.names.lookup y = some .local := by rfl)
    (hsw : swapsWith (.ListComp elt [⟨tg, iter, ifs, 0⟩] scope pos) (some (.Name y py)) spos.line X.env = pure true := by exact sw_true rfl rfl rfl (by decide +kernel)) (hs : ∀ x, foldedSetIterable iter X.env x = pure x := by intro _; rfl) :
    DS X W (.Assign [.Name y py] (.ListComp elt [⟨tg, iter, ifs, 0⟩] scope pos) spos) (asS (lcM mi g t m (own.map (·.2))) (nmG i)) := by
  refine ps_imp (L2.ps_setLc (g := tTg X Wf gv g) (tt := tG X Wf RB t) (te := tG X Wf (Rel X.K) m) o.calm o.nd hy hyl hsw hi ok (fun s H C cl fp => hg s H C cl fp (o.blk s H scope _ fp)) (fun s H C cl fp => ht s H C cl fp (o.blk s H scope _ fp)) (fun s H C cl fp => he s H C cl fp (o.blk s H scope _ fp)) hs) fun T s H ⟨r, e, lh, S, Hh, F⟩ => ?_
  refine lcM_to (X' := X) hgv gd rfl rfl (tG_of S Hh ((FinS.val S F).imp fun v H1 ⟨r1, l1, d, a, b, c, F1⟩ => ?_))
  exact F1 r1 H1 (s.set i (some v)) Ext.refl ((S.mono a).set i c) b
/-! ### methods of built-in types -/
def tyOk (T : String) (d : D) (lh : LH) : Bool := match d with
  | .str _ => T == "str"
  | .loc n => T == "list" && (sq lh (.loc n)).isSome
  | .fl _ => T == "list"
  | _ => false
theorem tyOk_to {r H} {T : String} {d : D} {v : V} {lh : LH} (hs : SimH X.K r H lh) (q : Rel X.K r H d v) (h : tyOk T d lh = true) : tyV X.K T v H := by
  cases q with
  | str x => exact beq_iff_eq.mp (show (T == "str") = true from h)
  | @loc n a e =>
    have h : (T == "list" && (sq lh (.loc n)).isSome) = true := h
    rw [Bool.and_eq_true] at h
    obtain ⟨ds, hd⟩ := Option.isSome_iff_exists.mp h.2
    obtain ⟨a0, vs, ea, h0, _⟩ := sq_to hs (Rel.loc e) hd
    cases ea
    exact .inl ⟨beq_iff_eq.mp h.1, vs, h0⟩
  | @fl a vs xs e q => exact .inl ⟨beq_iff_eq.mp (show (T == "list") = true from h), vs, e.sq⟩
  | _ => cases h
def MtD (X : Cx) (id : String) (f : D → List D → LH → Re D) : Prop :=
  ∃ rr : V → List V → Hp → VK → Prop, MtR X id rr ∧ ∀ (E : XK) r H lh d ds v vs Q, SimH X.K r H lh → Rel X.K r H d v → RelL X.K r H ds vs → FinG X.K X.mg E (Rel X.K) r H Q (f d ds lh) → rr v vs H Q
def mtM (T : String) (f : D → List D → LH → Re D) (mo : M) (ma : MA) : M := fun e lh => (mo e lh).bind fun o l1 => if tyOk T o l1 = true then (ma e l1).bind fun ds l2 => f o ds l2 else .bad
theorem de_mt {T id : String} {name : Str} {o e : Expr} {es : List Expr} {apos cpos : Pos} {f : D → List D → LH → Re D} {mo : M} {ma : MA} (pa : PlainAttrs T) (slot : Slot T name id) (hty : typeOf (.builtin id) = pure (.type "method_descriptor")) (hm : MtD X id f) (ho : DE X W o mo) (ha : DA X W (e :: es) ma)
    (hbase : attributeBase o name X.env (eval o X.env) = eval o X.env := by rfl)
    (hfew : ((backTo cpos (starEach (e :: es) X.env)).all (fun x => !x.1) && (backToKw cpos (keywordEach [] X.env)).all (fun x => x.1.isSome)
      && decide ((e :: es).length + ([] : List Keyword).length + (if ([] : List Keyword).isEmpty then 0 else 1) < 30)) = true := by rfl)
    (hline : (apos.endLine == cpos.line) = true := by rfl) (hs : starEach (e :: es) X.env = (false, eval e X.env) :: starEach es X.env := by rfl) (hplain : (backTo cpos (starEach es X.env)).any (·.1) = false := by rfl) :
    DE X W (.Call (.Attribute o name apos) (e :: es) [] cpos) (mtM T f mo ma) := by
  obtain ⟨rr, h1, h2⟩ := hm
  refine pe_imp (pe_bm pa slot hty h1 ho ha.pa hbase hfew hline hs hplain) fun s H Q ⟨r, e, lh, S, Hh, F⟩ => ?_
  refine tG_of S Hh ((FinG.bind (R := Rel X.K) F).imp fun v H1 ⟨r1, l1, x, y1, z1, w1, F1⟩ => ?_)
  split at F1
  · rename_i hok
    refine ⟨tyOk_to z1 w1 hok, tG_of (S.mono y1) z1 ((FinG.bind (R := RelL X.K) F1).imp fun vs H2 ⟨r2, l2, x2, y2, z2, w2, F2⟩ => ?_)⟩
    exact h2 _ r2 H2 l2 _ _ _ _ Q z2 (w1.mono y2) w2 F2
  · exact F1.elim
theorem de_mt0 {T id : String} {name : Str} {o : Expr} {apos cpos : Pos} {f : D → List D → LH → Re D} {mo : M} (pa : PlainAttrs T) (slot : Slot T name id) (hty : typeOf (.builtin id) = pure (.type "method_descriptor")) (hm : MtD X id f) (ho : DE X W o mo)
    (hbase : attributeBase o name X.env (eval o X.env) = eval o X.env := by rfl) (hline : (apos.endLine == cpos.line) = true := by rfl) : DE X W (.Call (.Attribute o name apos) [] [] cpos) (mtM T f mo nilA) := by
  obtain ⟨rr, h1, h2⟩ := hm
  refine pe_imp (pe_bm0 pa slot hty h1 ho hbase hline) fun s H Q ⟨r, e, lh, S, Hh, F⟩ => ?_
  refine tG_of S Hh ((FinG.bind (R := Rel X.K) F).imp fun v H1 ⟨r1, l1, x, y1, z1, w1, F1⟩ => ?_)
  split at F1
  · rename_i hok
    exact ⟨tyOk_to z1 w1 hok, h2 _ r1 H1 l1 _ _ _ _ Q z1 w1 .nil F1⟩
  · exact F1.elim
def appD : D → List D → LH → Re D := fun o ds lh => match o, ds with
  | .loc n, [d] => match lh[n]? with | some (.lst xs) => if xs.length < sizeLine then .ok .non (lh.set n (.lst (xs ++ [d]))) else .bad | _ => .bad
  | _, _ => .bad
theorem m_append : MtD X "list.append" appD := by
  refine ⟨_, mt_append, fun E r H lh d ds v vs Q Hh q ql F => ?_⟩
  unfold appD at F
  split at F
  · cases q with
    | loc e =>
      cases ql with
      | cons q1 q2 =>
        cases q2
        split at F
        · rename_i xs exs
          obtain ⟨us, h0, qs⟩ := Hh.get e exs
          split at F
          · rename_i hl
            exact ⟨_, us, _, rfl, rfl, h0, by rw [← qs.length]; exact hl, F.to (Ext.wr h0) (Hh.wr e h0 (qs.snoc q1)) .non⟩
          · exact F.elim
        · exact F.elim
  · exact F.elim
def popD : D → List D → LH → Re D := fun o ds lh => match o, ds with
  | .loc n, [] => match lh[n]? with | some (.lst xs) => (match xs[xs.length - 1]? with | some d => .ok d (lh.set n (.lst xs.dropLast)) | none => .bad) | _ => .bad
  | .loc n, [.int i] => match lh[n]? with
    | some (.lst xs) => if -(2 ^ 63) ≤ i ∧ i < 2 ^ 63 then (match seqIndex? i xs.length with | some k => (match xs[k]? with | some d => .ok d (lh.set n (.lst (xs.eraseIdx k))) | none => .bad) | none => .bad) else .bad
    | _ => .bad
  | _, _ => .bad
theorem RelL.dropLast {K r H} {ds : List D} {vs : List V} (h : RelL K r H ds vs) : RelL K r H ds.dropLast vs.dropLast := by
  rw [List.dropLast_eq_take, List.dropLast_eq_take, h.length]
  exact h.take _
theorem m_pop : MtD X "list.pop" popD := by
  refine ⟨_, MtR.or mt_pop mt_popAt, fun E r H lh d ds v vs Q Hh q ql F => ?_⟩
  unfold popD at F
  split at F
  · cases q with
    | loc e =>
      cases ql
      split at F
      · rename_i xs exs
        obtain ⟨us, h0, qs⟩ := Hh.get e exs
        split at F
        · rename_i d' ed
          obtain ⟨u, h1, h2⟩ := qs.get ed
          exact .inl ⟨_, us, u, rfl, rfl, h0, by rw [← qs.length]; exact h1, F.to (Ext.wr h0) (Hh.wr e h0 qs.dropLast) (h2.mono (Ext.wr h0))⟩
        · exact F.elim
      · exact F.elim
  · cases q with
    | loc e =>
      cases ql with
      | cons q1 q2 =>
        cases q2
        cases q1
        split at F
        · rename_i xs exs
          obtain ⟨us, h0, qs⟩ := Hh.get e exs
          split at F
          · rename_i hb
            split at F
            · rename_i k ek
              split at F
              · rename_i d' ed
                obtain ⟨u, h1, h2⟩ := qs.get ed
                exact .inr ⟨_, us, _, k, u, rfl, rfl, h0, hb.1, hb.2, by rw [← qs.length]; exact ek, h1, F.to (Ext.wr h0) (Hh.wr e h0 (qs.erase k)) (h2.mono (Ext.wr h0))⟩
              · exact F.elim
            · exact F.elim
          · exact F.elim
        · exact F.elim
  · exact F.elim
end
/-! ### defs -/
section
variable (K : PySem.W.Frag) (mg : Str → Option Value)
abbrev FM := List D → LH → Re D
def spD (n : Nat) (m : FM) : Sp := fun vs H Q E => vs.length = n ∧ ∃ r lh ds, SimH K r H lh ∧ RelL K r H ds vs ∧ FinG K mg E (Rel K) r H Q (m ds lh)
end
def stD (n : Nat) (ds : List D) : LE := ds.map some ++ List.replicate (n - ds.length) none
def finM : RS → Re D | .nx _ l => .ok .non l | .rt d l => .ok d l | .er x _ l => .er x l | _ => .bad
@[simp] theorem finM_nx (e : LE) (l : LH) : finM (.nx e l) = .ok .non l := rfl
@[simp] theorem finM_rt (d : D) (l : LH) : finM (.rt d l) = .ok d l := rfl
@[simp] theorem finM_er (x : Ex) (e : LE) (l : LH) : finM (.er x e l) = .er x l := rfl
@[simp] theorem finM_bad : finM .bad = .bad := rfl
def fnM (n : Nat) (m : SM) : FM := fun ds lh => finM (m (stD n ds) lh)
/-- a def of the text: its name, its parameters, what it computes, k calls deep -/
structure FnI (P : Program) (w : World) (K : PySem.W.Frag) (mg : Str → Option Value) (base : Heap) (x : Str) (ps : List Str) (k : Nat) (m : FM) : Prop where
  ex : ∃ (f : Addr) (fd : FuncData), FnOk P w K mg base (L2.CX P w) k f fd ps (spD K mg ps.length m) ∧ mg x = some (.ref f) ∧ PySem.W.keepIn K (.ref f) = true ∧ Binds K fd ps [] ∧
    ∃ (qual : Str) (params : Arguments) (body : List Stmt) (scope : Scope), FunD K x qual params body scope [] [] f fd
theorem stD_sim {K r H} {ds : List D} {vs : List V} {N : List Str} (q : RelL K r H ds vs) : SimS K r H (stD N.length ds) (L2.start N vs) := by
  unfold stD L2.start
  refine ⟨by rw [List.length_append, List.length_append, List.length_map, List.length_map, List.length_replicate, List.length_replicate, q.length], fun i d hi => ?_⟩
  by_cases hl : i < ds.length
  · rw [List.getElem?_append_left (by rw [List.length_map]; exact hl), List.getElem?_map] at hi
    cases e : ds[i]? with
    | none => rw [e] at hi; cases hi
    | some d' =>
      rw [e] at hi
      cases hi
      obtain ⟨v, h1, h2⟩ := q.get e
      exact ⟨v, by rw [List.getElem?_append_left (by rw [List.length_map, ← q.length]; exact hl), List.getElem?_map, h1]; rfl, h2⟩
  · rw [List.getElem?_append_right (by rw [List.length_map]; omega), List.getElem?_replicate] at hi
    split at hi
    · cases hi
    · cases hi
section
variable {P : Program} {w : World} {K : PySem.W.Frag} {mg : Str → Option Value} {base : Heap}
theorem spD_to {n : Nat} {m : SM} {N ps : List Str} {X : Cx} (hX : X.K = K) (hmg : X.mg = mg) {vs : List V} {H : Hp} {Q : VK} {E : XK} (h : spD K mg n (fnM N.length m) vs H Q E) :
    tSt X (fun cls d _ H => E cls d H) m { nx := fun _ H' => Q .non H', rt := Q } (L2.start N vs) H := by
  subst hX hmg
  obtain ⟨_, r, lh, ds, Hh, q, F⟩ := h
  refine ⟨r, stD N.length ds, lh, stD_sim q, Hh, ?_⟩
  have F : FinG X.K X.mg E (Rel X.K) r H Q (finM (m (stD N.length ds) lh)) := F
  cases z : m (stD N.length ds) lh with
  | nx e l => rw [z] at F; exact fun r' H' s' a b c => F r' H' .non a c .non
  | rt d l => rw [z] at F; exact F
  | bk e l => rw [z] at F; exact F.elim
  | ct e l => rw [z] at F; exact F.elim
  | er x e l => rw [z] at F; exact fun r' H' s' c dd a b => F r' H' c dd a
  | bad => rw [z] at F; exact F.elim
theorem fn_body {x qual : Str} {params : Arguments} {body : List Stmt} {scope : Scope} {dvs : List V} {kws : List (Str × V)} {f : Addr} {fd : FuncData} {N ps : List Str} {k : Nat} {m : SM} (F : FunD K x qual params body scope dvs kws f fd) (S : FnScope N ps scope)
    (hb : ∀ (X : Cx) (W : WX), Bk k X W → X.prog = P → X.w = w → X.K = K → X.mg = mg → X.base = base → X.N = N → X.env.scope = scope → X.fn = (fun _ => true) → (∃ L f cd, X.env = PyProof.Rows.envOfC qual scope L f cd) → DSs X W body m) :
    FnOk P w K mg base (L2.CX P w) (k + 1) f fd ps (spD K mg ps.length (fnM N.length m)) := by
  refine FunD.ok F S (fun vs H Q E h => h.1) fun cdv A outer s H vs Q E hr h => ?_
  refine ⟨_, hb (cxOf (L2.CX P w) P w K mg base N qual scope f cdv A outer s H E) (fun cls d _ H => E cls d H) ⟨rfl, takes_of rfl rfl rfl rfl, S.nd, passes_of rfl, hr⟩ rfl rfl rfl rfl rfl rfl rfl rfl ⟨_, _, _, rfl⟩, spD_to (ps := ps) rfl rfl h⟩
end
section
variable {X : Cx} {W : WX}
def apM (m : FM) (ma : MA) : M := fun e lh => (ma e lh).bind fun ds l => m ds l
theorem de_call {k n : Nat} {x : Str} {ps : List Str} {m : FM} {p pos : Pos} {e : Expr} {es : List Expr} {ma : MA} (o : Bk n X W) (G : FnI X.prog X.w X.K X.mg X.base x ps k m) (hk : k ≤ n) (ha : DA X W (e :: es) ma) (hl : (e :: es).length = ps.length := by rfl) (hg : Gl X x := by rfl)
    (hdb : (x == ("__debug__" : Str)) = false := by decide) (he : starEach (e :: es) X.env = (false, eval e X.env) :: starEach es X.env := by rfl) (hpl : (backTo pos (starEach es X.env)).any (·.1) = false := by rfl) : DE X W (.Call (.Name x p) (e :: es) [] pos) (apM m ma) := by
  obtain ⟨f, fd, h1, h2, h3, h4, _⟩ := G.ex
  refine pe_imp (pe_callS (E := WE W) h1 (o.hr.mono hk) hg h2 h3 h4 (fun σ => passAt o.tk σ) ha.pa hdb he hpl) fun s H Q ⟨r, e, lh, S, Hh, F⟩ => ?_
  refine tG_of S Hh (FinG.len ha ((FinG.bind (R := RelL X.K) F).imp fun vs H1 ⟨r1, l1, x, y1, z1, w1, F1⟩ hlen => ?_))
  exact ⟨hlen.trans hl, r1, l1, x, z1, w1, F1⟩
end
end NL
set_option maxRecDepth 100000
set_option maxHeartbeats 2000000
/-! sorted(set(text)): the signs of a text, each once, in order. -/
namespace NS
open PySem PySem.Spec PyProof.Rows PySem.Froz L2
def sv (v : Value) : Option Str := match v with | .str k _ => some k | _ => none
/-- a set's payload: the texts l in some order; its table rises -/
structure Tx2 (P : Program) (w : World) (D : SD) (l : List Str) : Prop where
  ok : TxOk P w D l
  ris : Ris D.2.2.place.toList
  led : w.params.followText "set-order" = true ∨ D.2.2.led = true
  vs : (D.1.toList.map fun e => sv e.2).Perm (l.map some)
section
variable {P : Program} {w : World} {A : Around} {E : Value → Shared → Prop} {s : Shared}
theorem Tx2.lay {es : Array (Int × Value)} {ep : Nat} {t : SetTable} {l : List Str} (F : Tx2 P w (es, ep, t) l) (k : Str) (u : Tok) :
    Ris (layNew t es (hashStr w k) (.str k u)).2.1.place.toList ∧ (w.params.followText "set-order" = true ∨ (layNew t es (hashStr w k) (.str k u)).2.1.led = true) ∧
      ((layNew t es (hashStr w k) (.str k u)).1.toList.map fun e => sv e.2).Perm ((k :: l).map some) := by
  refine ⟨layNew_ris _ _ _ _ F.ris, F.led.imp id fun z => by rw [layNew_led]; exact z, ?_⟩
  have p := layNew_perm t es (hashStr w k) (.str k u)
  rw [Array.toList_push] at p
  have q := (p.trans (List.perm_append_singleton _ _)).map fun e => sv e.2
  exact q.trans (F.vs.cons (some k))
theorem tail2 {ep : Nat} {es1 : Array (Int × Value)} {t2 : SetTable} {b : Bool} {l : List Str} (hr : Ris t2.place.toList) (hl : w.params.followText "set-order" = true ∨ t2.led = true) (hv : (es1.toList.map fun e => sv e.2).Perm (l.map some)) :
    Ris (tailTx ep es1 t2 b).2.2.place.toList ∧ (w.params.followText "set-order" = true ∨ (tailTx ep es1 t2 b).2.2.led = true) ∧ ((tailTx ep es1 t2 b).1.toList.map fun e => sv e.2).Perm (l.map some) := by
  unfold tailTx
  split
  · exact ⟨relayAll_ris _ _ _, hl.imp id fun z => (relayAll_led t2 es1 _).trans z, ((relayAll_perm t2 es1 _).map fun e => sv e.2).trans hv⟩
  · exact ⟨hr, hl, hv⟩
theorem Tx2.add {D : SD} {l : List Str} {k : Str} (u : Tok) (F : Tx2 P w D l) : Tx2 P w (addTx (hashStr w k) (.str k u) D) (k :: l) := by
  obtain ⟨es, ep, t⟩ := D
  obtain ⟨a, b, c⟩ := F.lay k u
  have h := tail2 (w := w) (ep := ep) (es1 := (layNew t es (hashStr w k) (.str k u)).1) (t2 := if (layNew t es (hashStr w k) (.str k u)).2.1.plain = true then { (layNew t es (hashStr w k) (.str k u)).2.1 with plain := false } else (layNew t es (hashStr w k) (.str k u)).2.1)
    (b := (layNew t es (hashStr w k) (.str k u)).2.2.1) (l := k :: l) (by split <;> exact a) (by split <;> exact b) c
  exact ⟨add_ok u F.ok, h.1, h.2.1, h.2.2⟩
/-- a text that is there already -/
theorem old_x {a : Addr} {T : String} {D : SD} {l : List Str} {k : Str} {u : Tok} {Q : Bool → Shared → Prop} (ho : s.heap.get? a = some (sObj T D)) (F : TxOk P w D l) (hk : k ∈ l) (hb : l.length < scanBound)
    (h : Q false s) : wpAny (model P w) A (setAddHashed a (.str k u) (hashStr w k)) Q E s := by
  obtain ⟨es, ep, t⟩ := D
  have hin := (F.mem k).mp hk
  obtain ⟨j, hj⟩ : ∃ j, List.findIdx? (fun e => (strKind P w).is k e.2) es.toList = some j := by
    cases q : List.findIdx? (fun e => (strKind P w).is k e.2) es.toList with
    | some j => exact ⟨j, rfl⟩
    | none =>
      obtain ⟨e, he, hp⟩ := hin
      have := List.findIdx?_eq_none_iff.mp q e he
      rw [this] at hp
      cases hp
  have hsz : es.size < scanBound := by rw [show es.size = l.length from F.sz]; exact hb
  unfold setAddHashed setAddHashedIn
  refine wpAny_holding ?_
  refine wpAny_bind (wpAny_setState_of (es := es) (ep := ep) (t := t) ho rfl F.fit ?_)
  dsimp only
  rw [byScan_of (x := Value.str k u) rfl hsz F.el]
  simp only [↓reduceIte]
  unfold setAddByScan
  refine wpAny_bind (wpAny_bind (wpAny_rule ?_))
  refine wpAny_bind (wpAny_setScan_of (knd := strKind P w) (k := k) (is_str k u) ho rfl F.fit F.el ?_)
  rw [hj]
  exact wpAny_pure (wpAny_pure h)
end
end NS
set_option maxRecDepth 100000
set_option maxHeartbeats 2000000
namespace NS
open PySem PySem.Spec PyProof.Rows PySem.Froz L2
/-- the texts met -/
def adds (l : List Str) : List Nat → List Str
  | [] => l
  | c :: r => adds (if sing c ∈ l then l else sing c :: l) r
section
variable {P : Program} {w : World} {A : Around} {R : Result → Shared → Prop}
theorem upd {a it : Addr} (hne : a ≠ it) {x : Str} {u : Tok} (hh : A.handled = none) : ∀ (cs : List Nat) (i : Nat) (D : SD) (l : List Str) (s : Shared), x.cps.toList.drop i = cs →
    s.heap.get? a = some (sObj "set" D) → s.heap.get? it = some (itObj x u i) → Tx2 P w D l → l.length + cs.length < scanBound →
    (∀ h' D' tk, (∀ b o, b ≠ a → b ≠ it → s.heap.get? b = some o → h'.get? b = some o) → h'.get? a = some (sObj "set" D') → Tx2 P w D' (adds l cs) → R (.ok (.ret .none)) { s with heap := h', toks := tk }) →
    codeAny (model P w) A (.builtin "set.update.loop" ⟨[.ref a, .ref it], []⟩) R s
  | [], i, D, l, s, hd, ha, hit, F, hb, h => by
    apply codeAny_builtin PyProof.Rows.F.entry_set_update_loop
    rw [Around.under_plainId PyProof.Rows.F.plain_set_update_loop]
    change wpAny _ A.in1 (pyNext (.ref it) >>= _) _ _ s
    apply wpAny_bind
    refine end_x (u := u) (by exact hh) hit (at_end hd) ?_
    change wpAny _ A.in1 (ret Value.none) _ _ _
    apply wpAny_pure
    refine h (endHeap s.heap it i) D s.toks (fun b o h1 h2 e => ?_) ?_ F
    · exact Heap.get?_push_of_some _ (Heap.get?_push_of_some _ (PySem.Heap.get?_update_of_ne _ (Ne.symm h2) e))
    · exact Heap.get?_push_of_some _ (Heap.get?_push_of_some _ (PySem.Heap.get?_update_of_ne _ (Ne.symm hne) ha))
  | c :: r, i, D, l, s, hd, ha, hit, F, hb, h => by
    obtain ⟨hx, hd2⟩ := at_of hd
    have hb2 : l.length + (r.length + 1) < scanBound := hb
    apply codeAny_builtin PyProof.Rows.F.entry_set_update_loop
    rw [Around.under_plainId PyProof.Rows.F.plain_set_update_loop]
    change wpAny _ A.in1 (pyNext (.ref it) >>= _) _ _ s
    apply wpAny_bind
    refine next_x (u := u) hit hx ?_
    change wpAny _ A.in1 (holding [Value.str (sing c) s.toks] (setAdd a (.str (sing c) s.toks)) >>= _) _ _ _
    apply wpAny_bind
    apply wpAny_holding
    unfold setAdd
    apply wpAny_holding
    apply wpAny_bind
    refine (strKind P w).pyHash (k := sing c) (is_str _ _) ?_
    have ha1 : (s.heap.update it (fun _ => itObj x u (i + 1))).get? a = some (sObj "set" D) := PySem.Heap.get?_update_of_ne _ (Ne.symm hne) ha
    have hi1 : (s.heap.update it (fun _ => itObj x u (i + 1))).get? it = some (itObj x u (i + 1)) := get_upd _ hit rfl
    have step : ∀ (b : Bool) (h1 : Heap) (D1 : SD) (l1 : List Str) (tk : Nat), l1.length ≤ l.length + 1 → (∀ b o, b ≠ a → b ≠ it → s.heap.get? b = some o → h1.get? b = some o) → h1.get? a = some (sObj "set" D1) → h1.get? it = some (itObj x u (i + 1)) → Tx2 P w D1 l1 → adds l1 r = adds l (c :: r) →
        codeAny (model P w) A (.builtin "set.update.loop" ⟨[.ref a, .ref it], []⟩) R { s with heap := h1, toks := tk } := fun b h1 D1 l1 tk hz hk hg hg2 F1 he => by
      refine upd hne hh r (i + 1) D1 l1 _ hd2 hg hg2 F1 (by omega) fun h' D' tk' k2 g2 F2 => ?_
      rw [he] at F2
      exact h h' D' tk' (fun b o x1 x2 e => k2 b o x1 x2 (hk b o x1 x2 e)) g2 F2
    by_cases hc : sing c ∈ l
    · refine old_x (l := l) (D := D) (s := { s with heap := s.heap.update it (fun _ => itObj x u (i + 1)), toks := s.toks + 1 + 1 }) ha1 F.ok hc (by omega) ?_
      refine wpAny_pure ⟨plainId_quiet PyProof.Rows.F.plain_set_update_loop _, ?_⟩
      exact step true _ D l _ (by omega) (fun b o h1 h2 e => PySem.Heap.get?_update_of_ne _ (Ne.symm h2) e) ha1 hi1 F (by show adds l r = adds (if sing c ∈ l then l else sing c :: l) r; rw [if_pos hc])
    · refine add_x (l := l) (D := D) (s := { s with heap := s.heap.update it (fun _ => itObj x u (i + 1)), toks := s.toks + 1 + 1 }) ha1 F.ok hc (by omega) ?_
      refine wpAny_pure ⟨plainId_quiet PyProof.Rows.F.plain_set_update_loop _, ?_⟩
      exact step true _ _ (sing c :: l) _ (by show l.length + 1 ≤ _; omega) (fun b o h1 h2 e => PySem.Heap.get?_update_of_ne _ (Ne.symm h1) (PySem.Heap.get?_update_of_ne _ (Ne.symm h2) e)) (get_upd _ ha1 rfl) (PySem.Heap.get?_update_of_ne _ hne hi1) (F.add _)
        (by show adds (sing c :: l) r = adds (if sing c ∈ l then l else sing c :: l) r; rw [if_neg hc])
end
end NS
set_option maxRecDepth 100000
set_option maxHeartbeats 4000000
namespace NS
open PySem PySem.Spec PyProof.Rows PySem.Froz L2
section
variable {P : Program} {w : World} {A : Around} {E : Value → Shared → Prop} {s : Shared}
/-- the new set, empty -/
def newO (w : World) : Obj := sObj "set" (#[], 0, .fresh 0 0 (!w.params.followText "set-order"))
theorem new2 (P : Program) (w : World) : Tx2 P w (#[], 0, .fresh 0 0 (!w.params.followText "set-order")) [] where
  ok := .nil (by rfl)
  ris := List.Pairwise.nil
  led := by
    show _ ∨ (!w.params.followText "set-order") = true
    cases w.params.followText "set-order" <;> simp
  vs := by simp
/-- set(text), signs all plain -/
theorem call_set_str {x : Str} {u : Tok} {Q : Value → Shared → Prop} (hh : A.handled = none) (hx : x.cps.all (· < 128) = true) (hz : x.cps.toList.length < scanBound)
    (h : ∀ (h' : Heap) (tk : Nat) D, (∀ b o, s.heap.get? b = some o → h'.get? b = some o) → h'.get? s.heap.objs.size = some (sObj "set" D) → Tx2 P w D (adds [] x.cps.toList) → Q (.ref s.heap.objs.size) { s with heap := h', toks := tk }) :
    wpAny (model P w) A (call (.type "set") [.str x u]) Q E s := by
  have ⟨c, tl, hmro⟩ := PySem.F.called_set.mro
  have k1 := PySem.F.called_set.made
  have k2 := PySem.F.called_set.sub
  have k3 := PySem.F.called_set.notType
  have k4 := PySem.F.called_set.canCreate
  have k5 := PySem.F.typeCall_set_1 (.str x u)
  apply wpAny_call
  apply codeAny_of_tree
  change wpAny _ _ (callAny (.type "set") _) _ _ _
  apply wpAny_pure
  refine ⟨Code.quiet_builtin _ (by decide +kernel), ?_⟩
  apply codeAny_builtin PySem.F.entry_type_call
  rw [Around.under_plain (weight_type_call_type "set" [.str x u] []) rfl]
  repeat (any_goals (first | assumption | wp_step))
  have mk := code_set_led1 (P := P) (w := w) (A := A.in1) (s := s) (E := E) (.str x u) (Q₁ := fun v s1 => v = .ref s.heap.objs.size ∧ s1 = { s with heap := s.heap.push (newO w) }) ⟨rfl, rfl⟩
  refine codeAny_mono mk fun r s1 hr => ?_
  cases r with
  | error e => exact hr
  | ok fl =>
  cases fl with
  | ret v =>
    obtain ⟨rfl, rfl⟩ := hr
    have g0 : (s.heap.push (newO w)).get? s.heap.objs.size = some (newO w) := Heap.get?_push_size _ rfl
    have ty : Shared.TypeIs { s with heap := s.heap.push (newO w) } (.ref s.heap.objs.size) "set" := ⟨_, g0, rfl⟩
    have i1 := PySem.F.called_set.init.lookup
    have i2 := PySem.F.called_set.init.bind (.ref s.heap.objs.size)
    repeat (any_goals (first | assumption | wp_step))
    have ini : codeAny (model P w) A.in1 (.call (.builtin "set.__init__") ⟨[.ref s.heap.objs.size, .str x u], []⟩) (wants (fun r s2 => r = .none ∧ Q (.ref s.heap.objs.size) s2) E) { s with heap := s.heap.push (newO w) } := by
      apply codeAny_call_builtin PySem.F.called_set.init.plain PySem.F.entry_set_init
      apply check_set_init_1 ty
      have n1 := PySem.F.sub_str_set
      have n2 := PySem.F.sub_str_frozenset
      unfold Builtin.«set.__init__» noKeywords Builtin.Frozenset.updateFrom
      generalize hPI : pyIter = PI
      wp_walk
      subst hPI
      refine wpAny_pyIter_ascii hx ?_
      have z1 : (s.heap.push (newO w)).objs.size = s.heap.objs.size + 1 := Heap.size_push ..
      have g1 : ((s.heap.push (newO w)).push (itObj x u 0)).get? s.heap.objs.size = some (sObj "set" (#[], 0, .fresh 0 0 (!w.params.followText "set-order"))) := Heap.get?_push_of_some _ g0
      have g2 : ((s.heap.push (newO w)).push (itObj x u 0)).get? (s.heap.push (newO w)).objs.size = some (itObj x u 0) := Heap.get?_push_size _ rfl
      apply wpAny_bind
      refine wpAny_runValue ?_
      refine upd (D := (#[], 0, .fresh 0 0 (!w.params.followText "set-order"))) (l := []) (a := s.heap.objs.size) (it := (s.heap.push (newO w)).objs.size) (x := x) (u := u) (by rw [z1]; exact Nat.ne_of_lt (Nat.lt_succ_self _)) (by show A.in1.in1.in1.handled = none; simp [hh]) x.cps.toList 0 _ rfl g1 g2 (new2 P w) (by show 0 + _ < _; omega) fun h' D tk k g F => ?_
      apply wpAny_pure
      apply wpAny_pure
      refine ⟨rfl, h h' tk D (fun b o e => ?_) g F⟩
      have hb := Heap.lt_size e
      exact k b o (Nat.ne_of_lt hb) (by rw [z1]; exact Nat.ne_of_lt (Nat.lt_succ_of_lt hb)) (Heap.get?_push_of_some _ (Heap.get?_push_of_some _ e))
    refine codeAny_mono ini fun r2 s2 hr2 => ?_
    cases r2 with
    | error e => exact hr2
    | ok f2 =>
    cases f2 with
    | ret r =>
      obtain ⟨rfl, hq⟩ := hr2
      repeat (any_goals (first | assumption | wp_step))
    | _ => exact hr2.elim
  | _ => exact hr.elim
end
end NS
set_option maxRecDepth 100000
set_option maxHeartbeats 2000000
namespace NS
open PySem PySem.Spec PyProof.Rows PySem.Froz L2
def so1 (v : Value) : Str := (sv v).getD Str.empty
theorem strs_by : ∀ vs : List Value, (∀ v ∈ vs, ∃ k, sv v = some k) → StrsAre vs (vs.map so1)
  | [], _ => .nil
  | v :: r, h => by
    obtain ⟨k, hk⟩ := h v List.mem_cons_self
    have ih := strs_by r fun z hz => h z (List.mem_cons_of_mem _ hz)
    cases v with
    | str x t => exact .cons x t ih
    | _ => cases hk
theorem map_some_get : ∀ l : List Str, l.map ((fun o : Option Str => o.getD Str.empty) ∘ some) = l
  | [] => rfl
  | x :: r => by
    show x :: r.map _ = _
    rw [map_some_get r]
section
variable {P : Program} {w : World} {A : Around} {E : Value → Shared → Prop} {s : Shared}
theorem sorted_text {a : Addr} {D : SD} {l : List Str} {Q : Value → Shared → Prop} (ha : s.heap.get? a = some (sObj "set" D)) (F : Tx2 P w D l) (hh : A.handled = none) (h64 : l.length < 64)
    (hQ : ∀ s' p (out : Array Value) (c : Nat) (ys : List Str), (∀ b o, s.heap.get? b = some o → s'.heap.get? b = some o) → s'.gens = s.gens → s'.os = s.os → s.heap.objs.size ≤ p →
      s'.heap.get? p = some (seqObj "list" out c) → StrsAre out.toList ys → ys.Perm l → sortedS ys = true → Q (.ref p) s') :
    wpAny (model P w) A (call (.builtin "sorted") [.ref a]) Q E s := by
  obtain ⟨es, ep, t⟩ := D
  have hsz : es.size = l.length := F.ok.sz
  have hb : es.size < scanBound := by unfold scanBound; omega
  apply Calls.call_function_entry kind_sorted plain_sorted entry_sorted (args_sorted1 _)
  unfold Builtin.«sorted»
  refine wpAny_bind (m := checkCount "sorted" 1 1 _) ?_
  apply wpAny_pure
  apply wpAny_bind
  refine collect_set (A := A.in1) hh ⟨_, ha, rfl, rfl⟩ F.ok.fit hb F.ris F.led fun s1 vs k1 hz g1 o1 pm => ?_
  have pv : (vs.map sv).Perm (l.map some) := by
    have q := pm.map sv
    rw [List.map_map] at q
    exact q.trans F.vs
  have hlen : vs.length = l.length := by
    have := pv.length_eq
    rwa [List.length_map, List.length_map] at this
  have hS : StrsAre vs (vs.map so1) := strs_by vs fun v hv => by
    obtain ⟨k, _, q⟩ := List.mem_map.mp (pv.mem_iff.mp (List.mem_map_of_mem hv))
    exact ⟨k, q.symm⟩
  have hp : (vs.map so1).Perm l := by
    have q := pv.map fun o => o.getD Str.empty
    rw [List.map_map, List.map_map] at q
    exact q.trans (List.Perm.of_eq (map_some_get l))
  apply wpAny_bind
  refine wpAny_newList ?_ (by rw [hlen, sizeLine_eq]; omega)
  have hoL : (s1.heap.push (seqObj "list" vs.toArray 0)).get? s1.heap.objs.size = some (seqObj "list" vs.toArray 0) := Heap.get?_push_size _ rfl
  apply wpAny_bind
  apply wpAny_holding
  refine wpAny_call_entry slot_list_sort ⟨_, hoL, rfl⟩ entry_list_sort ?_ (args_list_sort _)
  refine list_sort_treeK strKind_oneLt hoL hS.keysOf (fun v₁ v₂ rest e => keyKind_strs (by rw [← e]; exact hS)) (by omega) fun st' hpm hs => ?_
  obtain ⟨ys, b1, b2, b3⟩ := sorted_out_str hS hpm hs
  refine ⟨_, rfl, ?_⟩
  obtain ⟨c, hc⟩ := sortedHeap_at (vs := vs) (out := (arrOf st').map (·.2)) hoL
  apply wpAny_pure
  refine ⟨_, rfl, hQ _ s1.heap.objs.size _ c ys (fun b o e => ?_) g1 o1 hz hc b1 (b2.trans hp) b3⟩
  have q := k1 b o e
  have lt := Heap.lt_size q
  show (sortedHeap _ s1.heap.objs.size vs _).get? b = some o
  rw [sortedHeap_old (Nat.ne_of_lt lt) (by rw [size_push']; exact Nat.lt_succ_of_lt lt)]
  exact Heap.get?_push_of_some _ q
end
end NS
set_option maxRecDepth 100000
set_option maxHeartbeats 2000000
namespace NS
open PySem PySem.Spec PyProof.Rows PySem.Froz L2
/-! ### one order -/
def leS (a b : Str) : Prop := a.cps.toList ≤ b.cps.toList
theorem leS_trans {a b c : Str} (h : leS a b) (h' : leS b c) : leS a c := List.le_trans h h'
theorem leS_anti {a b : Str} (h : leS a b) (h' : leS b a) : a = b := by
  have : a.cps.toList = b.cps.toList := List.le_antisymm h h'
  cases a
  cases b
  exact congrArg Str.mk (Array.toList_inj.mp this)
theorem leS_total (a b : Str) : leS a b ∨ leS b a := List.le_total _ _
theorem leS_of {a b : Str} (h : ltCps b.cps.toList a.cps.toList = false) : leS a b := by
  rw [ltCps_eq] at h
  exact List.not_lt.mp (of_decide_eq_false h)
theorem rising_pw : ∀ (l : List Str) (p : Str), risingS p l = true → (p :: l).Pairwise leS
  | [], p, _ => List.pairwise_singleton _ _
  | x :: r, p, h => by
    have h' : (!ltCps x.cps.toList p.cps.toList && risingS x r) = true := h
    rw [Bool.and_eq_true] at h'
    have h1 : leS p x := leS_of (by cases q : ltCps x.cps.toList p.cps.toList <;> simp_all)
    have ih := rising_pw r x h'.2
    refine List.pairwise_cons.mpr ⟨fun y hy => ?_, ih⟩
    rcases List.mem_cons.mp hy with rfl | hy
    · exact h1
    · exact leS_trans h1 ((List.pairwise_cons.mp ih).1 y hy)
theorem sorted_pw {l : List Str} (h : sortedS l = true) : l.Pairwise leS := by
  cases l with
  | nil => exact List.Pairwise.nil
  | cons x r => exact rising_pw r x h
def ins (x : Str) : List Str → List Str
  | [] => [x]
  | y :: r => if ltCps y.cps.toList x.cps.toList = true then y :: ins x r else x :: y :: r
def ordS (l : List Str) : List Str := l.foldr ins []
theorem ins_perm (x : Str) : ∀ l, (ins x l).Perm (x :: l)
  | [] => .refl _
  | y :: r => by
    unfold ins
    split
    · exact ((ins_perm x r).cons y).trans (List.Perm.swap ..)
    · exact .refl _
theorem ins_pw (x : Str) : ∀ l, l.Pairwise leS → (ins x l).Pairwise leS
  | [], _ => List.pairwise_singleton _ _
  | y :: r, h => by
    obtain ⟨h1, h2⟩ := List.pairwise_cons.mp h
    unfold ins
    split
    · rename_i q
      refine List.pairwise_cons.mpr ⟨fun z hz => ?_, ins_pw x r h2⟩
      rcases List.mem_cons.mp ((ins_perm x r).mem_iff.mp hz) with rfl | hz
      · rw [ltCps_eq] at q
        exact List.le_of_lt (of_decide_eq_true q)
      · exact h1 z hz
    · rename_i q
      have hx : leS x y := leS_of (by simpa using q)
      refine List.pairwise_cons.mpr ⟨fun z hz => ?_, h⟩
      rcases List.mem_cons.mp hz with rfl | hz
      · exact hx
      · exact leS_trans hx (h1 z hz)
theorem ord_perm : ∀ l, (ordS l).Perm l
  | [] => .refl _
  | x :: r => (ins_perm x _).trans ((ord_perm r).cons x)
theorem ord_pw : ∀ l, (ordS l).Pairwise leS
  | [] => List.Pairwise.nil
  | x :: r => ins_pw x _ (ord_pw r)
theorem ord_eq {ys l : List Str} (hp : ys.Perm l) (hs : sortedS ys = true) : ys = ordS l :=
  List.Perm.eq_of_pairwise (le := leS) (fun a b _ _ => leS_anti) (sorted_pw hs) (ord_pw l) (hp.trans (ord_perm l).symm)
theorem adds_len : ∀ (cs : List Nat) (l : List Str), (adds l cs).length ≤ l.length + cs.length
  | [], l => Nat.le_refl _
  | c :: r, l => by
    have := adds_len r (if sing c ∈ l then l else sing c :: l)
    show (adds _ r).length ≤ _
    simp only [List.length_cons]
    split at this <;> simp_all <;> omega
/-- the signs of a text, in order, each once -/
def signs (x : Str) : List Str := ordS (adds [] x.cps.toList)
/-! ### the calls -/
def SetS (P : Program) (w : World) (a : Addr) (l : List Str) : HO := .ext fun h => ∃ D, h.get? a = some (sObj "set" D) ∧ Tx2 P w D l
theorem setS_new {w : World} {P : Program} {H : Hp} {h : Heap} {a : Addr} {l : List Str} (R : ∃ D, h.get? a = some (sObj "set" D) ∧ Tx2 P w D l) : ObjOk P w H h a (SetS P w a l) := by
  have ⟨D, g, F⟩ := R
  exact ⟨R, ⟨_, g⟩, fun h1 h2 ⟨D2, g2, F2⟩ k2 => ⟨D2, k2 _ g2, F2⟩⟩
section
variable {X : Cx}
def rSetS (P : Program) (w : World) : List V → Hp → VK → Prop := fun xs H Q => ∃ x : Str, xs = [.str x] ∧ x.cps.all (· < 128) = true ∧ x.cps.toList.length < 60 ∧
  ∀ p, H p = none → Q (.ref p) (L2.upd H p (SetS P w p (adds [] x.cps.toList)))
theorem call_setS (hc : X.calm = true) : CallR X (.type "set") (rSetS X.prog X.w) := by
  intro pins s σ H xs us Q I r h
  obtain ⟨x, rfl, ha, hz, q⟩ := h
  obtain ⟨u, rfl, t, rfl⟩ := vals1 r
  refine call_set_str (I.ok.hd hc) ha (by unfold scanBound; omega) fun h' tk D k g F => ?_
  exact ⟨.ref _, _, I.laid (t' := tk) k (Nat.le_refl _) (setS_new ⟨D, g, F⟩), rfl, q _ (I.hok.fresh (Nat.le_refl _))⟩
def rSortS (P : Program) (w : World) : List V → Hp → VK → Prop := fun xs H Q => ∃ (a : Addr) (l : List Str), xs = [.ref a] ∧ H a = some (SetS P w a l) ∧ l.length < 64 ∧
  ∀ p, H p = none → Q (.ref p) (L2.upd H p (.lst ((ordS l).map V.str)))
theorem call_sortS (hc : X.calm = true) : CallR X (.builtin "sorted") (rSortS X.prog X.w) := by
  intro pins s σ H xs us Q I r h
  obtain ⟨a, l, rfl, ha, hz, q⟩ := h
  rw [Vals.ref1 r]
  obtain ⟨D, g, F⟩ : ∃ D, s.heap.get? a = some (sObj "set" D) ∧ Tx2 X.prog X.w D l := (I.hok a _ ha).1
  refine sorted_text g F (I.ok.hd hc) hz fun s2 p out c ys k g2 o2 hp hg hi hpm hs => ?_
  have hy := ord_eq hpm hs
  subst hy
  have hlen : ((ordS l).map V.str).length ≤ sizeLine := by rw [List.length_map, hpm.length_eq, sizeLine_eq]; omega
  have hn : H p = none := I.hok.fresh hp
  have J : L2.Inv X pins σ (L2.upd H p (.lst ((ordS l).map V.str))) { s with heap := s2.heap, gens := s2.gens, drawn := s2.drawn, toks := s2.toks } := by
    refine I.call (ch := []) (Un.laid k hp hn) (I.hok.laid k hp ⟨hlen, out.toList, c, vals_of_strs hi, hg⟩) ?_ fun _ z => nomatch z
    rw [g2]; exact I.bare
  have e : s2 = { s with heap := s2.heap, gens := s2.gens, drawn := s2.drawn, toks := s2.toks } := by
    obtain ⟨_, _, _, _, _⟩ := s2
    obtain ⟨_, _, _, _, _⟩ := s
    cases o2
    rfl
  rw [e]
  exact ⟨.ref p, _, J, rfl, q p hn⟩
end
end NS
set_option maxRecDepth 100000
set_option maxHeartbeats 1000000
namespace NL
open PySem PySem.Spec L2
section
variable {X : Cx} {W : WX}
/-! ### sorted(set(text)), sep.join(row) -/
def srtD : D → LH → Re D := fun d lh => match d with
  | .str x => if x.cps.all (· < 128) = true ∧ x.cps.toList.length < 60 then .ok (.loc lh.length) (lh ++ [.lst ((NS.signs x).map D.str)]) else .bad
  | _ => .bad
def srtM (m : M) : M := fun e lh => (m e lh).bind srtD
theorem RelL.strs {K r H} : ∀ ys : List Str, RelL K r H (ys.map D.str) (ys.map V.str)
  | [] => .nil
  | y :: r => .cons (.str y) (RelL.strs r)
theorem signs_len (x : Str) : (NS.signs x).length ≤ x.cps.toList.length := by
  have h := NS.adds_len x.cps.toList []
  unfold NS.signs
  rw [(NS.ord_perm _).length_eq]
  simpa using h
theorem de_srt {k : Nat} {e : Expr} {m : M} {p p2 pos pos2 : Pos} (o : Bk k X W) (h : DE X W e m) (hm : X.mg "sorted" = none) (hm2 : X.mg "set" = none) (hg : Gl X "sorted" := by rfl) (hg2 : Gl X "set" := by rfl)
    (he2 : starEach [e] X.env = (false, eval e X.env) :: starEach [] X.env := by rfl) (hpl2 : (backTo pos2 (starEach [] X.env)).any (·.1) = false := by rfl)
    (he : starEach [.Call (.Name "set" p2) [e] [] pos2] X.env = (false, eval (.Call (.Name "set" p2) [e] [] pos2) X.env) :: starEach [] X.env := by rfl) (hpl : (backTo pos (starEach [] X.env)).any (·.1) = false := by rfl) :
    DE X W (.Call (.Name "sorted" p) [.Call (.Name "set" p2) [e] [] pos2] [] pos) (srtM m) := by
  have h1 : PA X [e] _ := pa_cons h pa_nil he2
  have h2 := pe_callTy (p := p2) (NS.call_setS (X := X) o.calm) hg2 hm2 (by rfl) h1 (by decide) (by decide) he2 hpl2
  have h3 : PA X [.Call (.Name "set" p2) [e] [] pos2] _ := pa_cons h2 pa_nil he
  have h4 := pe_callB (p := p) (NS.call_sortS (X := X) o.calm) hg hm (by rfl) h3 (by decide) (by decide) he hpl
  refine pe_imp h4 fun s H Q ⟨r, e, lh, S, Hh, F⟩ => ?_
  refine tG_of S Hh ((FinG.bind (R := Rel X.K) F).imp fun v H1 ⟨r1, l1, x, y1, z1, w1, F1⟩ => ?_)
  unfold srtD at F1
  split at F1
  · rename_i z
    cases w1
    split at F1
    · rename_i hc
      refine ⟨z, rfl, hc.1, hc.2, fun p hp => ⟨p, _, rfl, upd_same, ?_, fun p2 hp2 => ?_⟩⟩
      · have := signs_len z
        have h5 : (NS.signs z).length = (NS.adds [] z.cps.toList).length := (NS.ord_perm _).length_eq
        omega
      · have x1 : Ext X.K r1 H1 r1 (upd H1 p (NS.SetS X.prog X.w p (NS.adds [] z.cps.toList))) := Ext.laid hp
        have s1 := z1.laidT (o := NS.SetS X.prog X.w p (NS.adds [] z.cps.toList)) hp
        exact F1.to (x1.trans (Ext.more hp2)) (s1.laid hp2 (RelL.strs _)) (.loc (laid_new s1))
    · exact F1.elim
  · exact F1.elim
/-- a row of texts -/
def strL : List D → Option (List Str)
  | [] => some []
  | .str x :: r => (strL r).map (x :: ·)
  | _ :: _ => none
theorem strL_to {K r H} : ∀ {ds : List D} {vs : List V} {ys : List Str}, RelL K r H ds vs → strL ds = some ys → vs = ys.map V.str
  | _, _, ys, .nil, h => by cases h; rfl
  | _, _, ys, .cons (d := d) (ds := ds) p q, h => by
    cases p with
    | str x =>
      have h' : (strL ds).map (x :: ·) = some ys := h
      cases e : strL ds with
      | none => rw [e] at h'; cases h'
      | some zs =>
        rw [e] at h'
        cases h'
        rw [strL_to q e]
        rfl
    | _ => cases h
def joinD : D → List D → LH → Re D := fun o ds lh => match o, ds with
  | .str a, [d] => match sq lh d with
    | some xs => (match strL xs with | some ys => if (ys.map (·.length)).sum + ys.length * a.length ≤ 16777216 then .ok (.str (Txt.join a ys)) lh else .bad | none => .bad)
    | none => .bad
  | _, _ => .bad
theorem m_join : MtD X "str.join" joinD := by
  refine ⟨_, mt_join, fun E r H lh d ds v vs Q Hh q ql F => ?_⟩
  unfold joinD at F
  split at F
  · cases q
    cases ql with
    | cons p pl =>
      cases pl
      split at F
      · rename_i xs exs
        obtain ⟨a, ws, rfl, h0, rl⟩ := sq_to Hh p exs
        split at F
        · rename_i ys eys
          split at F
          · rename_i hz
            have e := strL_to rl eys
            subst e
            exact ⟨_, a, ys, rfl, rfl, .inl h0, hz, F.ok Hh (.str _)⟩
          · exact F.elim
        · exact F.elim
      · exact F.elim
  · exact F.elim
end
end NL
set_option maxRecDepth 100000
set_option maxHeartbeats 1000000
namespace NL
open PySem PySem.Spec L2
/-- a def of the text at st: its name, its parameters, what it computes, k calls deep -/
structure FnS (P : Program) (w : World) (K : PySem.W.Frag) (mg : Str → Option Value) (base : Heap) (x : Str) (st : Stmt) (ps : List Str) (k : Nat) (m : FM) : Prop where
  ex : ∃ (f : Addr) (fd : FuncData), FnOk P w K mg base (L2.CX P w) k f fd ps (spD K mg ps.length m) ∧ mg x = some (.ref f) ∧ Fun K x x st f fd ∧ Binds K fd ps []
/-- how it stands behind the top -/
structure FnF (K : PySem.W.Frag) (mg : Str → Option Value) (x : Str) (st : Stmt) : Prop where
  ex : ∃ (f : Addr) (fd : FuncData), mg x = some (.ref f) ∧ Fun K x x st f fd
section
variable {P : Program} {w : World} {K : PySem.W.Frag} {mg : Str → Option Value} {base : Heap} {x : Str} {st : Stmt} {N ps : List Str} {k : Nat} {m : SM}
theorem fnOk_of {f : Addr} {fd : FuncData} (F : Fun K x x st f fd) (S : FnScope N ps (defScope st))
    (hb : ∀ (cdv : Value) (A : Around) (outer : List Env) (s : Shared) (H : Hp) (E : XK), Bk k (cxOf (L2.CX P w) P w K mg base N x (defScope st) f cdv A outer s H E) (fun cls d _ H => E cls d H) →
      DSs (cxOf (L2.CX P w) P w K mg base N x (defScope st) f cdv A outer s H E) (fun cls d _ H => E cls d H) (defBody st) m) :
    FnOk P w K mg base (L2.CX P w) (k + 1) f fd ps (spD K mg ps.length (fnM N.length m)) := by
  refine Fun.okX F S (fun vs H Q E h => h.1) fun cdv A outer s H vs Q E hr h => ?_
  exact ⟨_, hb cdv A outer s H E ⟨rfl, takes_of rfl rfl rfl rfl, S.nd, passes_of rfl, hr⟩, spD_to (ps := ps) rfl rfl h⟩
theorem fnS_of (F : FnF K mg x st) (S : FnScope N ps (defScope st))
    (hbi : ∀ (kV doc pm : Value) (an : Option Addr) (cdv ct : Value) (us : List Value), us.length = ps.length → bindArgs (PySem.W.fnOf x x (defArgs st) (defBody st) (defScope st) .none kV doc pm an cdv ct) ⟨us, []⟩ = pure (ps.zip us))
    (hb : ∀ (f : Addr) (cdv : Value) (A : Around) (outer : List Env) (s : Shared) (H : Hp) (E : XK), Bk k (cxOf (L2.CX P w) P w K mg base N x (defScope st) f cdv A outer s H E) (fun cls d _ H => E cls d H) →
      DSs (cxOf (L2.CX P w) P w K mg base N x (defScope st) f cdv A outer s H E) (fun cls d _ H => E cls d H) (defBody st) m) :
    FnS P w K mg base x st ps (k + 1) (fnM N.length m) := by
  obtain ⟨f, fd, hm, F⟩ := F.ex
  exact ⟨f, fd, fnOk_of F S (hb f), hm, F, F.binds hbi⟩
/-- nothing is promised -/
theorem fnS_bad (F : FnF K mg x st)
    (hbi : ∀ (kV doc pm : Value) (an : Option Addr) (cdv ct : Value) (us : List Value), us.length = ps.length → bindArgs (PySem.W.fnOf x x (defArgs st) (defBody st) (defScope st) .none kV doc pm an cdv ct) ⟨us, []⟩ = pure (ps.zip us)) :
    FnS P w K mg base x st ps 0 (fun _ _ => .bad) := by
  obtain ⟨f, fd, hm, F⟩ := F.ex
  refine ⟨f, fd, ⟨fun vs H Q E h => h.1, fun A outer s H args us vs Q E _ _ _ _ h => ?_⟩, hm, F, F.binds hbi⟩
  obtain ⟨_, _, _, _, _, _, z⟩ := h
  exact z.elim
theorem FnS.mono {m : FM} {j : Nat} (F : FnS P w K mg base x st ps j m) (h : j ≤ k) : FnS P w K mg base x st ps k m := by
  obtain ⟨f, fd, h1, h2, h3, h4⟩ := F.ex
  exact ⟨f, fd, h1.mono h, h2, h3, h4⟩
end
section
variable {X : Cx} {W : WX}
theorem de_fn {k n : Nat} {x : Str} {st : Stmt} {ps : List Str} {m : FM} {p pos : Pos} {e : Expr} {es : List Expr} {ma : MA} (o : Bk n X W) (G : FnS X.prog X.w X.K X.mg X.base x st ps k m) (hk : k ≤ n) (ha : DA X W (e :: es) ma) (hl : (e :: es).length = ps.length := by rfl) (hg : Gl X x := by rfl)
    (hdb : (x == ("__debug__" : Str)) = false := by decide) (he : starEach (e :: es) X.env = (false, eval e X.env) :: starEach es X.env := by rfl) (hpl : (backTo pos (starEach es X.env)).any (·.1) = false := by rfl) : DE X W (.Call (.Name x p) (e :: es) [] pos) (apM m ma) := by
  obtain ⟨f, fd, h1, h2, h3, h4⟩ := G.ex
  refine pe_imp (pe_callS (E := WE W) h1 (o.hr.mono hk) hg h2 h3.kp h4 (fun σ => passAt o.tk σ) ha.pa hdb he hpl) fun s H Q ⟨r, e, lh, S, Hh, F⟩ => ?_
  refine tG_of S Hh (FinG.len ha ((FinG.bind (R := RelL X.K) F).imp fun vs H1 ⟨r1, l1, x, y1, z1, w1, F1⟩ hlen => ?_))
  exact ⟨hlen.trans hl, r1, l1, x, z1, w1, F1⟩
/-- f() -/
def apM0 (m : FM) : M := fun _ lh => m [] lh
theorem de_fn0 {k n : Nat} {x : Str} {st : Stmt} {m : FM} {p pos : Pos} (o : Bk n X W) (G : FnS X.prog X.w X.K X.mg X.base x st [] k m) (hk : k ≤ n) (hg : Gl X x := by rfl) (hdb : (x == ("__debug__" : Str)) = false := by decide) : DE X W (.Call (.Name x p) [] [] pos) (apM0 m) := by
  obtain ⟨f, fd, h1, h2, h3, h4⟩ := G.ex
  have hE : ∀ (s : L2.St) (H : Hp) (Q : VK), tG X W (Rel X.K) (apM0 m) s H Q → spD X.K X.mg 0 m [] H Q (WE W s) := fun s H Q ⟨r, e, lh, S, Hh, F⟩ => ⟨rfl, r, lh, [], Hh, .nil, F⟩
  refine ⟨fun pins s σ H Q I h => ?_⟩
  refine wpAny_Call_Name_kw (ld_glob I hg h2 ?_ hdb)
  exact PySem.W.callWith_K0 I.kIn h3.kp (run_fnS (us := []) (E := WE W) h1 (o.hr.mono hk) h4 (passAt o.tk σ) I .nil (hE σ H Q h))
/-! ### keyword arguments -/
structure DK (X : Cx) (W : WX) (kws : List Keyword) (m : MA) : Prop where
  pk : PK X kws (tG X W (RelL X.K) m)
  len : ∀ e lh ds lh', m e lh = .ok ds lh' → ds.length = kws.length
theorem pk_imp {e : List Keyword} {t t' : TA} (h : PK X e t) (i : ∀ s H Q, t' s H Q → t s H Q) : PK X e t' := ⟨fun p pins s σ H Q I w => h.run p pins s σ H Q I (i σ H Q w)⟩
theorem dk_nil : DK X W [] nilA where
  pk := pk_imp pk_nil fun s H Q ⟨r, e, lh, S, Hh, F⟩ => F.ok Hh .nil
  len := fun e lh ds lh' h => by
    have h' : Re.ok ([] : List D) lh = Re.ok ds lh' := h
    cases h'
    rfl
theorem consA_len {ma : M} {mr : MA} {n : Nat} (hr : ∀ e lh ds lh', mr e lh = .ok ds lh' → ds.length = n) : ∀ e lh ds lh', consA ma mr e lh = .ok ds lh' → ds.length = n + 1 := fun e lh ds lh' h => by
  have h' : (ma e lh).bind (fun d l => (mr e l).bind fun ds l2 => Re.ok (d :: ds) l2) = Re.ok ds lh' := h
  cases e1 : ma e lh with
  | ok d l =>
    rw [e1] at h'
    have h' : (mr e l).bind (fun ds l2 => Re.ok (d :: ds) l2) = Re.ok ds lh' := h'
    cases e2 : mr e l with
    | ok es' l2 =>
      rw [e2] at h'
      have h' : Re.ok (d :: es') l2 = Re.ok ds lh' := h'
      cases h'
      rw [List.length_cons, hr _ _ _ _ e2]
    | er x l2 => rw [e2] at h'; cases h'
    | bad => rw [e2] at h'; cases h'
  | er x l => rw [e1] at h'; cases h'
  | bad => rw [e1] at h'; cases h'
theorem dk_cons {nm : Option Str} {e : Expr} {kpos : Pos} {kws : List Keyword} {ma : M} {mr : MA} (ha : DE X W e ma) (hr : DK X W kws mr) : DK X W (⟨nm, e, kpos⟩ :: kws) (consA ma mr) where
  pk := by
    refine pk_imp (pk_cons ha hr.pk) fun s H Q ⟨r, e, lh, S, Hh, F⟩ => ?_
    refine tG_of S Hh ((FinG.bind (R := Rel X.K) F).imp fun v H1 ⟨r1, l1, x, y1, z1, w1, F1⟩ => ?_)
    refine tG_of (S.mono y1) z1 ((FinG.bind (R := RelL X.K) F1).imp fun vs H2 ⟨r2, l2, x2, y2, z2, w2, F2⟩ => ?_)
    exact F2.ok z2 (.cons (w1.mono y2) w2)
  len := consA_len hr.len
/-- places of a list -/
def pick {a : Type} (ix : List Nat) (l : List a) : List a := ix.filterMap fun i => l[i]?
theorem pick_vals {vs : List V} {us : List Value} (h : Vals vs us) : ∀ ix : List Nat, Vals (pick ix vs) (pick ix us)
  | [] => .nil
  | i :: ix => by
    unfold pick
    rw [List.filterMap_cons, List.filterMap_cons]
    cases e : vs[i]? with
    | none => rw [h.none_of e]; exact pick_vals h ix
    | some v =>
      obtain ⟨u, h1, h2⟩ := h.get e
      rw [h1]
      exact .cons h2 (pick_vals h ix)
theorem pick_rel {K r H} {ds : List D} {vs : List V} (h : RelL K r H ds vs) : ∀ ix : List Nat, RelL K r H (pick ix ds) (pick ix vs)
  | [] => .nil
  | i :: ix => by
    unfold pick
    rw [List.filterMap_cons, List.filterMap_cons]
    cases e : ds[i]? with
    | none =>
      have e2 : vs[i]? = none := List.getElem?_eq_none_iff.mpr (by rw [← h.length]; exact List.getElem?_eq_none_iff.mp e)
      rw [e2]
      exact pick_rel h ix
    | some v =>
      obtain ⟨u, h1, h2⟩ := h.get e
      rw [h1]
      exact .cons h2 (pick_rel h ix)
theorem pick_len {a : Type} {l : List a} : ∀ {ix : List Nat}, (∀ i ∈ ix, i < l.length) → (pick ix l).length = ix.length
  | [], _ => rfl
  | i :: ix, h => by
    unfold pick
    rw [List.filterMap_cons, List.getElem?_eq_getElem (h i List.mem_cons_self)]
    exact congrArg Nat.succ (pick_len fun j hj => h j (List.mem_cons_of_mem _ hj))
/-- n1 positional values, then keywords; ix puts them into the parameters' order -/
def kwM (m : FM) (ix : List Nat) (ma mk : MA) : M := fun e lh => (ma e lh).bind fun ds l => (mk e l).bind fun es l2 => m (pick ix (ds ++ es)) l2
theorem run_fnKS {CX : CXT} {k : Nat} {f : Addr} {fd : FuncData} {ps : List Str} {sp : Sp} {E : XK} {pins : List (Addr × Obj)} {σ : L2.St} {H : Hp} {s : Shared} {Q : VK} {us bs : List Value} {kw : List (Str × Value)} {vs : List V} (F : FnOk X.prog X.w X.K X.mg X.base CX k f fd ps sp) (hr : Room k X.A) (hb : BindsTo s fd ⟨us, kw⟩ (ps.zip bs)) (hx : PassesAt CX X σ E)
    (I : L2.Inv X pins σ H s) (r : Vals vs bs) (h : sp vs H Q E) : wpAny (model X.prog X.w) X.A (call (.ref f) us kw) (EP X pins σ Q) X.xe s := by
  refine wpAny_call (codeAny_mono (F.run X.A X.stack s H ⟨us, kw⟩ bs vs Q E hr I.env0 hb r h) fun r s' hq => ?_)
  cases r with
  | error e => exact hx pins H s e s' I hq
  | ok fl =>
    cases fl with
    | ret u => exact I.after hq
    | next => exact False.elim hq
    | brk => exact False.elim hq
    | cont => exact False.elim hq
theorem de_fnK {k n n1 : Nat} {x : Str} {st : Stmt} {ps : List Str} {m : FM} {p pos : Pos} {e : Expr} {es : List Expr} {kws : List Keyword} {ma mk : MA} (ix : List Nat) (ks : List Str) (o : Bk n X W) (G : FnS X.prog X.w X.K X.mg X.base x st ps k m) (hk : k ≤ n) (ha : DA X W (e :: es) ma) (hkw : DK X W kws mk)
    (hbi : ∀ (kV doc pm : Value) (an : Option Addr) (cdv ct : Value) (us ws : List Value), us.length = (e :: es).length → ws.length = kws.length → bindArgs (PySem.W.fnOf x x (defArgs st) (defBody st) (defScope st) .none kV doc pm an cdv ct) ⟨us, ks.zip ws⟩ = pure (ps.zip (pick ix (us ++ ws))))
    (hix : ∀ i ∈ ix, i < (e :: es).length + kws.length := by decide) (hil : ix.length = ps.length := by rfl)
    (hg : Gl X x := by rfl) (hall : (backToKw pos (keywordEach kws X.env)).all (·.1.isSome) = true := by rfl) (hks : (backToKw pos (keywordEach kws X.env)).filterMap (·.1) = ks := by rfl)
    (hdb : (x == ("__debug__" : Str)) = false := by decide) (he : starEach (e :: es) X.env = (false, eval e X.env) :: starEach es X.env := by rfl)
    (hpl : ((backTo pos (starEach (e :: es) X.env)).any (·.1) || (backToKw pos (keywordEach kws X.env)).any (·.1.isNone)) = false := by rfl) :
    DE X W (.Call (.Name x p) (e :: es) kws pos) (kwM m ix ma mk) := by
  obtain ⟨f, fd, h1, h2, h3, h4⟩ := G.ex
  refine ⟨fun pins s σ H Q I ⟨r, ev, lh, S, Hh, F⟩ => ?_⟩
  refine wpAny_Call_Name_kw (ld_glob I hg h2 ?_ hdb)
  refine PySem.W.callWith_KW (h₀ := X.base) I.ok.mod.kin h3.kp hall (thn (ha.pa.run pos pins s σ H _ I (tG_of S Hh (FinG.len ha (Q := fun vs H1 => ∃ r1 l1 ds, Ext X.K r H r1 H1 ∧ SimH X.K r1 H1 l1 ∧ RelL X.K r1 H1 ds vs ∧ vs.length = (e :: es).length ∧ FinG X.K X.mg (fun c dd H' => W c dd σ H') (Rel X.K) r1 H1 Q ((mk ev l1).bind fun es l2 => m (pick ix (ds ++ es)) l2)) ((FinG.bind (R := RelL X.K) F).imp fun vs H1 ⟨r1, l1, x, y1, z1, w1, F1⟩ hlen => ⟨r1, l1, x, y1, z1, w1, hlen, F1⟩)))) fun us s1 ⟨vs, H1, I1, rv, r1, l1, ds, y1, z1, w1, hlen, F1⟩ => ?_) hpl he
  have F1 := FinG.bind (R := RelL X.K) F1
  have hz : ∀ {t : Re (List D)}, (∀ ds l, t = .ok ds l → ds.length = kws.length) → FinG X.K X.mg (fun c dd H' => W c dd σ H') (RelL X.K) r1 H1 (fun v H1_1 => ∃ r1_1 lh1 x, Ext X.K r1 H1 r1_1 H1_1 ∧ SimH X.K r1_1 H1_1 lh1 ∧ RelL X.K r1_1 H1_1 x v ∧ FinG X.K X.mg (fun c dd H' => W c dd σ H') (Rel X.K) r1_1 H1_1 Q (m (pick ix (ds ++ x)) lh1)) t →
      FinG X.K X.mg (fun c dd H' => W c dd σ H') (RelL X.K) r1 H1 (fun zs H2 => zs.length = kws.length ∧ spD X.K X.mg ps.length m (pick ix (vs ++ zs)) H2 Q (WE W σ)) t := by
    intro t ht hF
    cases t with
    | ok es' l =>
      have hl := ht es' l rfl
      intro r' H' zs a b c
      obtain ⟨r2, l2, x2, y2, z2, w2, F2⟩ := hF r' H' zs a b c
      refine ⟨by rw [← c.length]; exact hl, ?_, r2, l2, pick ix (ds ++ x2), z2, pick_rel ((w1.mono y2).app w2) ix, F2⟩
      rw [pick_len, hil]
      intro i hi
      rw [List.length_append, hlen, ← c.length, hl]
      exact hix i hi
    | er x l => exact hF
    | bad => exact hF
  refine thn (hkw.pk.run pos pins s1 σ H1 _ I1 (tG_of (S.mono y1) z1 (hz (fun ds l e => hkw.len _ _ _ _ e) F1))) fun ws s2 ⟨zs, H2, I2, rz, hl2, hsp⟩ => ⟨I2.kIn, ?_⟩
  rw [hks]
  refine run_fnKS h1 (o.hr.mono hk) ?_ (passAt o.tk σ) I2 (pick_vals (rv.append rz) ix) hsp
  obtain ⟨oc, od, kV, doc, pm, an, cdv, ct, osl, rfl, lk, hcd⟩ := h3.ex
  exact .of_eq (hbi kV doc pm an cdv ct us ws (rv.length.symm.trans hlen) (rz.length.symm.trans hl2))
/-- f(k = v, ..) -/
def kwM0 (m : FM) (ix : List Nat) (mk : MA) : M := fun ev lh => (mk ev lh).bind fun es l2 => m (pick ix es) l2
theorem de_fnK0 {k n : Nat} {x : Str} {st : Stmt} {ps : List Str} {m : FM} {p pos : Pos} {kws : List Keyword} {mk : MA} (ix : List Nat) (ks : List Str) (o : Bk n X W) (G : FnS X.prog X.w X.K X.mg X.base x st ps k m) (hk : k ≤ n) (hkw : DK X W kws mk)
    (hbi : ∀ (kV doc pm : Value) (an : Option Addr) (cdv ct : Value) (ws : List Value), ws.length = kws.length → bindArgs (PySem.W.fnOf x x (defArgs st) (defBody st) (defScope st) .none kV doc pm an cdv ct) ⟨[], ks.zip ws⟩ = pure (ps.zip (pick ix ws)))
    (hix : ∀ i ∈ ix, i < kws.length := by decide) (hil : ix.length = ps.length := by rfl)
    (hg : Gl X x := by rfl) (hall : (backToKw pos (keywordEach kws X.env)).all (·.1.isSome) = true := by rfl) (hks : (backToKw pos (keywordEach kws X.env)).filterMap (·.1) = ks := by rfl)
    (hdb : (x == ("__debug__" : Str)) = false := by decide)
    (hpl : ((backTo pos (starEach [] X.env)).any (·.1) || (backToKw pos (keywordEach kws X.env)).any (·.1.isNone)) = false := by rfl) :
    DE X W (.Call (.Name x p) [] kws pos) (kwM0 m ix mk) := by
  obtain ⟨f, fd, h1, h2, h3, h4⟩ := G.ex
  refine ⟨fun pins s σ H Q I ⟨r, ev, lh, S, Hh, F⟩ => ?_⟩
  refine wpAny_Call_Name_kw (ld_glob I hg h2 ?_ hdb)
  have F1 := FinG.bind (R := RelL X.K) F
  have hz : ∀ {t : Re (List D)}, (∀ ds l, t = .ok ds l → ds.length = kws.length) → FinG X.K X.mg (fun c dd H' => W c dd σ H') (RelL X.K) r H (fun v H1_1 => ∃ r1_1 lh1 x, Ext X.K r H r1_1 H1_1 ∧ SimH X.K r1_1 H1_1 lh1 ∧ RelL X.K r1_1 H1_1 x v ∧ FinG X.K X.mg (fun c dd H' => W c dd σ H') (Rel X.K) r1_1 H1_1 Q (m (pick ix x) lh1)) t →
      FinG X.K X.mg (fun c dd H' => W c dd σ H') (RelL X.K) r H (fun zs H2 => zs.length = kws.length ∧ spD X.K X.mg ps.length m (pick ix zs) H2 Q (WE W σ)) t := by
    intro t ht hF
    cases t with
    | ok es' l =>
      have hl := ht es' l rfl
      intro r' H' zs a b c
      obtain ⟨r2, l2, x2, y2, z2, w2, F2⟩ := hF r' H' zs a b c
      refine ⟨by rw [← c.length]; exact hl, ?_, r2, l2, pick ix x2, z2, pick_rel w2 ix, F2⟩
      rw [pick_len, hil]
      intro i hi
      rw [← c.length, hl]
      exact hix i hi
    | er x l => exact hF
    | bad => exact hF
  refine PySem.W.callWith_KW0 (h₀ := X.base) I.ok.mod.kin h3.kp hall (thn (hkw.pk.run pos pins s σ H _ I (tG_of S Hh (hz (fun ds l e => hkw.len _ _ _ _ e) F1))) fun ws s2 ⟨zs, H2, I2, rz, hl2, hsp⟩ => ⟨I2.kIn, ?_⟩) hpl
  rw [hks]
  refine run_fnKS h1 (o.hr.mono hk) ?_ (passAt o.tk σ) I2 (pick_vals rz ix) hsp
  obtain ⟨oc, od, kV, doc, pm, an, cdv, ct, osl, rfl, lk, hcd⟩ := h3.ex
  exact .of_eq (hbi kV doc pm an cdv ct ws (rz.length.symm.trans hl2))
end
/-! ### the law's end -/
def spL (K : PySem.W.Frag) : Sp := fun vs H Q _ => ∃ (a : Addr) (ns : List Int), vs = [.ref a] ∧ FzL K H a (ns.map V.int) ∧ ns.length ≤ 63 ∧ ∀ H', Q (.bl true) H'
theorem ints_rel {K r H} : ∀ ns : List Int, RelL K r H (ns.map D.int) (ns.map V.int)
  | [] => .nil
  | n :: ns => .cons (.int n) (ints_rel ns)
theorem law_sp {K : PySem.W.Frag} {mg : Str → Option Value} {m : FM} (h : ∀ ns : List Int, ns.length ≤ 63 → ∃ lh', m [.fl (ns.map D.int)] [] = .ok (.bl true) lh') (vs : List V) (H : Hp) (Q : VK) (E : XK) (q : spL K vs H Q E) : spD K mg 1 m vs H Q E := by
  obtain ⟨a, ns, rfl, hf, hl, k⟩ := q
  refine ⟨rfl, [], [], [.fl (ns.map D.int)], ⟨rfl, List.nodup_nil, fun n a o h => by simp at h⟩, .cons (.fl hf (ints_rel ns)) .nil, ?_⟩
  obtain ⟨lh', e⟩ := h ns hl
  rw [e]
  intro r' H' v _ _ hv
  cases hv
  exact k H'
end NL
set_option maxRecDepth 100000
set_option maxHeartbeats 1000000
namespace NL
open PySem PySem.Spec L2
theorem fun_inj {K : PySem.W.Frag} {x q : Str} {st : Stmt} {f : Addr} {fd fd' : FuncData} (a : Fun K x q st f fd) (b : Fun K x q st f fd') : fd = fd' := by
  obtain ⟨_, _, _, _, _, _, _, _, _, _, l1, _⟩ := a.ex
  obtain ⟨_, _, _, _, _, _, _, _, _, _, l2, _⟩ := b.ex
  rw [l1] at l2
  injection l2 with l2
  injection l2 with _ _ l2
  injection l2
theorem fnF_mk {K : PySem.W.Frag} {h : Heap} {mg : Str → Option Value} {x : Str} {st : Stmt} {f : Addr} {oc : Value} {od an : Option Addr} {osl : Array (Option Value)} {kV doc pm cdv ct : Value} (X : K.In h) (G : h.Ns mainGlobals mg) (a : PySem.W.nsIn K mainGlobals x = some (some (.ref f)))
    (l : K.lookup f = some ⟨oc, od, .func (PySem.W.fnOf x x (defArgs st) (defBody st) (defScope st) .none kV doc pm an cdv ct), osl⟩) (c : PySem.W.codeIn K cdv x = true) (k : PySem.W.keepIn K (.ref f) = true) : FnF K mg x st :=
  ⟨f, _, PySem.W.mg_of X G a, fun_mk l c k⟩
/-- constants of the module -/
theorem glob_str {K : PySem.W.Frag} {h : Heap} {mg : Str → Option Value} {x s : Str} {t : Tok} (X : K.In h) (G : h.Ns mainGlobals mg) (a : PySem.W.nsIn K mainGlobals x = some (some (.str s t))) : GlobD K mg x (.str s) :=
  ⟨_, .str s, PySem.W.mg_of X G a, ⟨t, rfl⟩, fun _ _ => .str s⟩
theorem glob_int {K : PySem.W.Frag} {h : Heap} {mg : Str → Option Value} {x : Str} {i : Int} {t : Tok} (X : K.In h) (G : h.Ns mainGlobals mg) (a : PySem.W.nsIn K mainGlobals x = some (some (.int i t))) : GlobD K mg x (.int i) :=
  ⟨_, .int i, PySem.W.mg_of X G a, ⟨t, rfl⟩, fun _ _ => .int i⟩
/-- written values as data -/
inductive DV : List D → List Value → Prop
  | nil : DV [] []
  | non {ds vs} : DV ds vs → DV (.non :: ds) (.none :: vs)
  | bl {b ds vs} : DV ds vs → DV (.bl b :: ds) (.bool b :: vs)
  | int {i t ds vs} : DV ds vs → DV (.int i :: ds) (.int i t :: vs)
  | str {s t ds vs} : DV ds vs → DV (.str s :: ds) (.str s t :: vs)
theorem DV.to {K r H} : ∀ {ds : List D} {us : List Value}, DV ds us → ∃ vs, Vals vs us ∧ RelL K r H ds vs
  | _, _, .nil => ⟨[], .nil, .nil⟩
  | _, _, .non h => let ⟨vs, a, b⟩ := h.to; ⟨.non :: vs, .cons rfl a, .cons .non b⟩
  | _, _, .bl h => let ⟨vs, a, b⟩ := h.to; ⟨.bl _ :: vs, .cons rfl a, .cons (.bl _) b⟩
  | _, _, .int h => let ⟨vs, a, b⟩ := h.to; ⟨.int _ :: vs, .cons ⟨_, rfl⟩ a, .cons (.int _) b⟩
  | _, _, .str h => let ⟨vs, a, b⟩ := h.to; ⟨.str _ :: vs, .cons ⟨_, rfl⟩ a, .cons (.str _) b⟩
def DV.vs : List D → List V
  | [] => []
  | .bl b :: r => .bl b :: DV.vs r
  | .int b :: r => .int b :: DV.vs r
  | .str b :: r => .str b :: DV.vs r
  | _ :: r => .non :: DV.vs r
theorem DV.vals : ∀ {ds : List D} {us : List Value}, DV ds us → Vals (DV.vs ds) us
  | _, _, .nil => .nil
  | _, _, .non h => .cons rfl h.vals
  | _, _, .bl h => .cons rfl h.vals
  | _, _, .int h => .cons ⟨_, rfl⟩ h.vals
  | _, _, .str h => .cons ⟨_, rfl⟩ h.vals
theorem DV.rel {K r H} : ∀ {ds : List D} {us : List Value}, DV ds us → RelL K r H ds (DV.vs ds)
  | _, _, .nil => .nil
  | _, _, .non h => .cons .non h.rel
  | _, _, .bl h => .cons (.bl _) h.rel
  | _, _, .int h => .cons (.int _) h.rel
  | _, _, .str h => .cons (.str _) h.rel
theorem glob_tup {K : PySem.W.Frag} {h : Heap} {mg : Str → Option Value} {x : Str} {p : Addr} {dd : Option Addr} {us : List Value} {n : Nat} {sl : Array (Option Value)} {ds : List D} (X : K.In h) (G : h.Ns mainGlobals mg) (a : PySem.W.nsIn K mainGlobals x = some (some (.ref p)))
    (l : K.lookup p = some ⟨.type "tuple", dd, .seq us.toArray n, sl⟩) (q : DV ds us) (hz : ds.length ≤ 1000) : GlobD K mg x (.tup ds) := by
  refine ⟨_, .ref p, PySem.W.mg_of X G a, rfl, fun r H => .tup (.inr ⟨_, us.toArray, n, l, rfl, rfl, ?_, by simpa using q.vals⟩) q.rel⟩
  have e := q.rel (K := K) (r := r) (H := H) |>.length
  have e2 := q.vals.length
  have : us.length ≤ 1000 := by omega
  have := small1000 this
  rw [List.size_toArray]
  omega
/-- the law's end, over what k_head leaves -/
theorem law_walk {l : PySem.W.OpenLaw} {k : Nat} {q : Program} {loose : List Str} {XP : (Str → Option Value) → Heap → Prop} {YP : World → Heap → Prop} {d : DefRec} {K : Params → PySem.W.Frag} {x y : Str} {st : Stmt} {m : FM} {TX : PySem.W.Frag → (Str → Option Value) → Prop}
    (hn : l.most = some 63) (hdf : d.params.defaults = []) (hnm : d.name = y) (hr : Room k callerA) (hY : ∀ (w : World) (h : Heap), YP w h → (K w.params).In h)
    (hbi : ∀ (kV doc pm : Value) (an : Option Addr) (cdv ct : Value) (s : Shared) (u : Value), BindsTo s (PySem.W.fnOf y y (defArgs st) (defBody st) (defScope st) .none kV doc pm an cdv ct) ⟨[u], []⟩ [(x, u)])
    (fF : ∀ {K mg}, TX K mg → FnF K mg y st) (ok : ∀ {P w K mg base}, TX K mg → FnS P w K mg base y st [x] k m)
    (hm : ∀ ns : List Int, ns.length ≤ 63 → ∃ lh', m [.fl (ns.map D.int)] [] = .ok (.bl true) lh')
    (F : ∀ (w : World) (mg : Str → Option Value) (h : Heap), (K w.params).In h → h.Ns mainGlobals mg → TX (K w.params) mg) :
    PySem.W.WalkO q loose XP YP l.row.toRowW d [] (fun f vs => PySem.call f vs) := by
  refine L2.walk_of (n := 63) (k := k) (x := x) (CX := fun w => L2.CX l.prog w) (sp := fun w => spL (K w.params)) hn (by decide) hdf hr hY ?_ ?_ ?_
  · intro w mg fa h KX G hmg
    have T := F w mg h KX G
    obtain ⟨f, fd, h1, h2⟩ := (fF T).ex
    rw [hnm, h1] at hmg
    cases hmg
    refine ⟨fd, fun s u => ?_, fun base _ _ => ?_⟩
    · obtain ⟨oc, od, kV, doc, pm, an, cdv, ct, osl, rfl, lk, hcd⟩ := h2.ex
      exact hbi kV doc pm an cdv ct s u
    · obtain ⟨f', fd', g1, g2, g3, _⟩ := (ok (P := l.prog) (w := w) (base := base) T).ex
      rw [h1] at g2
      cases g2
      rw [fun_inj h2 g3]
      exact g1.imp fun vs H Q E z => law_sp hm vs H Q E z
  · intro w H a ns hl hO hS
    refine ⟨a, ns, rfl, ?_, hl, fun _ => rfl⟩
    rcases hS with (h | h) | h
    · rcases hO a with z | ⟨o, xs, z⟩
      · rw [h] at z; cases z
      · rw [h] at z; cases z
    · exact .inl h
    · exact .inr h
  · rintro w H s e s' ⟨_, _, _, _, _, _, _, _, _, _, _, _, z⟩
    exact z
end NL
set_option maxRecDepth 100000
namespace NP
open PySem PySem.Spec L2 NL
def l_bag : FM := fnM 3 (
  seqS (asS (conM (.int 10018)) (nmG 1))
  (seqS (forS (seqI (slM (varM 0) (noM) (soM (conM (.int 63))))) (nmG 2) (asS (opM modD (callM intD (consA (opM addD (opM addD (opM mulD (varM 1) (conM (.int 47353))) (opM modD (callM intD (consA (varM 2) (nilA))) (conM (.int 2147483579)))) (conM (.int 17))) (nilA))) (conM (.int 2147483629))) (nmG 1)))
  (rtS (lstM (consA (callM listD (consA (slM (varM 0) (noM) (soM (conM (.int 63)))) (nilA))) (consA (conM (.int 0)) (consA (conM (.int 0)) (consA (varM 1) (consA (conM (.int 0)) (nilA))))))))))
def l_draw : FM := fnM 5 (
  seqS (asS (opM addD (opM ixD (varM 0) (conM (.int 4))) (conM (.int 1))) (subG (varM 0) (conM (.int 4))))
  (seqS (ifS (andT (blT (opM eqD (opM ixD (varM 0) (conM (.int 2))) (conM (.int 0)))) (blT (opM ltD (opM ixD (varM 0) (conM (.int 1))) (callM lenD (consA (opM ixD (varM 0) (conM (.int 0))) (nilA)))))) (seqS (asS (opM ixD (opM ixD (varM 0) (conM (.int 0))) (opM ixD (varM 0) (conM (.int 1)))) (nmG 2))
  (seqS (asS (opM addD (opM ixD (varM 0) (conM (.int 1))) (conM (.int 1))) (subG (varM 0) (conM (.int 1))))
  (ifS (blT (opM geD (varM 2) (opM powD (conM (.int 10)) (conM (.int 18))))) (asS (varM 2) (subG (varM 0) (conM (.int 2)))) (asS (opM modD (callM intD (consA (opM addD (opM addD (opM mulD (opM ixD (varM 0) (conM (.int 3))) (conM (.int 40013))) (opM mulD (opM modD (callM intD (consA (varM 2) (nilA))) (conM (.int 2147483563))) (conM (.int 6967)))) (conM (.int 53))) (nilA))) (conM (.int 2147483587))) (subG (varM 0) (conM (.int 3))))))) (nxS))
  (seqS (ifS (blT (opM gtD (opM ixD (varM 0) (conM (.int 2))) (conM (.int 0)))) (seqS (asS (opM modD (callM intD (consA (opM ixD (varM 0) (conM (.int 2))) (nilA))) (varM 1)) (nmG 3))
  (seqS (asS (opM fdivD (opM ixD (varM 0) (conM (.int 2))) (varM 1)) (subG (varM 0) (conM (.int 2))))
  (rtS (varM 3)))) (nxS))
  (seqS (asS (callM intD (consA (opM ixD (varM 0) (conM (.int 3))) (nilA))) (nmG 4))
  (seqS (asS (opM modD (callM intD (consA (opM addD (opM addD (opM addD (opM powD (varM 4) (conM (.int 3))) (opM mulD (varM 4) (conM (.int 30029)))) (opM mulD (opM ixD (varM 0) (conM (.int 4))) (conM (.int 1299827)))) (conM (.int 70001))) (nilA))) (conM (.int 2147483587))) (subG (varM 0) (conM (.int 3))))
  (rtS (opM modD (callM intD (consA (opM addD (opM fdivD (opM ixD (varM 0) (conM (.int 3))) (conM (.int 71))) (opM mulD (opM modD (callM intD (consA (opM ixD (varM 0) (conM (.int 3))) (nilA))) (conM (.int 7907))) (conM (.int 61)))) (nilA))) (varM 1))))))))
def l_of : FM := fnM 2 (
  rtS (opM ixD (varM 1) (apM NP.l_draw (consA (varM 0) (consA (callM lenD (consA (varM 1) (nilA))) (nilA))))))
def l_rang : FM := fnM 2 (
  seqS (ifS (blT (opM eqD (opM ixD (varM 0) (conM (.int 0))) (conM (.str (PySem.Str.ofString "again"))))) (rtS (tupM (consA (varM 1) (consA (opM ixD (varM 1) (conM (.int 1))) (consA (conM (.bl true)) (nilA)))))) (nxS))
  (seqS (ifS (andT (blT (opM eqD (opM ixD (varM 0) (conM (.int 0))) (conM (.str (PySem.Str.ofString "both"))))) (blT (opM isntD (opM ixD (varM 1) (conM (.int 1))) (conM .non)))) (rtS (tupM (consA (tupM (consA (conM (.bl true)) (consA (conM .non) (nilA)))) (consA (opM ixD (varM 1) (conM (.int 1))) (consA (conM (.bl true)) (nilA)))))) (nxS))
  (rtS (tupM (consA (tupM (consA (conM (.bl false)) (consA (conM .non) (nilA)))) (consA (opM ixD (varM 1) (conM (.int 1))) (consA (conM (.bl false)) (nilA))))))))
def b_l_same (rec : FM) : SM :=
  seqS (ifS (orT (blT (opM isD (varM 1) (conM .non))) (blT (opM isD (varM 0) (conM .non)))) (rtS (andM (opM isD (varM 1) (conM .non)) (opM isD (varM 0) (conM .non)))) (nxS))
  (seqS (ifS (truM (callM isiD (consA (varM 1) (consA (tupM (consA (conM (.raw (.ty "list"))) (consA (conM (.raw (.ty "tuple"))) (nilA)))) (nilA))))) (seqS (ifS (orT (blT (opM neD (callM isiD (consA (varM 0) (consA (conM (.raw (.ty "list"))) (nilA)))) (callM isiD (consA (varM 1) (consA (conM (.raw (.ty "list"))) (nilA)))))) (blT (opM neD (callM isiD (consA (varM 0) (consA (conM (.raw (.ty "tuple"))) (nilA)))) (callM isiD (consA (varM 1) (consA (conM (.raw (.ty "tuple"))) (nilA))))))) (rtS (conM (.bl false))) (nxS))
  (rtS (andM (opM eqD (callM lenD (consA (varM 0) (nilA))) (callM lenD (consA (varM 1) (nilA)))) (callM allD (consA (lcM (zipI (consA (varM 0) (consA (varM 1) (nilA)))) (tupG 2 (consG (nmG 2) (consG (nmG 3) (nilG)))) (yesT) (apM rec (consA (varM 2) (consA (varM 3) (nilA)))) [2, 3]) (nilA)))))) (nxS))
  (seqS (ifS (orT (blT (opM neD (callM isiD (consA (varM 0) (consA (conM (.raw (.ty "bool"))) (nilA)))) (callM isiD (consA (varM 1) (consA (conM (.raw (.ty "bool"))) (nilA)))))) (blT (opM neD (callM isiD (consA (varM 0) (consA (conM (.raw (.ty "int"))) (nilA)))) (callM isiD (consA (varM 1) (consA (conM (.raw (.ty "int"))) (nilA))))))) (rtS (conM (.bl false))) (nxS))
  (rtS (andM (opM eqD (callM isiD (consA (varM 0) (consA (conM (.raw (.ty "str"))) (nilA)))) (callM isiD (consA (varM 1) (consA (conM (.raw (.ty "str"))) (nilA))))) (opM eqD (varM 0) (varM 1))))))
def l_same : Nat → FM
  | 0 => fun _ _ => .bad
  | k + 1 => fnM 4 (b_l_same (l_same k))
def l_some_memory : FM := fnM 3 (
  seqS (asS (tupM (consA (apM NP.l_of (consA (varM 0) (consA (lstM (consA (conM (.str (PySem.Str.ofString "a"))) (consA (conM (.str (PySem.Str.ofString "b"))) (consA (conM (.str (PySem.Str.ofString "c"))) (nilA))))) (nilA)))) (consA (apM NP.l_draw (consA (varM 0) (consA (conM (.int 4)) (nilA)))) (nilA)))) (nmG 2))
  (seqS (ifS (blT (opM inD (opM ixD (varM 1) (conM (.int 0))) (lstM (consA (conM (.str (PySem.Str.ofString "pick"))) (consA (conM (.str (PySem.Str.ofString "turn"))) (nilA)))))) (rtS (tupM (consA (conM (.bl false)) (consA (conM .non) (nilA))))) (nxS))
  (seqS (ifS (blT (opM eqD (opM ixD (varM 1) (conM (.int 0))) (conM (.str (PySem.Str.ofString "change"))))) (rtS (tupM (consA (conM (.bl false)) (consA (apM NP.l_of (consA (varM 0) (consA (lstM (consA (conM .non) (consA (conM (.str (PySem.Str.ofString "a"))) (consA (conM (.str (PySem.Str.ofString "b"))) (consA (conM (.str (PySem.Str.ofString "c"))) (nilA)))))) (nilA)))) (nilA))))) (nxS))
  (seqS (ifS (blT (opM eqD (apM NP.l_draw (consA (varM 0) (consA (conM (.int 3)) (nilA)))) (conM (.int 0)))) (rtS (tupM (consA (conM (.bl false)) (consA (conM .non) (nilA))))) (nxS))
  (seqS (ifS (orT (blT (opM eqD (opM ixD (varM 1) (conM (.int 0))) (conM (.str (PySem.Str.ofString "first"))))) (andT (blT (opM eqD (opM ixD (varM 1) (conM (.int 0))) (conM (.str (PySem.Str.ofString "both"))))) (blT (opM eqD (apM NP.l_draw (consA (varM 0) (consA (conM (.int 2)) (nilA)))) (conM (.int 0)))))) (rtS (tupM (consA (conM (.bl true)) (consA (conM .non) (nilA))))) (nxS))
  (rtS (tupM (consA (conM (.bl true)) (consA (varM 2) (nilA))))))))))
def l_timed : FM := fnM 0 (
  rtS (lstM (consA (conM (.str (PySem.Str.ofString "quiet"))) (consA (conM (.str (PySem.Str.ofString "first"))) (consA (conM (.str (PySem.Str.ofString "late"))) (consA (conM (.str (PySem.Str.ofString "hold"))) (consA (conM (.str (PySem.Str.ofString "both"))) (consA (conM (.str (PySem.Str.ofString "again"))) (nilA)))))))))
def rang : FM := fnM 4 (
  seqS (parS 2 3 (consA (opM ixD (varM 0) (conM (.int 0))) (consA (opM ixD (varM 1) (conM (.int 1))) (nilA))))
  (seqS (ifS (blT (opM eqD (varM 2) (conM (.str (PySem.Str.ofString "again"))))) (rtS (tupM (consA (tupM (consA (conM (.bl true)) (consA (varM 3) (nilA)))) (consA (varM 3) (consA (conM (.bl true)) (nilA)))))) (nxS))
  (seqS (ifS (andT (blT (opM eqD (varM 2) (conM (.str (PySem.Str.ofString "both"))))) (blT (opM isntD (varM 3) (conM .non)))) (rtS (tupM (consA (tupM (consA (conM (.bl true)) (consA (conM .non) (nilA)))) (consA (varM 3) (consA (conM (.bl true)) (nilA)))))) (nxS))
  (rtS (tupM (consA (conM (.tup [(.bl false), .non])) (consA (varM 3) (consA (conM (.bl false)) (nilA)))))))))
def law : FM := fnM 10 (
  seqS (asS (apM NP.l_bag (consA (varM 0) (nilA))) (nmG 1))
  (seqS (forS (rngI (consA (conM (.int 16)) (nilA))) (nmG 2) (seqS (asS (tupM (consA (apM NP.l_of (consA (varM 1) (consA (apM0 NP.l_timed) (nilA)))) (consA (opM addD (conM (.int 1)) (apM NP.l_draw (consA (varM 1) (consA (conM (.int 9)) (nilA))))) (nilA)))) (nmG 3))
  (seqS (asS (apM NP.l_some_memory (consA (varM 1) (consA (varM 3) (nilA)))) (nmG 4))
  (ifS (truM (opM ixD (varM 4) (conM (.int 0)))) (seqS (asS (apM NP.l_rang (consA (varM 3) (consA (varM 4) (nilA)))) (nmG 5))
  (ifS (notT (truM (apM (NP.l_same 24) (consA (lstM (consA (apM NP.rang (consA (varM 3) (consA (varM 4) (nilA)))) (consA (kwM0 NP.rang [1, 0] (consA (varM 4) (consA (varM 3) (nilA)))) (nilA)))) (consA (lstM (consA (varM 5) (consA (varM 5) (nilA)))) (nilA)))))) (rtS (conM (.bl false))) (nxS))) (nxS)))))
  (seqS (asS (tupM (consA (conM (.str (PySem.Str.ofString "b"))) (consA (conM (.int 2)) (nilA)))) (nmG 6))
  (seqS (asS (lcM (seqI (apM0 NP.l_timed)) (nmG 9) (yesT) (apM NP.rang (consA (tupM (consA (varM 9) (consA (conM (.int 3)) (nilA)))) (consA (tupM (consA (conM (.bl true)) (consA (ifM (blT (opM eqD (varM 9) (conM (.str (PySem.Str.ofString "first"))))) (conM .non) (varM 6)) (nilA)))) (nilA)))) [9]) (nmG 7))
  (seqS (asS (tupM (consA (conM (.bl false)) (consA (conM .non) (nilA)))) (nmG 8))
  (rtS (apM (NP.l_same 24) (consA (varM 7) (consA (lstM (consA (tupM (consA (varM 8) (consA (varM 6) (consA (conM (.bl false)) (nilA))))) (consA (tupM (consA (varM 8) (consA (conM .non) (consA (conM (.bl false)) (nilA))))) (consA (tupM (consA (varM 8) (consA (varM 6) (consA (conM (.bl false)) (nilA))))) (consA (tupM (consA (varM 8) (consA (varM 6) (consA (conM (.bl false)) (nilA))))) (consA (tupM (consA (tupM (consA (conM (.bl true)) (consA (conM .non) (nilA)))) (consA (varM 6) (consA (conM (.bl true)) (nilA))))) (consA (tupM (consA (tupM (consA (conM (.bl true)) (consA (varM 6) (nilA)))) (consA (varM 6) (consA (conM (.bl true)) (nilA))))) (nilA)))))))) (nilA))))))))))
def l_came : FM := fnM 5 (
  seqS (parS 3 4 (consA (opM ixD (varM 0) (conM (.int 0))) (consA (opM ixD (varM 1) (conM (.int 0))) (nilA))))
  (seqS (ifS (blT (opM eqD (varM 3) (conM (.str (PySem.Str.ofString "pick"))))) (rtS (tupM (consA (varM 1) (consA (ifM (blT (opM inD (opM ixD (varM 2) (conM (.int 0))) (opM ixD (varM 0) (conM (.int 1))))) (varM 2) (conM .non)) (consA (conM (.bl false)) (nilA)))))) (nxS))
  (seqS (ifS (blT (opM eqD (varM 3) (conM (.str (PySem.Str.ofString "turn"))))) (rtS (tupM (consA (varM 1) (consA (ifM (blT (opM eqD (opM ixD (varM 2) (conM (.int 0))) (opM ixD (varM 0) (conM (.int 1))))) (tupM (consA (opM ixD (varM 0) (conM (.int 2))) (consA (opM ixD (varM 2) (conM (.int 1))) (nilA)))) (varM 2)) (consA (conM (.bl false)) (nilA)))))) (nxS))
  (seqS (ifS (blT (opM eqD (varM 3) (conM (.str (PySem.Str.ofString "change"))))) (rtS (ifM (blT (opM eqD (opM ixD (varM 1) (conM (.int 1))) (opM ixD (varM 2) (conM (.int 0))))) (tupM (consA (varM 1) (consA (conM .non) (consA (conM (.bl false)) (nilA))))) (tupM (consA (tupM (consA (conM (.bl false)) (consA (opM ixD (varM 2) (conM (.int 0))) (nilA)))) (consA (varM 2) (consA (conM (.bl false)) (nilA))))))) (nxS))
  (seqS (ifS (blT (opM inD (varM 3) (lstM (consA (conM (.str (PySem.Str.ofString "quiet"))) (consA (conM (.str (PySem.Str.ofString "again"))) (nilA)))))) (rtS (tupM (consA (tupM (consA (conM (.bl true)) (consA (varM 2) (nilA)))) (consA (ifM (blT (opM eqD (varM 3) (conM (.str (PySem.Str.ofString "again"))))) (varM 2) (conM .non)) (consA (conM (.bl true)) (nilA)))))) (nxS))
  (seqS (ifS (blT (opM inD (varM 3) (lstM (consA (conM (.str (PySem.Str.ofString "late"))) (consA (conM (.str (PySem.Str.ofString "hold"))) (nilA)))))) (rtS (tupM (consA (tupM (consA (conM (.bl true)) (consA (ifM (andT (truM (varM 4)) (blT (opM eqD (varM 3) (conM (.str (PySem.Str.ofString "hold")))))) (opM ixD (varM 1) (conM (.int 1))) (varM 2)) (nilA)))) (consA (conM .non) (consA (notM (varM 4)) (nilA)))))) (nxS))
  (seqS (ifS (truM (varM 4)) (rtS (tupM (consA (tupM (consA (conM (.bl true)) (consA (ifM (blT (opM eqD (varM 3) (conM (.str (PySem.Str.ofString "both"))))) (varM 2) (conM .non)) (nilA)))) (consA (conM .non) (consA (conM (.bl false)) (nilA)))))) (nxS))
  (rtS (tupM (consA (tupM (consA (conM (.bl true)) (consA (conM .non) (nilA)))) (consA (varM 2) (consA (conM (.bl true)) (nilA)))))))))))))
def l_mixed : FM := fnM 4 (
  seqS (parS 2 3 (consA (callM listD (consA (varM 1) (nilA))) (consA (lstM (nilA)) (nilA))))
  (seqS (whS fuel0 (blT (opM neD (varM 2) (lstM (nilA)))) (exS (mtM "list" appD (varM 3) (consA (mtM "list" popD (varM 2) (consA (apM NP.l_draw (consA (varM 0) (consA (callM lenD (consA (varM 2) (nilA))) (nilA)))) (nilA))) (nilA)))))
  (rtS (varM 3))))
def l_some_part : FM := fnM 4 (
  seqS (asS (apM NP.l_draw (consA (varM 0) (consA (conM (.int 9)) (nilA)))) (nmG 2))
  (seqS (ifS (blT (opM ltD (varM 2) (conM (.int 6)))) (rtS (tupM (consA (opM ixD (apM0 NP.l_timed) (varM 2)) (consA (opM addD (conM (.int 1)) (apM NP.l_draw (consA (varM 0) (consA (varM 1) (nilA))))) (nilA))))) (nxS))
  (seqS (ifS (blT (opM eqD (varM 2) (conM (.int 6)))) (rtS (tupM (consA (conM (.str (PySem.Str.ofString "change"))) (nilA)))) (nxS))
  (seqS (ifS (blT (opM eqD (varM 2) (conM (.int 7)))) (rtS (tupM (consA (conM (.str (PySem.Str.ofString "pick"))) (consA (apM NP.l_of (consA (varM 0) (consA (lstM (consA (conM (.str (PySem.Str.ofString "a"))) (consA (conM (.str (PySem.Str.ofString "b"))) (consA (conM (.str (PySem.Str.ofString "c"))) (consA (conM (.str (PySem.Str.ofString "ab"))) (consA (conM (.str (PySem.Str.ofString "ac"))) (consA (conM (.str (PySem.Str.ofString "bc"))) (consA (conM (.str (PySem.Str.ofString "abc"))) (nilA))))))))) (nilA)))) (nilA))))) (nxS))
  (seqS (asS (apM NP.l_mixed (consA (varM 0) (consA (lstM (consA (conM (.str (PySem.Str.ofString "a"))) (consA (conM (.str (PySem.Str.ofString "b"))) (consA (conM (.str (PySem.Str.ofString "c"))) (nilA))))) (nilA)))) (nmG 3))
  (rtS (tupM (consA (conM (.str (PySem.Str.ofString "turn"))) (consA (opM ixD (varM 3) (conM (.int 0))) (consA (opM ixD (varM 3) (conM (.int 1))) (nilA)))))))))))
def timed_came : FM := fnM 4 (
  seqS (ifS (blT (opM eqD (varM 0) (conM (.str (PySem.Str.ofString "quiet"))))) (rtS (tupM (consA (tupM (consA (conM (.bl true)) (consA (varM 3) (nilA)))) (consA (conM .non) (consA (conM (.bl true)) (nilA)))))) (nxS))
  (seqS (ifS (blT (opM eqD (varM 0) (conM (.str (PySem.Str.ofString "again"))))) (rtS (tupM (consA (tupM (consA (conM (.bl true)) (consA (varM 3) (nilA)))) (consA (varM 3) (consA (conM (.bl true)) (nilA)))))) (nxS))
  (seqS (ifS (blT (opM eqD (varM 0) (conM (.str (PySem.Str.ofString "late"))))) (rtS (tupM (consA (tupM (consA (conM (.bl true)) (consA (varM 3) (nilA)))) (consA (conM .non) (consA (notM (varM 1)) (nilA)))))) (nxS))
  (seqS (ifS (blT (opM eqD (varM 0) (conM (.str (PySem.Str.ofString "hold"))))) (rtS (ifM (truM (varM 1)) (tupM (consA (varM 2) (consA (conM .non) (consA (conM (.bl false)) (nilA))))) (tupM (consA (tupM (consA (conM (.bl true)) (consA (varM 3) (nilA)))) (consA (conM .non) (consA (conM (.bl true)) (nilA))))))) (nxS))
  (seqS (ifS (notT (truM (varM 1))) (rtS (tupM (consA (tupM (consA (conM (.bl true)) (consA (conM .non) (nilA)))) (consA (varM 3) (consA (conM (.bl true)) (nilA)))))) (nxS))
  (rtS (ifM (blT (opM eqD (varM 0) (conM (.str (PySem.Str.ofString "both"))))) (tupM (consA (tupM (consA (conM (.bl true)) (consA (varM 3) (nilA)))) (consA (conM .non) (consA (conM (.bl false)) (nilA))))) (tupM (consA (varM 2) (consA (conM .non) (consA (conM (.bl false)) (nilA))))))))))))
def came : FM := fnM 5 (
  seqS (parS 3 4 (consA (opM ixD (varM 0) (conM (.int 0))) (consA (opM ixD (varM 1) (conM (.int 0))) (nilA))))
  (seqS (ifS (blT (opM inD (varM 3) (conM (.tup [(.str (PySem.Str.ofString "quiet")), (.str (PySem.Str.ofString "first")), (.str (PySem.Str.ofString "late")), (.str (PySem.Str.ofString "hold")), (.str (PySem.Str.ofString "both")), (.str (PySem.Str.ofString "again"))])))) (rtS (apM NP.timed_came (consA (varM 3) (consA (varM 4) (consA (varM 1) (consA (varM 2) (nilA))))))) (nxS))
  (seqS (ifS (blT (opM eqD (varM 3) (conM (.str (PySem.Str.ofString "change"))))) (rtS (ifM (blT (opM eqD (opM ixD (varM 1) (conM (.int 1))) (opM ixD (varM 2) (conM (.int 0))))) (tupM (consA (varM 1) (consA (conM .non) (consA (conM (.bl false)) (nilA))))) (tupM (consA (tupM (consA (conM (.bl false)) (consA (opM ixD (varM 2) (conM (.int 0))) (nilA)))) (consA (varM 2) (consA (conM (.bl false)) (nilA))))))) (nxS))
  (seqS (ifS (blT (opM eqD (varM 3) (conM (.str (PySem.Str.ofString "pick"))))) (rtS (tupM (consA (varM 1) (consA (ifM (blT (opM inD (opM ixD (varM 2) (conM (.int 0))) (opM ixD (varM 0) (conM (.int 1))))) (varM 2) (conM .non)) (consA (conM (.bl false)) (nilA)))))) (nxS))
  (rtS (tupM (consA (varM 1) (consA (ifM (blT (opM eqD (opM ixD (varM 2) (conM (.int 0))) (opM ixD (varM 0) (conM (.int 1))))) (tupM (consA (opM ixD (varM 0) (conM (.int 2))) (consA (opM ixD (varM 2) (conM (.int 1))) (nilA)))) (varM 2)) (consA (conM (.bl false)) (nilA))))))))))
def law_2 : FM := fnM 7 (
  seqS (asS (apM NP.l_bag (consA (varM 0) (nilA))) (nmG 1))
  (seqS (forS (rngI (consA (conM (.int 20)) (nilA))) (nmG 2) (seqS (asS (apM NP.l_some_part (consA (varM 1) (consA (conM (.int 9)) (nilA)))) (nmG 3))
  (seqS (parS 4 5 (consA (apM NP.l_some_memory (consA (varM 1) (consA (varM 3) (nilA)))) (consA (tupM (consA (apM NP.l_of (consA (varM 1) (consA (lstM (consA (conM (.str (PySem.Str.ofString "a"))) (consA (conM (.str (PySem.Str.ofString "b"))) (consA (conM (.str (PySem.Str.ofString "c"))) (nilA))))) (nilA)))) (consA (apM NP.l_draw (consA (varM 1) (consA (conM (.int 4)) (nilA)))) (nilA)))) (nilA))))
  (seqS (asS (apM NP.l_came (consA (varM 3) (consA (varM 4) (consA (varM 5) (nilA))))) (nmG 6))
  (ifS (notT (truM (apM (NP.l_same 24) (consA (lstM (consA (apM NP.came (consA (varM 3) (consA (varM 4) (consA (varM 5) (nilA))))) (consA (kwM0 NP.came [2, 1, 0] (consA (varM 5) (consA (varM 4) (consA (varM 3) (nilA))))) (nilA)))) (consA (lstM (consA (varM 6) (consA (varM 6) (nilA)))) (nilA)))))) (rtS (conM (.bl false))) (nxS))))))
  (rtS (conM (.bl true)))))
def l_are_letters : FM := fnM 1 (
  rtS (andM (callM isiD (consA (varM 0) (consA (conM (.raw (.ty "str"))) (nilA)))) (opM inD (varM 0) (lstM (consA (conM (.str (PySem.Str.ofString "a"))) (consA (conM (.str (PySem.Str.ofString "b"))) (consA (conM (.str (PySem.Str.ofString "c"))) (consA (conM (.str (PySem.Str.ofString "ab"))) (consA (conM (.str (PySem.Str.ofString "ac"))) (consA (conM (.str (PySem.Str.ofString "bc"))) (consA (conM (.str (PySem.Str.ofString "abc"))) (nilA))))))))))))
def l_is_letter : FM := fnM 1 (
  rtS (andM (callM isiD (consA (varM 0) (consA (conM (.raw (.ty "str"))) (nilA)))) (opM inD (varM 0) (lstM (consA (conM (.str (PySem.Str.ofString "a"))) (consA (conM (.str (PySem.Str.ofString "b"))) (consA (conM (.str (PySem.Str.ofString "c"))) (nilA))))))))
def l_is_number : FM := fnM 1 (
  rtS (andM (callM isiD (consA (varM 0) (consA (conM (.raw (.ty "int"))) (nilA)))) (notM (callM isiD (consA (varM 0) (consA (conM (.raw (.ty "bool"))) (nilA)))))))
def l_is_part : FM := fnM 2 (
  seqS (ifS (orT (notT (truM (callM isiD (consA (varM 0) (consA (conM (.raw (.ty "tuple"))) (nilA)))))) (orT (blT (opM eqD (callM lenD (consA (varM 0) (nilA))) (conM (.int 0)))) (notT (truM (callM isiD (consA (opM ixD (varM 0) (conM (.int 0))) (consA (conM (.raw (.ty "str"))) (nilA)))))))) (rtS (conM (.bl false))) (nxS))
  (seqS (ifS (blT (opM inD (opM ixD (varM 0) (conM (.int 0))) (apM0 NP.l_timed))) (rtS (andM (opM eqD (callM lenD (consA (varM 0) (nilA))) (conM (.int 2))) (andM (apM NP.l_is_number (consA (opM ixD (varM 0) (conM (.int 1))) (nilA))) (chM leD leD (conM (.int 1)) (opM ixD (varM 0) (conM (.int 1))) (conM (.int 9)))))) (nxS))
  (seqS (ifS (blT (opM eqD (opM ixD (varM 0) (conM (.int 0))) (conM (.str (PySem.Str.ofString "pick"))))) (rtS (andM (opM eqD (callM lenD (consA (varM 0) (nilA))) (conM (.int 2))) (apM NP.l_are_letters (consA (opM ixD (varM 0) (conM (.int 1))) (nilA))))) (nxS))
  (seqS (ifS (blT (opM eqD (opM ixD (varM 0) (conM (.int 0))) (conM (.str (PySem.Str.ofString "turn"))))) (seqS (asS (andM (opM eqD (callM lenD (consA (varM 0) (nilA))) (conM (.int 3))) (andM (apM NP.l_is_letter (consA (opM ixD (varM 0) (conM (.int 1))) (nilA))) (apM NP.l_is_letter (consA (opM ixD (varM 0) (conM (.int 2))) (nilA))))) (nmG 1))
  (rtS (andM (varM 1) (opM neD (opM ixD (varM 0) (conM (.int 1))) (opM ixD (varM 0) (conM (.int 2))))))) (nxS))
  (rtS (andM (opM eqD (opM ixD (varM 0) (conM (.int 0))) (conM (.str (PySem.Str.ofString "change")))) (opM eqD (callM lenD (consA (varM 0) (nilA))) (conM (.int 1)))))))))
def l_odd_part : FM := fnM 3 (
  seqS (asS (apM NP.l_of (consA (varM 0) (consA (apM0 NP.l_timed) (nilA)))) (nmG 1))
  (seqS (asS (lstM (consA (conM .non) (consA (conM (.int 3)) (consA (conM (.str (PySem.Str.ofString ""))) (consA (conM (.str (PySem.Str.ofString "change"))) (consA (tupM (nilA)) (consA (tupM (consA (conM (.str (PySem.Str.ofString "change"))) (consA (conM (.int 1)) (nilA)))) (consA (lstM (consA (conM (.str (PySem.Str.ofString "change"))) (nilA))) (consA (tupM (consA (varM 1) (nilA))) (consA (tupM (consA (varM 1) (consA (conM (.int 0)) (nilA)))) (consA (tupM (consA (varM 1) (consA (conM (.int 10)) (nilA)))) (consA (tupM (consA (varM 1) (consA (conM (.bl true)) (nilA)))) (consA (tupM (consA (varM 1) (consA (conM (.str (PySem.Str.ofString "2"))) (nilA)))) (consA (tupM (consA (varM 1) (consA (conM (.int 2)) (consA (conM (.int 2)) (nilA))))) (consA (lstM (consA (varM 1) (consA (conM (.int 2)) (nilA)))) (consA (tupM (consA (conM (.str (PySem.Str.ofString "Quiet"))) (consA (conM (.int 2)) (nilA)))) (consA (tupM (consA (conM (.str (PySem.Str.ofString "pick"))) (consA (conM (.str (PySem.Str.ofString ""))) (nilA)))) (consA (tupM (consA (conM (.str (PySem.Str.ofString "pick"))) (consA (conM (.str (PySem.Str.ofString "ba"))) (nilA)))) (consA (tupM (consA (conM (.str (PySem.Str.ofString "pick"))) (consA (conM (.str (PySem.Str.ofString "aa"))) (nilA)))) (nilA)))))))))))))))))))) (nmG 2))
  (seqS (asS (opM addD (varM 2) (lstM (consA (tupM (consA (conM (.str (PySem.Str.ofString "pick"))) (consA (conM (.str (PySem.Str.ofString "d"))) (nilA)))) (consA (tupM (consA (conM (.str (PySem.Str.ofString "pick"))) (consA (lstM (consA (conM (.str (PySem.Str.ofString "a"))) (nilA))) (nilA)))) (consA (tupM (consA (conM (.str (PySem.Str.ofString "pick"))) (nilA))) (consA (tupM (consA (conM (.str (PySem.Str.ofString "turn"))) (consA (conM (.str (PySem.Str.ofString "a"))) (consA (conM (.str (PySem.Str.ofString "a"))) (nilA))))) (consA (tupM (consA (conM (.str (PySem.Str.ofString "turn"))) (consA (conM (.str (PySem.Str.ofString "a"))) (nilA)))) (consA (tupM (consA (conM (.str (PySem.Str.ofString "turn"))) (consA (conM (.str (PySem.Str.ofString "a"))) (consA (conM (.str (PySem.Str.ofString "d"))) (nilA))))) (consA (tupM (consA (conM (.str (PySem.Str.ofString "turn"))) (consA (conM (.str (PySem.Str.ofString "ab"))) (consA (conM (.str (PySem.Str.ofString "c"))) (nilA))))) (consA (tupM (consA (conM (.str (PySem.Str.ofString "turn"))) (consA (conM (.str (PySem.Str.ofString "a"))) (consA (conM .non) (nilA))))) (consA (tupM (consA (varM 1) (consA (conM .non) (nilA)))) (consA (tupM (consA (lstM (consA (conM (.str (PySem.Str.ofString "quiet"))) (nilA))) (consA (conM (.int 2)) (nilA)))) (consA (tupM (consA (conM (.str (PySem.Str.ofString "pick"))) (consA (conM (.str (PySem.Str.ofString "abcd"))) (nilA)))) (consA (tupM (consA (varM 1) (consA (negM (conM (.int 1))) (nilA)))) (nilA))))))))))))))) (nmG 2))
  (rtS (apM NP.l_of (consA (varM 0) (consA (varM 2) (nilA))))))))
def is_letter : FM := fnM 1 (
  rtS (andM (callM isiD (consA (varM 0) (consA (conM (.raw (.ty "str"))) (nilA)))) (andM (opM eqD (callM lenD (consA (varM 0) (nilA))) (conM (.int 1))) (opM inD (varM 0) (conM (.str (PySem.Str.ofString "abc")))))))
def are_letters : FM := fnM 2 (
  seqS (ifS (orT (notT (truM (callM isiD (consA (varM 0) (consA (conM (.raw (.ty "str"))) (nilA)))))) (orT (blT (opM eqD (varM 0) (conM (.str (PySem.Str.ofString ""))))) (notT (truM (callM allD (consA (lcM (seqI (varM 0)) (nmG 1) (yesT) (apM NP.is_letter (consA (varM 1) (nilA))) [1]) (nilA))))))) (rtS (conM (.bl false))) (nxS))
  (rtS (opM eqD (mtM "str" joinD (conM (.str (PySem.Str.ofString ""))) (consA (srtM (varM 0)) (nilA))) (varM 0))))
def is_number : FM := fnM 1 (
  rtS (andM (callM isiD (consA (varM 0) (consA (conM (.raw (.ty "int"))) (nilA)))) (notM (callM isiD (consA (varM 0) (consA (conM (.raw (.ty "bool"))) (nilA)))))))
def is_between : FM := fnM 3 (
  rtS (andM (apM NP.is_number (consA (varM 0) (nilA))) (chM leD leD (varM 1) (varM 0) (varM 2))))
def is_part : FM := fnM 1 (
  seqS (ifS (orT (notT (truM (callM isiD (consA (varM 0) (consA (conM (.raw (.ty "tuple"))) (nilA)))))) (orT (blT (opM eqD (varM 0) (tupM (nilA)))) (notT (truM (callM isiD (consA (opM ixD (varM 0) (conM (.int 0))) (consA (conM (.raw (.ty "str"))) (nilA)))))))) (rtS (conM (.bl false))) (nxS))
  (seqS (ifS (blT (opM inD (opM ixD (varM 0) (conM (.int 0))) (conM (.tup [(.str (PySem.Str.ofString "quiet")), (.str (PySem.Str.ofString "first")), (.str (PySem.Str.ofString "late")), (.str (PySem.Str.ofString "hold")), (.str (PySem.Str.ofString "both")), (.str (PySem.Str.ofString "again"))])))) (rtS (andM (opM eqD (callM lenD (consA (varM 0) (nilA))) (conM (.int 2))) (apM NP.is_between (consA (opM ixD (varM 0) (conM (.int 1))) (consA (conM (.int 1)) (consA (conM (.int 9)) (nilA))))))) (nxS))
  (seqS (ifS (blT (opM eqD (opM ixD (varM 0) (conM (.int 0))) (conM (.str (PySem.Str.ofString "pick"))))) (rtS (andM (opM eqD (callM lenD (consA (varM 0) (nilA))) (conM (.int 2))) (apM NP.are_letters (consA (opM ixD (varM 0) (conM (.int 1))) (nilA))))) (nxS))
  (seqS (ifS (blT (opM eqD (opM ixD (varM 0) (conM (.int 0))) (conM (.str (PySem.Str.ofString "turn"))))) (rtS (andM (opM eqD (callM lenD (consA (varM 0) (nilA))) (conM (.int 3))) (andM (apM NP.is_letter (consA (opM ixD (varM 0) (conM (.int 1))) (nilA))) (andM (apM NP.is_letter (consA (opM ixD (varM 0) (conM (.int 2))) (nilA))) (opM neD (opM ixD (varM 0) (conM (.int 1))) (opM ixD (varM 0) (conM (.int 2)))))))) (nxS))
  (rtS (opM eqD (varM 0) (tupM (consA (conM (.str (PySem.Str.ofString "change"))) (nilA)))))))))
def is_timed : FM := fnM 1 (
  rtS (opM inD (opM ixD (varM 0) (conM (.int 0))) (conM (.tup [(.str (PySem.Str.ofString "quiet")), (.str (PySem.Str.ofString "first")), (.str (PySem.Str.ofString "late")), (.str (PySem.Str.ofString "hold")), (.str (PySem.Str.ofString "both")), (.str (PySem.Str.ofString "again"))]))))
def wait_of : FM := fnM 1 (
  rtS (ifM (truM (apM NP.is_timed (consA (varM 0) (nilA)))) (opM ixD (varM 0) (conM (.int 1))) (conM .non)))
def law_3 : FM := fnM 7 (
  seqS (asS (apM NP.l_bag (consA (varM 0) (nilA))) (nmG 1))
  (seqS (forS (rngI (consA (conM (.int 12)) (nilA))) (nmG 2) (seqS (parS 3 4 (consA (apM NP.l_some_part (consA (varM 1) (consA (conM (.int 9)) (nilA)))) (consA (apM NP.l_odd_part (consA (varM 1) (nilA))) (nilA))))
  (seqS (asS (lstM (consA (apM NP.is_part (consA (varM 3) (nilA))) (consA (kwM0 NP.is_part [0] (consA (varM 4) (nilA))) (consA (apM NP.is_timed (consA (varM 3) (nilA))) (consA (apM NP.wait_of (consA (varM 3) (nilA))) (nilA)))))) (nmG 5))
  (seqS (asS (opM inD (opM ixD (varM 3) (conM (.int 0))) (apM0 NP.l_timed)) (nmG 6))
  (ifS (notT (truM (apM (NP.l_same 24) (consA (varM 5) (consA (lstM (consA (conM (.bl true)) (consA (apM NP.l_is_part (consA (varM 4) (nilA))) (consA (varM 6) (consA (ifM (truM (varM 6)) (opM ixD (varM 3) (conM (.int 1))) (conM .non)) (nilA)))))) (nilA)))))) (rtS (conM (.bl false))) (nxS))))))
  (rtS (apM (NP.l_same 24) (consA (lstM (consA (conM (.str (PySem.Str.ofString "abc"))) (consA (conM (.tup [(.str (PySem.Str.ofString "quiet")), (.str (PySem.Str.ofString "first")), (.str (PySem.Str.ofString "late")), (.str (PySem.Str.ofString "hold")), (.str (PySem.Str.ofString "both")), (.str (PySem.Str.ofString "again"))])) (nilA)))) (consA (lstM (consA (conM (.str (PySem.Str.ofString "abc"))) (consA (callM tupleD (consA (apM0 NP.l_timed) (nilA))) (nilA)))) (nilA)))))))
end NP
set_option maxRecDepth 100000
set_option maxHeartbeats 1000000
namespace NL
open PySem PySem.Spec L2
/-! ### what the combinators do -/
section
variable (e : LE) (lh : LH)
@[simp] theorem conM_ap (d : D) : conM d e lh = .ok d lh := rfl
theorem varM_ap (i : Nat) {d : D} (h : e[i]? = some (some d)) : varM i e lh = .ok d lh := by unfold varM; rw [h]
@[simp] theorem varM_0 (d : D) (r : LE) : varM 0 (some d :: r) lh = .ok d lh := rfl
@[simp] theorem varM_s (i : Nat) (o : Option D) (r : LE) : varM (i + 1) (o :: r) lh = varM i r lh := by unfold varM; simp
@[simp] theorem opM_ap (f : D → D → LH → Re D) (ma mb : M) : opM f ma mb e lh = (ma e lh).bind fun a l1 => (mb e l1).bind fun b l2 => f a b l2 := rfl
@[simp] theorem blT_ap (m : M) : blT m e lh = (m e lh).bind fun d l => match d with | .bl k => .ok k l | _ => .bad := rfl
@[simp] theorem truM_ap (m : M) : truM m e lh = (m e lh).bind fun d l => match truD l d with | some k => .ok k l | none => .bad := rfl
@[simp] theorem andT_ap (t u : MT) : andT t u e lh = (t e lh).bind fun k l => if k = true then u e l else .ok false l := rfl
@[simp] theorem orT_ap (t u : MT) : orT t u e lh = (t e lh).bind fun k l => if k = true then .ok true l else u e l := rfl
@[simp] theorem notT_ap (t : MT) : notT t e lh = (t e lh).bind fun k l => .ok (!k) l := rfl
@[simp] theorem andM_ap (ma mb : M) : andM ma mb e lh = (ma e lh).bind fun d l => match truD l d with | some k => if k = true then mb e l else .ok d l | none => .bad := rfl
@[simp] theorem orM_ap (ma mb : M) : orM ma mb e lh = (ma e lh).bind fun d l => match truD l d with | some k => if k = true then .ok d l else mb e l | none => .bad := rfl
@[simp] theorem notM_ap (ma : M) : notM ma e lh = (ma e lh).bind fun d l => match truD l d with | some k => .ok (.bl (!k)) l | none => .bad := rfl
@[simp] theorem ifM_ap (t : MT) (ma mb : M) : ifM t ma mb e lh = (t e lh).bind fun k l => if k = true then ma e l else mb e l := rfl
@[simp] theorem chM_ap (f g : D → D → LH → Re D) (ma mb mc : M) : chM f g ma mb mc e lh = (ma e lh).bind fun a l1 => (mb e l1).bind fun b l2 => (f a b l2).bind fun z l3 => match z with
  | .bl k => if k = true then (mc e l3).bind fun c l4 => g b c l4 else .ok (.bl false) l3
  | _ => .bad := rfl
@[simp] theorem nilA_ap : nilA e lh = .ok [] lh := rfl
@[simp] theorem consA_ap (ma : M) (mr : MA) : consA ma mr e lh = (ma e lh).bind fun d l => (mr e l).bind fun ds l2 => .ok (d :: ds) l2 := rfl
@[simp] theorem tupM_ap (ma : MA) : tupM ma e lh = (ma e lh).bind fun ds l => .ok (.tup ds) l := rfl
@[simp] theorem lstM_ap (ma : MA) : lstM ma e lh = (ma e lh).bind fun ds l => .ok (.loc l.length) (l ++ [.lst ds]) := rfl
@[simp] theorem callM_ap (g : List D → LH → Re D) (ma : MA) : callM g ma e lh = (ma e lh).bind fun ds l => g ds l := rfl
@[simp] theorem apM_ap (g : FM) (ma : MA) : apM g ma e lh = (ma e lh).bind fun ds l => g ds l := rfl
@[simp] theorem apM0_ap (g : FM) : apM0 g e lh = g [] lh := rfl
@[simp] theorem kwM_ap (m : FM) (ix : List Nat) (ma mk : MA) : kwM m ix ma mk e lh = (ma e lh).bind fun ds l => (mk e l).bind fun es l2 => m (pick ix (ds ++ es)) l2 := rfl
@[simp] theorem kwM0_ap (m : FM) (ix : List Nat) (mk : MA) : kwM0 m ix mk e lh = (mk e lh).bind fun es l2 => m (pick ix es) l2 := rfl
@[simp] theorem mtM_ap (T : String) (f : D → List D → LH → Re D) (mo : M) (ma : MA) : mtM T f mo ma e lh = (mo e lh).bind fun o l1 => if tyOk T o l1 = true then (ma e l1).bind fun ds l2 => f o ds l2 else .bad := rfl
@[simp] theorem noM_ap : noM e lh = .ok none lh := rfl
@[simp] theorem soM_ap (m : M) : soM m e lh = (m e lh).bind fun d l => match d with | .int i => .ok (some i) l | _ => .bad := rfl
@[simp] theorem slM_ap (ma : M) (ml mh : MO) : slM ma ml mh e lh = (ma e lh).bind fun d l => (ml e l).bind fun lo l2 => (mh e l2).bind fun hi l3 => slD d lo hi l3 := rfl
@[simp] theorem yesT_ap : yesT e lh = .ok true lh := rfl
@[simp] theorem seqS_ap (m1 m2 : SM) : seqS m1 m2 e lh = (m1 e lh).bd m2 := rfl
@[simp] theorem nxS_ap : nxS e lh = .nx e lh := rfl
@[simp] theorem bkS_ap : bkS e lh = .bk e lh := rfl
@[simp] theorem ctS_ap : ctS e lh = .ct e lh := rfl
@[simp] theorem rtN_ap : rtN e lh = .rt .non lh := rfl
@[simp] theorem exS_ap (m : M) : exS m e lh = toS e (fun _ l => .nx e l) (m e lh) := rfl
@[simp] theorem rtS_ap (m : M) : rtS m e lh = toS e (fun d l => .rt d l) (m e lh) := rfl
@[simp] theorem ifS_ap (t : MT) (m1 m2 : SM) : ifS t m1 m2 e lh = toSB e (fun k l => if k = true then m1 e l else m2 e l) (t e lh) := rfl
@[simp] theorem asS_ap (m : M) (g : TM) : asS m g e lh = toS e (fun d l => g d e l) (m e lh) := rfl
@[simp] theorem nmG_ap (i : Nat) (d : D) : nmG i d e lh = .nx (e.set i (some d)) lh := rfl
@[simp] theorem subG_ap (mo mi : M) (d : D) : subG mo mi d e lh = toS e (fun o l1 => toS e (fun i l2 => setR o i d e l2) (mi e l1)) (mo e lh) := rfl
@[simp] theorem nilG_ap : nilG [] e lh = .nx e lh := rfl
@[simp] theorem consG_ap (g : TM) (gs : TMs) (d : D) (r : List D) : consG g gs (d :: r) e lh = (g d e lh).bd (gs r) := rfl
theorem tupG_tup (n : Nat) (gs : TMs) (ds : List D) : tupG n gs (.tup ds) e lh = if ds.length = n then gs ds e lh else .bad := rfl
@[simp] theorem toSA_ok (f : List D → LH → RS) (d : List D) : toSA e f (.ok d lh) = f d lh := rfl
@[simp] theorem toSA_er (f : List D → LH → RS) (x : Ex) : toSA e f (.er x lh) = .er x e lh := rfl
@[simp] theorem toSA_bad (f : List D → LH → RS) : toSA e f .bad = .bad := rfl
@[simp] theorem parS_ap (i j : Nat) (ma : MA) : parS i j ma e lh = toSA e (fun ds l => match ds with | [a, b] => .nx ((e.set i (some a)).set j (some b)) l | _ => .bad) (ma e lh) := rfl
@[simp] theorem forS_ap (mi : MI) (g : TM) (body : SM) : forS mi g body e lh = toSI e (fun it l => forN it.nx g body it.fuel 0 e l) (mi e lh) := rfl
@[simp] theorem seqI_ap (m : M) : seqI m e lh = (m e lh).bind fun d l => match d with
  | .tup xs => .ok (itT xs) l
  | .str z => .ok (itS z) l
  | d => match sq l d with | some xs => .ok (itL d xs) l | none => .bad := rfl
@[simp] theorem fnM_ap (n : Nat) (m : SM) (ds : List D) : fnM n m ds lh = finM (m (stD n ds) lh) := rfl
@[simp] theorem stD_0 (n : Nat) : stD n [] = List.replicate n none := by unfold stD; simp
@[simp] theorem stD_s (n : Nat) (d : D) (ds : List D) : stD (n + 1) (d :: ds) = some d :: stD n ds := by unfold stD; simp
end
/-! ### data -/
section
variable (lh : LH)
@[simp] theorem addD_int (i j : Int) : addD (.int i) (.int j) lh = .ok (.int (i + j)) lh := rfl
@[simp] theorem subD_int (i j : Int) : subD (.int i) (.int j) lh = .ok (.int (i - j)) lh := rfl
@[simp] theorem ltD_int (i j : Int) : ltD (.int i) (.int j) lh = .ok (.bl (decide (i < j))) lh := rfl
@[simp] theorem leD_int (i j : Int) : leD (.int i) (.int j) lh = .ok (.bl (decide (i ≤ j))) lh := rfl
@[simp] theorem gtD_int (i j : Int) : gtD (.int i) (.int j) lh = .ok (.bl (decide (j < i))) lh := rfl
@[simp] theorem geD_int (i j : Int) : geD (.int i) (.int j) lh = .ok (.bl (decide (j ≤ i))) lh := rfl
theorem modD_int (i j : Int) (h : 0 < j) : modD (.int i) (.int j) lh = .ok (.int (i % j)) lh := by
  show (if 0 < j then _ else _) = _
  rw [if_pos h]
theorem fdivD_int (i j : Int) (h : 0 < j ∧ j < 1073741824) : fdivD (.int i) (.int j) lh = .ok (.int (i / j)) lh := by
  show (if CDiv i j then _ else _) = _
  rw [if_pos (show CDiv i j from h)]
theorem mulD_int (i j : Int) (h : CMul i j) : mulD (.int i) (.int j) lh = .ok (.int (i * j)) lh := by
  show (if CMul i j then _ else _) = _
  rw [if_pos h]
theorem powD_int (i j : Int) (h : CPow i j) : powD (.int i) (.int j) lh = .ok (.int (i ^ j.toNat)) lh := by
  show (if CPow i j then _ else _) = _
  rw [if_pos h]
@[simp] theorem intD_int (i : Int) : intD [.int i] lh = .ok (.int i) lh := rfl
@[simp] theorem intD_bl (k : Bool) : intD [.bl k] lh = .ok (.int (if k then 1 else 0)) lh := rfl
@[simp] theorem isD_non (d : D) (h : ∀ v, d ≠ .raw v) : isD d .non lh = .ok (.bl (isNon d)) lh := by
  cases d <;> first | rfl | exact absurd rfl (h _)
@[simp] theorem isntD_non (d : D) (h : ∀ v, d ≠ .raw v) : isntD d .non lh = .ok (.bl (!isNon d)) lh := by
  cases d <;> first | rfl | exact absurd rfl (h _)
@[simp] theorem isNon_non : isNon .non = true := rfl
@[simp] theorem isNon_bl (b) : isNon (.bl b) = false := rfl
@[simp] theorem isNon_int (b) : isNon (.int b) = false := rfl
@[simp] theorem isNon_str (b) : isNon (.str b) = false := rfl
@[simp] theorem isNon_tup (b) : isNon (.tup b) = false := rfl
@[simp] theorem isNon_loc (b) : isNon (.loc b) = false := rfl
@[simp] theorem isNon_fl (b) : isNon (.fl b) = false := rfl
@[simp] theorem truD_bl (b : Bool) : truD lh (.bl b) = some b := rfl
@[simp] theorem truD_non : truD lh .non = some false := rfl
@[simp] theorem truD_int (i : Int) : truD lh (.int i) = some (i != 0) := rfl
/-! ### data read off -/
@[simp] theorem rd_non (n : Nat) : rd lh n .non = some .none := by cases n <;> rfl
@[simp] theorem rd_bl (n : Nat) (b : Bool) : rd lh n (.bl b) = some (.bool b) := by cases n <;> rfl
@[simp] theorem rd_int (n : Nat) (b : Int) : rd lh n (.int b) = some (.int b) := by cases n <;> rfl
@[simp] theorem rd_str (n : Nat) (b : Str) : rd lh n (.str b) = some (.str b) := by cases n <;> rfl
theorem rd_tup (n : Nat) (ds : List D) : rd lh (n + 1) (.tup ds) = (ds.mapM (rd lh n)).map .tuple := rfl
theorem rd_fl (n : Nat) (ds : List D) : rd lh (n + 1) (.fl ds) = (ds.mapM (rd lh n)).map .list := rfl
theorem rd_loc (n k : Nat) (xs : List D) (h : lh[k]? = some (.lst xs)) : rd lh (n + 1) (.loc k) = (xs.mapM (rd lh n)).map .list := by
  show (match lh[k]? with | some (.lst xs) => (xs.mapM (rd lh n)).map PyData.list | none => none) = _
  rw [h]
@[simp] theorem shaped_int (i : Int) : SeqAt.shaped (.int i) = true := by simp [SeqAt.shaped, PyData.canLay0, PyData.depth]
@[simp] theorem shaped_bl (i : Bool) : SeqAt.shaped (.bool i) = true := by simp [SeqAt.shaped, PyData.canLay0, PyData.depth]
@[simp] theorem shaped_non : SeqAt.shaped .none = true := by simp [SeqAt.shaped, PyData.canLay0, PyData.depth]
@[simp] theorem eqD_int (i j : Int) : eqD (.int i) (.int j) lh = .ok (.bl (i == j)) lh := by simp [eqD, eqR, PyData.eqv]
@[simp] theorem eqD_bl (i j : Bool) : eqD (.bl i) (.bl j) lh = .ok (.bl (i == j)) lh := by simp [eqD, eqR, PyData.eqv]
@[simp] theorem eqD_str (i j : Str) : eqD (.str i) (.str j) lh = .ok (.bl (decide (i = j))) lh := rfl
@[simp] theorem neD_int (i j : Int) : neD (.int i) (.int j) lh = .ok (.bl (!(i == j))) lh := by simp [neD, eqR, PyData.eqv]
@[simp] theorem neD_bl (i j : Bool) : neD (.bl i) (.bl j) lh = .ok (.bl (!(i == j))) lh := by simp [neD, eqR, PyData.eqv]
@[simp] theorem neD_str (i j : Str) : neD (.str i) (.str j) lh = .ok (.bl (!decide (i = j))) lh := rfl
/-! ### subscripts -/
theorem ixD_tup {ds : List D} {i : Int} {d : D} (h : atI ds i = some d) : ixD (.tup ds) (.int i) lh = .ok d lh := by
  show (match atI ds i with | some d => Re.ok d lh | none => .bad) = _
  rw [h]
theorem ixD_loc {n : Nat} {ds : List D} {i : Int} {d : D} (h0 : lh[n]? = some (.lst ds)) (h : atI ds i = some d) : ixD (.loc n) (.int i) lh = .ok d lh := by
  show (match sq lh (.loc n) with | some ds => (match atI ds i with | some d => Re.ok d lh | none => .bad) | none => .bad) = _
  rw [sq_loc, h0]
  dsimp only
  rw [h]
@[simp] theorem atI_0 {a : Type} (x : a) (r : List a) : atI (x :: r) (0 : Int) = some x := atI_nat (j := 0) rfl
@[simp] theorem atI_1 {a : Type} (x y : a) (r : List a) : atI (x :: y :: r) (1 : Int) = some y := atI_nat (j := 1) rfl
@[simp] theorem atI_2 {a : Type} (x y z : a) (r : List a) : atI (x :: y :: z :: r) (2 : Int) = some z := atI_nat (j := 2) rfl
@[simp] theorem atI_3 {a : Type} (x y z u : a) (r : List a) : atI (x :: y :: z :: u :: r) (3 : Int) = some u := atI_nat (j := 3) rfl
@[simp] theorem atI_4 {a : Type} (x y z u v : a) (r : List a) : atI (x :: y :: z :: u :: v :: r) (4 : Int) = some v := atI_nat (j := 4) rfl
theorem atI_pos {a : Type} (xs : List a) (i : Nat) (h : i < xs.length) : atI xs (i : Int) = some xs[i] := atI_nat (List.getElem?_eq_getElem h)
@[simp] theorem ixD_tup' (ds : List D) (i : Int) : ixD (D.tup ds) (D.int i) lh = match atI ds i with | some d => Re.ok d lh | none => .bad := rfl
@[simp] theorem ixD_loc' (n : Nat) (i : Int) : ixD (.loc n) (.int i) lh = match lh[n]? with | some (.lst ds) => (match atI ds i with | some d => .ok d lh | none => .bad) | none => .bad := by
  show (match sq lh (.loc n) with | some ds => (match atI ds i with | some d => Re.ok d lh | none => .bad) | none => .bad) = _
  rw [sq_loc]
  cases lh[n]? with
  | none => rfl
  | some o => cases o; rfl
@[simp] theorem ixD_fl' (ds : List D) (i : Int) : ixD (D.fl ds) (D.int i) lh = match atI ds i with | some d => Re.ok d lh | none => .bad := rfl
@[simp] theorem lenD_loc (n : Nat) : lenD [.loc n] lh = match lh[n]? with | some (.lst ds) => .ok (.int ds.length) lh | none => .bad := by
  show (match sq lh (.loc n) with | some xs => Re.ok (D.int xs.length) lh | none => .bad) = _
  rw [sq_loc]
  cases lh[n]? with
  | none => rfl
  | some o => cases o; rfl
@[simp] theorem lenD_tup (ds : List D) : lenD [.tup ds] lh = .ok (.int ds.length) lh := rfl
@[simp] theorem setR_loc (n : Nat) (k : Int) (d : D) (e : LE) : setR (.loc n) (.int k) d e lh = match lh[n]? with
    | some (.lst xs) => (match ixN xs.length k with | some j => .nx e (lh.set n (.lst (xs.set j d))) | none => .bad)
    | none => .bad := by
  show (match lh[n]? with
    | some (Ob.lst xs) => (match ixN xs.length k with | some j => RS.nx e (lh.set n (.lst (xs.set j d))) | none => .bad)
    | _ => RS.bad) = _
  cases lh[n]? with
  | none => rfl
  | some o => cases o; rfl
@[simp] theorem ixN_0 (n : Nat) : ixN (n + 1) 0 = some 0 := by unfold ixN; rw [if_pos (by omega), if_pos (by omega)]; rfl
theorem ixN_lt (n : Nat) (i : Nat) (h : i < n) : ixN n i = some i := by unfold ixN; rw [if_pos (by omega), if_pos (by omega)]; simp
end
end NL
namespace NP
open PySem PySem.Spec L2 NL
/-! ### the bag of numbers -/
def bagO (c : Nat) (i : Nat) (r z k : Int) : Ob := .lst [.loc c, .int i, .int r, .int z, .int k]
structure Bag (lh : LH) (b : Nat) : Prop where
  ex : ∃ (c i : Nat) (r z k : Int) (cells : List Int), lh[b]? = some (bagO c i r z k) ∧ b = c + 1 ∧ lh[c]? = some (.lst (cells.map D.int)) ∧ 0 ≤ r ∧ 0 ≤ z ∧ z < 2147483629
theorem ixN5_4 : ixN 5 4 = some 4 := by decide
theorem ixN5_3 : ixN 5 3 = some 3 := by decide
theorem ixN5_2 : ixN 5 2 = some 2 := by decide
theorem ixN5_1 : ixN 5 1 = some 1 := by decide
theorem cpow18 : CPow 10 18 := by decide
theorem draw_mix (c cell z : Int) (hz : 0 ≤ z ∧ z < 2147483629) : CMul z 40013 ∧ CMul (cell % 2147483563) 6967 := by
  have h1 := Int.emod_nonneg cell (show (2147483563 : Int) ≠ 0 by decide)
  have h2 := Int.emod_lt_of_pos cell (show (0 : Int) < 2147483563 by decide)
  exact ⟨.inr (by decide), .inr (by decide)⟩

def drawEnd : SM :=
  (seqS (ifS (blT (opM gtD (opM ixD (varM 0) (conM (.int 2))) (conM (.int 0)))) (seqS (asS (opM modD (callM intD (consA (opM ixD (varM 0) (conM (.int 2))) (nilA))) (varM 1)) (nmG 3))
  (seqS (asS (opM fdivD (opM ixD (varM 0) (conM (.int 2))) (varM 1)) (subG (varM 0) (conM (.int 2))))
  (rtS (varM 3)))) (nxS))
  (seqS (asS (callM intD (consA (opM ixD (varM 0) (conM (.int 3))) (nilA))) (nmG 4))
  (seqS (asS (opM modD (callM intD (consA (opM addD (opM addD (opM addD (opM powD (varM 4) (conM (.int 3))) (opM mulD (varM 4) (conM (.int 30029)))) (opM mulD (opM ixD (varM 0) (conM (.int 4))) (conM (.int 1299827)))) (conM (.int 70001))) (nilA))) (conM (.int 2147483587))) (subG (varM 0) (conM (.int 3))))
  (rtS (opM modD (callM intD (consA (opM addD (opM fdivD (opM ixD (varM 0) (conM (.int 3))) (conM (.int 71))) (opM mulD (opM modD (callM intD (consA (opM ixD (varM 0) (conM (.int 3))) (nilA))) (conM (.int 7907))) (conM (.int 61)))) (nilA))) (varM 1))))))
def drawMid : SM :=
  (ifS (andT (blT (opM eqD (opM ixD (varM 0) (conM (.int 2))) (conM (.int 0)))) (blT (opM ltD (opM ixD (varM 0) (conM (.int 1))) (callM lenD (consA (opM ixD (varM 0) (conM (.int 0))) (nilA)))))) (seqS (asS (opM ixD (opM ixD (varM 0) (conM (.int 0))) (opM ixD (varM 0) (conM (.int 1)))) (nmG 2))
  (seqS (asS (opM addD (opM ixD (varM 0) (conM (.int 1))) (conM (.int 1))) (subG (varM 0) (conM (.int 1))))
  (ifS (blT (opM geD (varM 2) (opM powD (conM (.int 10)) (conM (.int 18))))) (asS (varM 2) (subG (varM 0) (conM (.int 2)))) (asS (opM modD (callM intD (consA (opM addD (opM addD (opM mulD (opM ixD (varM 0) (conM (.int 3))) (conM (.int 40013))) (opM mulD (opM modD (callM intD (consA (varM 2) (nilA))) (conM (.int 2147483563))) (conM (.int 6967)))) (conM (.int 53))) (nilA))) (conM (.int 2147483587))) (subG (varM 0) (conM (.int 3))))))) (nxS))
theorem ix_of {lh : LH} {b : Nat} {ds : List D} (h : lh[b]? = some (.lst ds)) (i : Int) : ixD (.loc b) (.int i) lh = match atI ds i with | some d => .ok d lh | none => .bad := by
  rw [ixD_loc', h]
theorem set_of {lh : LH} {b : Nat} {ds : List D} (h : lh[b]? = some (.lst ds)) (i : Int) (d : D) (e : LE) : setR (.loc b) (.int i) d e lh = match ixN ds.length i with | some j => .nx e (lh.set b (.lst (ds.set j d))) | none => .bad := by
  rw [setR_loc, h]
theorem mod_small (z m : Int) (h : 0 < m) (hm : m ≤ 2147483629) : 0 ≤ z % m ∧ z % m < 2147483629 :=
  ⟨Int.emod_nonneg _ (by omega), by have := Int.emod_lt_of_pos z h; omega⟩
theorem drawEnd_ok (lh : LH) (b c : Nat) (n : Int) (h0 : 0 < n) (h1 : n < 1073741824) (x : Option D) (i' : Nat) (r' z' k : Int) (hr : 0 ≤ r') (hz0 : 0 ≤ z') (hz1 : z' < 2147483629) (hb : lh[b]? = some (.lst [.loc c, .int i', .int r', .int z', .int k])) :
    ∃ q r'' z'' : Int, 0 ≤ q ∧ q < n ∧ 0 ≤ r'' ∧ 0 ≤ z'' ∧ z'' < 2147483629 ∧ drawEnd [some (.loc b), some (.int n), x, none, none] lh = .rt (.int q) (lh.set b (.lst [.loc c, .int i', .int r'', .int z'', .int k])) := by
  have hbl : b < lh.length := (List.getElem?_eq_some_iff.mp hb).1
  have hs : ∀ ob : Ob, (lh.set b ob)[b]? = some ob := fun ob => List.getElem?_set_self hbl
  by_cases hrp : 0 < r'
  · refine ⟨r' % n, r' / n, z', Int.emod_nonneg _ (by omega), Int.emod_lt_of_pos _ h0, Int.ediv_nonneg hr (by omega), hz0, hz1, ?_⟩
    simp [drawEnd, hb, hrp, modD_int _ _ _ h0, fdivD_int _ _ _ ⟨h0, h1⟩, ixN5_2]
  · have hr' : ¬ 0 < r' := hrp
    generalize hZ : (z' ^ 3 + z' * 30029 + k * 1299827 + 70001) % 2147483587 = Z
    have hz := mod_small (z' ^ 3 + z' * 30029 + k * 1299827 + 70001) 2147483587 (by omega) (by omega)
    rw [hZ] at hz
    refine ⟨(Z / 71 + Z % 7907 * 61) % n, r', Z, Int.emod_nonneg _ (by omega), Int.emod_lt_of_pos _ h0, hr, hz.1, hz.2, ?_⟩
    simp [hZ, drawEnd, hb, hs, hr', ixN5_3, powD_int _ _ _ (show CPow z' 3 from ⟨by omega, by omega, by omega⟩), mulD_int _ _ _ (show CMul z' 30029 from .inr (by omega)), mulD_int _ _ _ (show CMul k 1299827 from .inr (by omega)), mulD_int _ _ _ (show CMul _ 61 from .inr (by omega)), modD_int _ _ 2147483587 (by omega), modD_int _ _ 7907 (by omega), fdivD_int _ _ 71 ⟨by omega, by omega⟩, modD_int _ _ _ h0]

/-! ### how the heap may go on -/
structure Ge (p : Nat → Prop) (lh lh' : LH) : Prop where
  len : lh.length ≤ lh'.length
  same : ∀ n, n < lh.length → ¬ p n → lh'[n]? = lh[n]?
abbrev Gr : LH → LH → Prop := Ge fun _ => False
abbrev Fr (b : Nat) : LH → LH → Prop := Ge fun n => n = b
theorem Ge.refl {p} {lh : LH} : Ge p lh lh := ⟨Nat.le_refl _, fun _ _ _ => rfl⟩
theorem Ge.trans {p} {a b c : LH} (h : Ge p a b) (h' : Ge p b c) : Ge p a c := ⟨Nat.le_trans h.len h'.len, fun n hn hp => (h'.same n (Nat.lt_of_lt_of_le hn h.len) hp).trans (h.same n hn hp)⟩
theorem Ge.app {p} (lh t : LH) : Ge p lh (lh ++ t) := ⟨by simp, fun n hn _ => List.getElem?_append_left hn⟩
theorem Ge.weak {p} {a b : LH} (h : Gr a b) : Ge p a b := ⟨h.len, fun n hn _ => h.same n hn id⟩
theorem Fr.set (lh : LH) (b : Nat) (ob : Ob) : Fr b lh (lh.set b ob) := ⟨by simp, fun n _ hp => List.getElem?_set_ne fun h => hp h.symm⟩
theorem Ge.get {p} {a b : LH} (h : Ge p a b) {n : Nat} {o : Ob} (e : a[n]? = some o) (hp : ¬ p n) : b[n]? = some o :=
  (h.same n (List.getElem?_eq_some_iff.mp e).1 hp).trans e
theorem Bag.lt {lh : LH} {b : Nat} (h : Bag lh b) : b < lh.length := by
  obtain ⟨c, i, r, z, k, cells, hb, _⟩ := h.ex
  exact (List.getElem?_eq_some_iff.mp hb).1
theorem Bag.gr {lh lh' : LH} {b : Nat} (h : Bag lh b) (g : Gr lh lh') : Bag lh' b := by
  obtain ⟨c, i, r, z, k, cells, hb, hbc, hc, q⟩ := h.ex
  exact ⟨c, i, r, z, k, cells, g.get hb id, hbc, g.get hc id, q⟩
theorem Bag.set {lh : LH} {b n : Nat} {o : Ob} (h : Bag lh b) (h1 : n ≠ b) (h2 : n + 1 ≠ b) : Bag (lh.set n o) b := by
  obtain ⟨c, i, r, z, k, cells, hb, hbc, hc, q⟩ := h.ex
  exact ⟨c, i, r, z, k, cells, by rw [List.getElem?_set_ne h1, hb], hbc, by rw [List.getElem?_set_ne (by omega), hc], q⟩
theorem Bag.app {lh : LH} {b : Nat} (h : Bag lh b) (t : LH) : Bag (lh ++ t) b := h.gr (Ge.app lh t)
set_option maxHeartbeats 4000000
theorem l_draw_ok {lh : LH} {b : Nat} {n : Int} (hB : Bag lh b) (h0 : 0 < n) (h1 : n < 1073741824) :
    ∃ q lh', 0 ≤ q ∧ q < n ∧ l_draw [.loc b, .int n] lh = .ok (.int q) lh' ∧ Fr b lh lh' ∧ Bag lh' b := by
  obtain ⟨c, i, r, z, k, cells, hb, hbc, hc, hr, hz0, hz1⟩ := hB.ex
  have hbl : b < lh.length := (List.getElem?_eq_some_iff.mp hb).1
  unfold bagO at hb
  have hs : ∀ ob : Ob, (lh.set b ob)[b]? = some ob := fun ob => List.getElem?_set_self hbl
  have hcs : ∀ ob : Ob, (lh.set b ob)[c]? = some (.lst (cells.map D.int)) := fun ob => (List.getElem?_set_ne (by omega)).trans hc
  have fin : ∀ (x : Option D) (i' : Nat) (r' z' : Int), 0 ≤ r' → 0 ≤ z' → z' < 2147483629 → 
      ∃ q lh', 0 ≤ q ∧ q < n ∧ finM (drawEnd [some (.loc b), some (.int n), x, none, none] (lh.set b (.lst [.loc c, .int i', .int r', .int z', .int (k + 1)]))) = .ok (.int q) lh' ∧ Fr b lh lh' ∧ Bag lh' b := by
    intro x i' r' z' hr' hz0' hz1'
    obtain ⟨q, r2, z2, a1, a2, a3, a4, a5, a6⟩ := drawEnd_ok (lh.set b (.lst [.loc c, .int i', .int r', .int z', .int (k + 1)])) b c n h0 h1 x i' r' z' (k + 1) hr' hz0' hz1' (hs _)
    rw [List.set_set] at a6
    exact ⟨q, _, a1, a2, by rw [a6]; rfl, .set _ _ _, ⟨c, i', r2, z2, k + 1, cells, hs _, hbc, hcs _, a3, a4, a5⟩⟩
  have e0 : l_draw = fnM 5 (seqS (asS (opM addD (opM ixD (varM 0) (conM (.int 4))) (conM (.int 1))) (subG (varM 0) (conM (.int 4)))) (seqS drawMid drawEnd)) := rfl
  rw [e0]
  by_cases hc1 : r = 0 ∧ i < cells.length
  · obtain ⟨hr0, hi⟩ := hc1
    subst hr0
    have hat : atI (cells.map D.int) (i : Int) = some (D.int cells[i]) := atI_nat (by rw [List.getElem?_map, List.getElem?_eq_getElem hi]; rfl)
    by_cases hbig : (1000000000000000000 : Int) ≤ cells[i]
    · obtain ⟨q, l', a⟩ := fin (some (D.int cells[i])) (i + 1) cells[i] z (by omega) hz0 hz1
      refine ⟨q, l', a.1, a.2.1, ?_, a.2.2.2⟩
      rw [← a.2.2.1]
      simp [drawMid, hb, hs, hcs, hi, hat, hbig, ixN5_4, ixN5_1, ixN5_2, powD_int _ _ _ cpow18]
    · have hm := mod_small (z * 40013 + cells[i] % 2147483563 * 6967 + 53) 2147483587 (by omega) (by omega)
      obtain ⟨q, l', a⟩ := fin (some (D.int cells[i])) (i + 1) 0 ((z * 40013 + cells[i] % 2147483563 * 6967 + 53) % 2147483587) (by omega) hm.1 hm.2
      refine ⟨q, l', a.1, a.2.1, ?_, a.2.2.2⟩
      rw [← a.2.2.1]
      simp [drawMid, hb, hs, hcs, hi, hat, hbig, ixN5_4, ixN5_1, ixN5_2, ixN5_3, powD_int _ _ _ cpow18, mulD_int _ z 40013 (.inr (by omega)), mulD_int _ _ 6967 (.inr (by omega)), modD_int _ _ 2147483587 (by omega), modD_int _ _ 2147483563 (by omega)]
  · obtain ⟨q, l', a⟩ := fin none i r z hr hz0 hz1
    refine ⟨q, l', a.1, a.2.1, ?_, a.2.2.2⟩
    rw [← a.2.2.1]
    by_cases hr0 : r = 0
    · have hi : ¬ i < cells.length := fun h => hc1 ⟨hr0, h⟩
      simp [drawMid, hb, hs, hcs, hi, hr0, ixN5_4]
    · simp [drawMid, hb, hs, hcs, hr0, ixN5_4]
theorem l_of_ok {lh : LH} {b n : Nat} {ds : List D} (hB : Bag lh b) (hb : n ≠ b) (hn : lh[n]? = some (.lst ds)) (h0 : 0 < ds.length) (h1 : ds.length < 1000000) :
    ∃ d lh', d ∈ ds ∧ l_of [.loc b, .loc n] lh = .ok d lh' ∧ Fr b lh lh' ∧ Bag lh' b := by
  obtain ⟨q, l', a, c, e, f, g⟩ := l_draw_ok (n := (ds.length : Int)) hB (by omega) (by omega)
  obtain ⟨j, rfl⟩ := Int.eq_ofNat_of_zero_le a
  have hj : j < ds.length := by omega
  refine ⟨ds[j], l', List.getElem_mem hj, ?_, f, g⟩
  unfold l_of
  simp [hn, e, f.get hn hb, atI_pos ds j hj]
end NP
set_option maxRecDepth 100000
set_option maxHeartbeats 4000000
namespace NL
open PySem PySem.Spec L2
/-! ### loops -/
theorem forN_inv {nx : Nat → LH → Option (Option D)} {g : TM} {body : SM} (I : Nat → LE → LH → Prop) (n : Nat)
    (hstep : ∀ i e lh, i < n → I i e lh → ∃ d e' lh', nx i lh = some (some d) ∧ ((g d e lh).bd body = .nx e' lh' ∨ (g d e lh).bd body = .ct e' lh') ∧ I (i + 1) e' lh')
    (hend : ∀ e lh, I n e lh → nx n lh = some none) :
    ∀ f i e lh, i ≤ n → n < f + i → I i e lh → ∃ e' lh', forN nx g body f i e lh = .nx e' lh' ∧ I n e' lh'
  | 0, i, e, lh, h1, h2, h => by omega
  | f + 1, i, e, lh, h1, h2, h => by
    by_cases hi : i = n
    · subst hi
      refine ⟨e, lh, ?_, h⟩
      unfold forN
      rw [hend e lh h]
    · obtain ⟨d, e', lh', a, b, c⟩ := hstep i e lh (by omega) h
      obtain ⟨e2, l2, p, q⟩ := forN_inv I n hstep hend f (i + 1) e' lh' (by omega) (by omega) c
      refine ⟨e2, l2, ?_, q⟩
      unfold forN
      rw [a]
      show ((g d e lh).bd body).lp (forN nx g body f (i + 1)) = _
      rcases b with b | b <;> rw [b] <;> exact p
/-- a comprehension that keeps every item: what stands in its list at step i -/
theorem lcN_inv {nx : Nat → LH → Option (Option D)} {g : TM} {t : MT} {m : M} {n0 : Nat} {e : LE} (I : Nat → List D → LH → Prop) (n : Nat) (hn : n ≤ sizeLine)
    (hstep : ∀ i ys lh, i < n → I i ys lh → lh[n0]? = some (.lst ys) → ys.length = i → ∃ d e1 l1 l2 y l3, nx i lh = some (some d) ∧ g d e lh = .nx e1 l1 ∧ t e1 l1 = .ok true l2 ∧ m e1 l2 = .ok y l3 ∧ l3[n0]? = some (.lst ys) ∧ I (i + 1) (ys ++ [y]) (l3.set n0 (.lst (ys ++ [y]))))
    (hend : ∀ ys lh, I n ys lh → lh[n0]? = some (.lst ys) → nx n lh = some none) :
    ∀ f i ys lh, i ≤ n → n < f + i → ys.length = i → lh[n0]? = some (.lst ys) → I i ys lh → ∃ zs lh', lcN nx g t m n0 e f i lh = .ok (.loc n0) lh' ∧ zs.length = n ∧ lh'[n0]? = some (.lst zs) ∧ I n zs lh'
  | 0, i, ys, lh, h1, h2, h3, h4, h => by omega
  | f + 1, i, ys, lh, h1, h2, h3, h4, h => by
    by_cases hi : i = n
    · subst hi
      refine ⟨ys, lh, ?_, h3, h4, h⟩
      unfold lcN
      rw [hend ys lh h h4]
    · obtain ⟨d, e1, l1, l2, y, l3, a1, a2, a3, a4, a5, a6⟩ := hstep i ys lh (by omega) h h4 h3
      have hl : n0 < l3.length := (List.getElem?_eq_some_iff.mp a5).1
      obtain ⟨zs, l', p1, p2, p3, p4⟩ := lcN_inv I n hn hstep hend f (i + 1) (ys ++ [y]) (l3.set n0 (.lst (ys ++ [y]))) (by omega) (by omega) (by simp [h3]) (List.getElem?_set_self hl) a6
      refine ⟨zs, l', ?_, p2, p3, p4⟩
      unfold lcN
      rw [a1]
      simp only [a2, a3, a4, a5]
      rw [if_pos (by omega)]
      exact p1
end NL
set_option maxRecDepth 100000
set_option maxHeartbeats 4000000
namespace NL
open PySem PySem.Spec L2
inductive Sm (lh : LH) : Nat → D → D → Prop
  | non (n : Nat) : Sm lh n .non .non
  | bl (n : Nat) (b : Bool) : Sm lh n (.bl b) (.bl b)
  | int (n : Nat) (i : Int) : Sm lh n (.int i) (.int i)
  | str (n : Nat) (s : Str) : Sm lh n (.str s) (.str s)
  | tup (n : Nat) (ds es : List D) : ds.length = es.length → ds.length ≤ sizeLine → (∀ (i : Nat) (d e : D), ds[i]? = some d → es[i]? = some e → Sm lh n d e) → Sm lh (n + 1) (.tup ds) (.tup es)
  | lst (n : Nat) (x y : D) (ds es : List D) : sq lh x = some ds → sq lh y = some es → ds.length = es.length → ds.length ≤ sizeLine → (∀ (i : Nat) (d e : D), ds[i]? = some d → es[i]? = some e → Sm lh n d e) → Sm lh (n + 1) x y
@[simp] theorem isiD_1 (d : D) (n : String) (lh : LH) : isiD [d, .raw (.ty n)] lh = match tyOf lh d with | some t => if n ∈ tyNames then .ok (.bl (isT t n)) lh else .bad | none => .bad := rfl
@[simp] theorem isiD_s (d : D) (cs : List D) (lh : LH) : isiD [d, .tup cs] lh = match tyOf lh d, clsN cs with | some t, some ns => .ok (.bl (ns.any fun n => isT t n)) lh | _, _ => .bad := rfl
@[simp] theorem tyOf_non (lh : LH) : tyOf lh .non = some "NoneType" := rfl
@[simp] theorem tyOf_bl (lh : LH) (b) : tyOf lh (.bl b) = some "bool" := rfl
@[simp] theorem tyOf_int (lh : LH) (b) : tyOf lh (.int b) = some "int" := rfl
@[simp] theorem tyOf_str (lh : LH) (b) : tyOf lh (.str b) = some "str" := rfl
@[simp] theorem tyOf_tup (lh : LH) (b) : tyOf lh (.tup b) = some "tuple" := rfl
theorem tyOf_sq {lh : LH} {d : D} {xs : List D} (h : sq lh d = some xs) : tyOf lh d = some "list" := by
  cases d with
  | loc n =>
    have h' : (match lh[n]? with | some (.lst xs) => some xs | none => none) = some xs := h
    show (match lh[n]? with | some (.lst _) => some "list" | none => none) = _
    cases q : lh[n]? with
    | none => rw [q] at h'; cases h'
    | some o => cases o; rfl
  | fl xs => rfl
  | _ => cases h
@[simp] theorem clsN_nil : clsN [] = some [] := rfl
@[simp] theorem clsN_lt : clsN [.raw (.ty "list"), .raw (.ty "tuple")] = some ["list", "tuple"] := by decide
theorem sq_nonT {lh : LH} {d : D} {xs : List D} (h : sq lh d = some xs) : (∀ v, d ≠ .raw v) ∧ isNon d = false ∧ (∀ ys, d ≠ .tup ys) := by
  cases d with
  | loc n => exact ⟨fun _ h => (nomatch h), rfl, fun _ h => (nomatch h)⟩
  | fl ys => exact ⟨fun _ h => (nomatch h), rfl, fun _ h => (nomatch h)⟩
  | _ => cases h
theorem lenD_sq {lh : LH} {d : D} {xs : List D} (h : sq lh d = some xs) : lenD [d] lh = .ok (.int xs.length) lh := by
  cases d with
  | loc n =>
    show (match sq lh (.loc n) with | some xs => Re.ok (D.int xs.length) lh | none => .bad) = _
    rw [h]
  | fl ys => cases h; rfl
  | _ => cases h
theorem zipI_tup (ma : MA) (e : LE) (lh l : LH) (xs ys : List D) (h : ma e lh = .ok [.tup xs, .tup ys] l) : zipI ma e lh = .ok (itZT xs ys) l := by
  unfold zipI; rw [h]; rfl
theorem zipI_sq (ma : MA) (e : LE) (lh l : LH) (x y : D) (xs ys : List D) (h : ma e lh = .ok [x, y] l) (hx : sq l x = some xs) (hy : sq l y = some ys) : zipI ma e lh = .ok (itZ x y xs) l := by
  unfold zipI; rw [h]
  show (match [x, y] with
  | [.tup xs, .tup ys] => Re.ok (itZT xs ys) l
  | [d, d'] => match sq l d, sq l d' with | some xs, some _ => .ok (itZ d d' xs) l | _, _ => .bad
  | _ => .bad) = _
  have h1 := (sq_nonT hx).2.2
  split
  · rename_i h; cases h; exact absurd rfl (h1 _)
  · rename_i h; cases h
    rw [hx, hy]
  · rename_i h3; exact absurd rfl (h3 _ _)
theorem bls_rep (n : Nat) : bls (List.replicate n (.bl true)) = some (List.replicate n true) := by
  induction n with
  | zero => rfl
  | succ n ih =>
    show (bls (List.replicate n (.bl true))).map (true :: ·) = _
    rw [ih]; rfl
end NL
namespace NP
open PySem PySem.Spec L2 NL
theorem sq_ge {p : Nat → Prop} {lh l1 : LH} {d : D} {xs : List D} (h : sq lh d = some xs) (g : Ge p lh l1) (hp : ∀ n, d = .loc n → ¬ p n) : sq l1 d = some xs := by
  cases d with
  | loc n =>
    have h' : (match lh[n]? with | some (.lst xs) => some xs | none => none) = some xs := h
    show (match l1[n]? with | some (.lst xs) => some xs | none => none) = some xs
    cases q : lh[n]? with
    | none => rw [q] at h'; cases h'
    | some o => rw [g.get q (hp n rfl), ← q]; exact h'
  | fl ys => exact h
  | _ => cases h
theorem sq_gr {lh l1 : LH} {d : D} {xs : List D} (h : sq lh d = some xs) (g : Gr lh l1) : sq l1 d = some xs := sq_ge h g fun _ _ => id
/-- all(...) over the pairs of two rows that are the same -/
theorem pairs_ok {rec : FM} {lh l1 : LH} {e : LE} {it : ItD} (xs ys : List D) (hl : xs.length = ys.length) (hz : xs.length ≤ sizeLine) (he : ∃ a b c d, e = [a, b, c, d]) (g : Gr lh l1)
    (hit : it.fuel = xs.length + 1) (hnx : ∀ i l, Gr lh l → it.nx i l = some (pr2 xs[i]? ys[i]?))
    (hrec : ∀ (i : Nat) (d e : D), xs[i]? = some d → ys[i]? = some e → ∀ l1, Gr lh l1 → ∃ l2, rec [d, e] l1 = .ok (.bl true) l2 ∧ Gr l1 l2) :
    ∃ l2, (lcN it.nx (tupG 2 (consG (nmG 2) (consG (nmG 3) (nilG)))) (yesT) (apM rec (consA (varM 2) (consA (varM 3) (nilA)))) l1.length (wipeD e [2, 3]) it.fuel 0 (l1 ++ [.lst []])) = .ok (.loc l1.length) l2 ∧ allD [.loc l1.length] l2 = .ok (.bl true) l2 ∧ Gr l1 l2 := by
  obtain ⟨a, b, c, d, rfl⟩ := he
  obtain ⟨zs, l2, p1, p2, p3, p4⟩ := lcN_inv (nx := it.nx) (g := tupG 2 (consG (nmG 2) (consG (nmG 3) (nilG)))) (t := yesT) (m := apM rec (consA (varM 2) (consA (varM 3) (nilA)))) (n0 := l1.length) (e := wipeD [a, b, c, d] [2, 3])
    (fun i zs l => zs = List.replicate i (.bl true) ∧ Gr l1 l) xs.length hz
    (fun i zs l hi I h0 hlz => by
      obtain ⟨I1, I2⟩ := I
      obtain ⟨l3, q1, q2⟩ := hrec i _ _ (List.getElem?_eq_getElem hi) (List.getElem?_eq_getElem (hl ▸ hi)) l (g.trans I2)
      have hlen : l1.length < l.length := (List.getElem?_eq_some_iff.mp h0).1
      refine ⟨.tup [xs[i], ys[i]'(hl ▸ hi)], [a, b, some xs[i], some (ys[i]'(hl ▸ hi))], l, l, .bl true, l3, ?_, ?_, rfl, ?_, ?_, ?_, ?_⟩
      · rw [hnx i l (g.trans I2), List.getElem?_eq_getElem hi, List.getElem?_eq_getElem (hl ▸ hi)]; rfl
      · rfl
      · show (rec [xs[i], ys[i]'(hl ▸ hi)] l) = _
        exact q1
      · exact q2.get h0 id
      · rw [I1, ← List.replicate_succ']
      · refine ⟨?_, fun n hn hp => ?_⟩
        · have := q2.len; simp; omega
        · rw [List.getElem?_set_ne (by omega)]
          exact (I2.trans q2).same n hn hp)
    (fun zs l I h0 => by rw [hnx _ l (g.trans I.2), List.getElem?_eq_none (Nat.le_refl _)]; rfl)
    it.fuel 0 [] (l1 ++ [.lst []]) (by omega) (by omega) rfl (by simp) ⟨rfl, .app _ _⟩
  refine ⟨l2, p1, ?_, p4.2⟩
  show (match sq l2 (.loc l1.length) with | some xs => (match bls xs with | some bs => Re.ok (D.bl (bs.all id)) l2 | none => .bad) | none => .bad) = _
  rw [sq_loc, p3]
  dsimp only
  rw [p4.1, bls_rep]
  simp
theorem same_ok {lh : LH} {n : Nat} {x y : D} (h : Sm lh n x y) : ∀ f, n < f → ∀ l1, Gr lh l1 → ∃ l2, l_same f [x, y] l1 = .ok (.bl true) l2 ∧ Gr l1 l2 := by
  induction h with
  | non n =>
    intro f hf l1 g
    obtain ⟨f, rfl⟩ : ∃ k, f = k + 1 := ⟨f - 1, by omega⟩
    exact ⟨l1, by simp [l_same, b_l_same], .refl⟩
  | bl n b =>
    intro f hf l1 g
    obtain ⟨f, rfl⟩ : ∃ k, f = k + 1 := ⟨f - 1, by omega⟩
    exact ⟨l1, by simp [l_same, b_l_same, isT, tyNames], .refl⟩
  | int n b =>
    intro f hf l1 g
    obtain ⟨f, rfl⟩ : ∃ k, f = k + 1 := ⟨f - 1, by omega⟩
    exact ⟨l1, by simp [l_same, b_l_same, isT, tyNames], .refl⟩
  | str n b =>
    intro f hf l1 g
    obtain ⟨f, rfl⟩ : ∃ k, f = k + 1 := ⟨f - 1, by omega⟩
    exact ⟨l1, by simp [l_same, b_l_same, isT, tyNames], .refl⟩
  | tup n xs ys hl hz _ ih =>
    intro f hf l1 g
    obtain ⟨f, rfl⟩ : ∃ k, f = k + 1 := ⟨f - 1, by omega⟩
    obtain ⟨l2, p1, p0, p2⟩ := pairs_ok (rec := l_same f) (it := itZT xs ys) (e := [some (.tup xs), some (.tup ys), none, none]) xs ys hl hz ⟨_, _, _, _, rfl⟩ g rfl (fun i l _ => rfl) (fun i d e a b l c => ih i d e a b f (by omega) l c)
    refine ⟨l2, ?_, p2⟩
    have hzi := zipI_tup (consA (varM 0) (consA (varM 1) (nilA))) [some (.tup xs), some (.tup ys), none, none] l1 l1 xs ys (by simp)
    simp [l_same, b_l_same, isT, tyNames, hl, lcM, hzi, p1, p0]
  | lst n x y xs ys hx hy hl hz _ ih =>
    intro f hf l1 g
    obtain ⟨f, rfl⟩ : ∃ k, f = k + 1 := ⟨f - 1, by omega⟩
    have hx1 := sq_gr hx g
    have hy1 := sq_gr hy g
    obtain ⟨l2, p1, p0, p2⟩ := pairs_ok (rec := l_same f) (it := itZ x y xs) (e := [some x, some y, none, none]) xs ys hl hz ⟨_, _, _, _, rfl⟩ g rfl (fun i l c => by
      show (match sq l x, sq l y with | some ys, some zs => some (pr2 ys[i]? zs[i]?) | _, _ => none) = _
      rw [sq_gr hx c, sq_gr hy c]) (fun i d e a b l c => ih i d e a b f (by omega) l c)
    refine ⟨l2, ?_, p2⟩
    have hzi := zipI_sq (consA (varM 0) (consA (varM 1) (nilA))) [some x, some y, none, none] l1 l1 x y xs ys (by simp) hx1 hy1
    have nx := sq_nonT hx
    have ny := sq_nonT hy
    simp [l_same, b_l_same, isT, tyNames, hl, lcM, hzi, tyOf_sq hx1, tyOf_sq hy1, lenD_sq hx1, lenD_sq hy1, isD_non _ _ nx.1, isD_non _ _ ny.1, nx.2.1, ny.2.1, p1, p0]
end NP
set_option maxRecDepth 100000
set_option maxHeartbeats 4000000
namespace NP
open PySem PySem.Spec L2 NL
theorem sIx_cut (ns : List D) (h : ns.length ≤ 63) : cutL ns none (some 63) = ns := cutL_all (by simp [HT.sIx]; omega)
theorem l_bag_ok (ns : List Int) (h : ns.length ≤ 63) (lh : LH) : ∃ b lh', l_bag [.fl (ns.map D.int)] lh = .ok (.loc b) lh' ∧ Gr lh lh' ∧ Bag lh' b ∧ lh.length ≤ b := by
  have hcut : cutL (ns.map D.int) none (some 63) = ns.map D.int := sIx_cut _ (by simpa using h)
  obtain ⟨e', l', p, q⟩ := forN_inv (nx := (itL (.loc lh.length) (ns.map D.int)).nx) (g := nmG 2) (body := asS (opM modD (callM intD (consA (opM addD (opM addD (opM mulD (varM 1) (conM (.int 47353))) (opM modD (callM intD (consA (varM 2) (nilA))) (conM (.int 2147483579)))) (conM (.int 17))) (nilA))) (conM (.int 2147483629))) (nmG 1))
    (fun i e l => l = lh ++ [.lst (ns.map D.int)] ∧ ∃ z x, e = [some (.fl (ns.map D.int)), some (.int z), x] ∧ 0 ≤ z ∧ z < 2147483629) ns.length
    (fun i e l hi I => by
      obtain ⟨rfl, z, x, rfl, hz0, hz1⟩ := I
      have hm := mod_small (z * 47353 + ns[i] % 2147483579 + 17) 2147483629 (by omega) (by omega)
      refine ⟨.int ns[i], [some (.fl (ns.map D.int)), some (.int ((z * 47353 + ns[i] % 2147483579 + 17) % 2147483629)), some (.int ns[i])], lh ++ [.lst (ns.map D.int)], ?_, .inl ?_, rfl, _, _, rfl, hm.1, hm.2⟩
      · simp [itL, hi]
      · simp [mulD_int _ z 47353 (.inr (by omega)), modD_int _ _ 2147483579 (by omega), modD_int _ _ 2147483629 (by omega)])
    (fun e l I => by
      obtain ⟨rfl, _⟩ := I
      simp [itL])
    (ns.length + 1) 0 [some (.fl (ns.map D.int)), some (.int 10018), none] (lh ++ [.lst (ns.map D.int)]) (by omega) (by omega) ⟨rfl, _, _, rfl, by omega, by omega⟩
  obtain ⟨rfl, z, x, rfl, hz0, hz1⟩ := q
  refine ⟨lh.length + 3, lh ++ [.lst (ns.map D.int), .lst (ns.map D.int), .lst (ns.map D.int), bagO (lh.length + 2) 0 0 z 0], ?_, .app _ _, ⟨lh.length + 2, 0, 0, z, 0, ns, by simp, by omega, by simp, by omega, hz0, hz1⟩, by omega⟩
  have hfu : (itL (.loc lh.length) (ns.map D.int)).fuel = ns.length + 1 := by simp [itL]
  have hsl : ∀ l : LH, slD (.fl (ns.map D.int)) none (some 63) l = .ok (.loc l.length) (l ++ [.lst (ns.map D.int)]) := fun l => by
    show Re.ok (D.loc l.length) (l ++ [Ob.lst (cutL (ns.map D.int) none (some 63))]) = _
    rw [hcut]
  have hli : ∀ (l : LH) k, l[k]? = some (.lst (ns.map D.int)) → listD [.loc k] l = .ok (.loc l.length) (l ++ [.lst (ns.map D.int)]) := fun l k h => by
    show (match sq l (.loc k) with | some xs => Re.ok (D.loc l.length) (l ++ [Ob.lst xs]) | none => .bad) = _
    rw [sq_loc, h]
  unfold l_bag
  simp [hsl, hfu]
  rw [p]
  simp [hsl, hli, bagO]
/-! ### the same, row by row -/
def SmL (lh : LH) (n : Nat) : List D → List D → Prop
  | [], [] => True
  | d :: ds, e :: es => Sm lh n d e ∧ SmL lh n ds es
  | _, _ => False
@[simp] theorem SmL_nil (lh n) : SmL lh n [] [] = True := rfl
@[simp] theorem SmL_cons (lh n) (d e : D) (ds es : List D) : SmL lh n (d :: ds) (e :: es) = (Sm lh n d e ∧ SmL lh n ds es) := rfl
theorem SmL.to {lh : LH} {n : Nat} : ∀ {ds es : List D}, SmL lh n ds es → ds.length = es.length ∧ ∀ (i : Nat) (d e : D), ds[i]? = some d → es[i]? = some e → Sm lh n d e
  | [], [], _ => ⟨rfl, fun i d e h => by simp at h⟩
  | d :: ds, e :: es, h => by
    have ih := h.2.to
    refine ⟨by simp [ih.1], fun i x y hx hy => ?_⟩
    cases i with
    | zero => simp at hx hy; subst hx hy; exact h.1
    | succ i => simp at hx hy; exact ih.2 i x y hx hy
  | [], _ :: _, h => h.elim
  | _ :: _, [], h => h.elim
theorem Sm.tupL {lh : LH} {n : Nat} {ds es : List D} (hz : ds.length ≤ 1000) (h : SmL lh n ds es) : Sm lh (n + 1) (.tup ds) (.tup es) :=
  .tup n ds es h.to.1 (by unfold sizeLine; omega) h.to.2
theorem Sm.lstL {lh : LH} {n : Nat} {x y : D} {ds es : List D} (hx : sq lh x = some ds) (hy : sq lh y = some es) (hz : ds.length ≤ 1000) (h : SmL lh n ds es) : Sm lh (n + 1) x y :=
  .lst n x y ds es hx hy h.to.1 (by unfold sizeLine; omega) h.to.2
mutual
/-- plain data, no deeper than n -/
def pd : Nat → D → Bool
  | _, .non | _, .bl _ | _, .int _ | _, .str _ => true
  | n + 1, .tup ds => decide (ds.length ≤ 1000) && pdL n ds
  | _, _ => false
def pdL : Nat → List D → Bool
  | _, [] => true
  | n, d :: ds => pd n d && pdL n ds
end
mutual
theorem Sm.pd {lh : LH} : ∀ {n : Nat} {d : D}, pd n d = true → Sm lh n d d
  | n, .non, _ => .non n
  | n, .bl b, _ => .bl n b
  | n, .int b, _ => .int n b
  | n, .str b, _ => .str n b
  | n + 1, .tup ds, h => by
    have h' : (decide (ds.length ≤ 1000) && pdL n ds) = true := by simpa [NP.pd] using h
    rw [Bool.and_eq_true] at h'
    exact Sm.tupL (of_decide_eq_true h'.1) (SmL.pd h'.2)
  | 0, .tup ds, h => by simp [NP.pd] at h
  | 0, .loc k, h => by simp [NP.pd] at h
  | n + 1, .loc k, h => by simp [NP.pd] at h
  | 0, .raw k, h => by simp [NP.pd] at h
  | n + 1, .raw k, h => by simp [NP.pd] at h
  | 0, .fl k, h => by simp [NP.pd] at h
  | n + 1, .fl k, h => by simp [NP.pd] at h
theorem SmL.pd {lh : LH} : ∀ {n : Nat} {ds : List D}, pdL n ds = true → SmL lh n ds ds
  | n, [], _ => trivial
  | n, d :: ds, h => by
    have h' : (NP.pd n d && pdL n ds) = true := by simpa [NP.pdL] using h
    rw [Bool.and_eq_true] at h'
    exact ⟨Sm.pd h'.1, SmL.pd h'.2⟩
end
/-! ### membership in rows of strings -/
def strsB (xs : List D) : Bool := xs.all fun d => match d with | .str s => PyData.strOk s | _ => false
def isS (s : Str) (d : D) : Bool := match d with | .str t => t == s | _ => false
theorem strsB_rd {lh : LH} {n : Nat} : ∀ {xs : List D}, strsB xs = true → ∃ ps : List PyData, xs.mapM (rd lh n) = some ps ∧ PyData.canLayAll0 ps = true ∧ PyData.depthAll ps ≤ 1 ∧ ∀ s, (ps.any fun z => PyData.eqv z (.str s)) = xs.any (isS s)
  | [], _ => ⟨[], rfl, rfl, by simp [PyData.depthAll], fun s => rfl⟩
  | .str t :: xs, h => by
    have h' : PyData.strOk t = true ∧ strsB xs = true := by simpa [strsB] using h
    obtain ⟨ps, a, b, c, d⟩ := strsB_rd (lh := lh) (n := n) h'.2
    refine ⟨.str t :: ps, by simp [a], by simp [PyData.canLayAll0, PyData.canLay0, h'.1, b], by simp [PyData.depthAll, PyData.depth]; omega, fun s => ?_⟩
    simp [d, isS, PyData.eqv]
  | .non :: xs, h => by simp [strsB] at h
  | .bl _ :: xs, h => by simp [strsB] at h
  | .int _ :: xs, h => by simp [strsB] at h
  | .tup _ :: xs, h => by simp [strsB] at h
  | .loc _ :: xs, h => by simp [strsB] at h
  | .raw _ :: xs, h => by simp [strsB] at h
  | .fl _ :: xs, h => by simp [strsB] at h
theorem inR_fl {lh : LH} {s : Str} {xs : List D} (h : (strsB xs && PyData.strOk s) = true) : inR lh (.str s) (.fl xs) = some (xs.any (isS s)) ∧ inR lh (.str s) (.tup xs) = some (xs.any (isS s)) := by
  rw [Bool.and_eq_true] at h
  obtain ⟨ps, a, b, c, d⟩ := strsB_rd (lh := lh) (n := 15) h.1
  have e1 : rd lh 16 (.fl xs) = some (.list ps) := by rw [rd_fl, a]; rfl
  have e2 : rd lh 16 (.tup xs) = some (.tuple ps) := by rw [rd_tup, a]; rfl
  have s1 : SeqAt.shaped (.str s) = true := by simp [SeqAt.shaped, PyData.canLay0, PyData.depth, h.2]
  have s2 : SeqAt.shaped (.list ps) = true := by simp [SeqAt.shaped, PyData.canLay0, PyData.depth, b]; omega
  have s3 : SeqAt.shaped (.tuple ps) = true := by simp [SeqAt.shaped, PyData.canLay0, PyData.depth, b]; omega
  constructor
  · show (match rd lh 16 (.str s), rd lh 16 (.fl xs) with
    | some p, some (.list qs) => if SeqAt.shaped p = true ∧ SeqAt.shaped (.list qs) = true then some (qs.any fun z => PyData.eqv z p) else none
    | some p, some (.tuple qs) => if SeqAt.shaped p = true ∧ SeqAt.shaped (.tuple qs) = true then some (qs.any fun z => PyData.eqv z p) else none
    | _, _ => none) = _
    rw [e1, rd_str]
    dsimp only
    rw [if_pos ⟨s1, s2⟩, d]
  · show (match rd lh 16 (.str s), rd lh 16 (.tup xs) with
    | some p, some (.list qs) => if SeqAt.shaped p = true ∧ SeqAt.shaped (.list qs) = true then some (qs.any fun z => PyData.eqv z p) else none
    | some p, some (.tuple qs) => if SeqAt.shaped p = true ∧ SeqAt.shaped (.tuple qs) = true then some (qs.any fun z => PyData.eqv z p) else none
    | _, _ => none) = _
    rw [e2, rd_str]
    dsimp only
    rw [if_pos ⟨s1, s3⟩, d]
theorem inR_loc (lh : LH) (s : Str) (k : Nat) : inR lh (.str s) (.loc k) = match lh[k]? with | some (.lst xs) => inR lh (.str s) (.fl xs) | none => none := by
  show (match rd lh 16 (.str s), rd lh 16 (.loc k) with
    | some p, some (.list qs) => if SeqAt.shaped p = true ∧ SeqAt.shaped (.list qs) = true then some (qs.any fun z => PyData.eqv z p) else none
    | some p, some (.tuple qs) => if SeqAt.shaped p = true ∧ SeqAt.shaped (.tuple qs) = true then some (qs.any fun z => PyData.eqv z p) else none
    | _, _ => none) = _
  cases h : lh[k]? with
  | none =>
    have : rd lh 16 (.loc k) = none := by show (match lh[k]? with | some (.lst xs) => (xs.mapM (rd lh 15)).map PyData.list | none => none) = _; rw [h]
    rw [this, rd_str]
  | some o =>
    cases o with
    | lst xs => rw [rd_loc lh 15 k xs h]; rfl
theorem inD_loc (lh : LH) (s : Str) (k : Nat) : inD (.str s) (.loc k) lh = match lh[k]? with | some (.lst xs) => (if (strsB xs && PyData.strOk s) = true then .ok (.bl (xs.any (isS s))) lh else inD (.str s) (.fl xs) lh) | none => .bad := by
  unfold inD
  rw [inR_loc]
  cases h : lh[k]? with
  | none => rfl
  | some o =>
    cases o with
    | lst xs =>
      dsimp only
      by_cases hh : (strsB xs && PyData.strOk s) = true
      · rw [if_pos hh, (inR_fl hh).1]
      · rw [if_neg hh]
theorem inD_tup {lh : LH} {s : Str} {xs : List D} (h : (strsB xs && PyData.strOk s) = true) : inD (.str s) (.tup xs) lh = .ok (.bl (xs.any (isS s))) lh := by
  unfold inD
  rw [(inR_fl h).2]
end NP
set_option maxRecDepth 100000
set_option maxHeartbeats 4000000
namespace NP
open PySem PySem.Spec L2 NL
abbrev so (s : String) : D := .str (PySem.Str.ofString s)
def timedL : List D := [so "quiet", so "first", so "late", so "hold", so "both", so "again"]
def abcL : List D := [so "a", so "b", so "c"]
def oftL : List D := [so "a", so "b", so "c", so "ab", so "ac", so "bc", so "abc"]
theorem l_timed_ok (lh : LH) : l_timed [] lh = .ok (.loc lh.length) (lh ++ [.lst timedL]) := rfl
theorem abc_str {s : D} (h : s ∈ abcL) : ∃ x, s = .str x ∧ PyData.strOk x = true := by
  simp [abcL] at h
  rcases h with rfl | rfl | rfl <;> exact ⟨_, rfl, by decide +kernel⟩
theorem oft_str {s : D} (h : s ∈ oftL) : ∃ x, s = .str x ∧ PyData.strOk x = true := by
  simp [oftL] at h
  rcases h with rfl | rfl | rfl | rfl | rfl | rfl | rfl <;> exact ⟨_, rfl, by decide +kernel⟩
/-! ### while -/
theorem whN_inv {t : MT} {body : SM} (I : Nat → LE → LH → Prop)
    (hstop : ∀ e lh, I 0 e lh → ∃ lh', t e lh = .ok false lh' ∧ I 0 e lh')
    (hgo : ∀ n e lh, I (n + 1) e lh → ∃ l1 e' lh', t e lh = .ok true l1 ∧ (body e l1 = .nx e' lh' ∨ body e l1 = .ct e' lh') ∧ I n e' lh') :
    ∀ n f e lh, n < f → I n e lh → ∃ e' lh', whN t body f e lh = .nx e' lh' ∧ I 0 e' lh'
  | n, 0, e, lh, h, _ => by omega
  | 0, f + 1, e, lh, _, h => by
    obtain ⟨l1, a, b⟩ := hstop e lh h
    exact ⟨e, l1, by unfold whN; rw [a]; rfl, b⟩
  | n + 1, f + 1, e, lh, hf, h => by
    obtain ⟨l1, e1, l2, a, b, c⟩ := hgo n e lh h
    obtain ⟨e2, l3, p, q⟩ := whN_inv I hstop hgo n f e1 l2 (by omega) c
    refine ⟨e2, l3, ?_, q⟩
    unfold whN
    rw [a]
    show (body e l1).lp (whN t body f) = _
    rcases b with b | b <;> rw [b] <;> exact p
/-! ### a row of strings against an empty one -/
theorem neD_strs {lh : LH} {x y : Nat} {xs : List D} (hx : lh[x]? = some (.lst xs)) (hy : lh[y]? = some (.lst [])) (h : strsB xs = true) : neD (.loc x) (.loc y) lh = .ok (.bl (!xs.isEmpty)) lh := by
  obtain ⟨ps, a, b, c, d⟩ := strsB_rd (lh := lh) (n := 15) h
  have e1 : rd lh 16 (.loc x) = some (.list ps) := by rw [rd_loc lh 15 x xs hx, a]; rfl
  have e2 : rd lh 16 (.loc y) = some (.list []) := by rw [rd_loc lh 15 y [] hy]; rfl
  have s2 : SeqAt.shaped (.list ps) = true := by simp [SeqAt.shaped, PyData.canLay0, PyData.depth, b]; omega
  have s3 : SeqAt.shaped (.list []) = true := by decide
  have hl : ps.isEmpty = xs.isEmpty := by
    cases xs with
    | nil => simp at a; subst a; rfl
    | cons x xs =>
      cases ps with
      | nil => simp [List.mapM_cons, Option.bind_eq_some_iff] at a
      | cons _ _ => rfl
  have e3 : eqR lh (.loc x) (.loc y) = some xs.isEmpty := by
    show (match rd lh 16 (.loc x), rd lh 16 (.loc y) with
      | some p, some q => if SeqAt.shaped p = true ∧ SeqAt.shaped q = true then some (PyData.eqv p q) else none
      | _, _ => none) = _
    rw [e1, e2]
    dsimp only
    rw [if_pos ⟨s2, s3⟩, ← hl]
    cases ps <;> simp [PyData.eqv, PyData.eqvAll]
  unfold neD
  rw [e3]
theorem popD_at {lh : LH} {n i : Nat} {xs : List D} (h : lh[n]? = some (.lst xs)) (hi : i < xs.length) (hs : xs.length < 1000000) : popD (.loc n) [.int i] lh = .ok xs[i] (lh.set n (.lst (xs.eraseIdx i))) := by
  have e : seqIndex? (i : Int) xs.length = some i := by
    unfold seqIndex?
    have : ¬ ((i : Int) < 0) := by omega
    simp [this, hi]
  show (match lh[n]? with
    | some (.lst xs) => if -(2 ^ 63) ≤ (i : Int) ∧ (i : Int) < 2 ^ 63 then (match seqIndex? (i : Int) xs.length with | some k => (match xs[k]? with | some d => Re.ok d (lh.set n (.lst (xs.eraseIdx k))) | none => .bad) | none => .bad) else .bad
    | _ => .bad) = _
  rw [h]
  dsimp only
  rw [if_pos (by omega), e]
  dsimp only
  rw [List.getElem?_eq_getElem hi]
theorem appD_at {lh : LH} {n : Nat} {xs : List D} {d : D} (h : lh[n]? = some (.lst xs)) (hs : xs.length < 1000000) : appD (.loc n) [d] lh = .ok .non (lh.set n (.lst (xs ++ [d]))) := by
  show (match lh[n]? with | some (.lst xs) => if xs.length < sizeLine then Re.ok D.non (lh.set n (.lst (xs ++ [d]))) else .bad | _ => .bad) = _
  rw [h]
  dsimp only
  rw [if_pos (by unfold sizeLine; omega)]
theorem tyOk_loc {lh : LH} {n : Nat} {xs : List D} (h : lh[n]? = some (.lst xs)) : tyOk "list" (.loc n) lh = true := by
  show ("list" == "list" && (sq lh (.loc n)).isSome) = true
  rw [sq_loc, h]; rfl
theorem strsB_mem {xs : List D} (h : ∀ d ∈ xs, ∃ x, d = .str x ∧ PyData.strOk x = true) : strsB xs = true := by
  unfold strsB
  rw [List.all_eq_true]
  intro d hd
  obtain ⟨x, rfl, hx⟩ := h d hd
  exact hx
theorem listD_sq {lh : LH} {d : D} {xs : List D} (h : sq lh d = some xs) : listD [d] lh = .ok (.loc lh.length) (lh ++ [.lst xs]) := by
  cases d with
  | loc n =>
    show (match sq lh (.loc n) with | some xs => Re.ok (D.loc lh.length) (lh ++ [Ob.lst xs]) | none => .bad) = _
    rw [h]
  | fl ys => cases h; rfl
  | _ => cases h
theorem pull_perm {a : Type} {us : List a} {j : Nat} (hj : j < us.length) : (us[j] :: us.eraseIdx j).Perm us := by
  rw [List.eraseIdx_eq_take_drop_succ]
  refine List.perm_middle.symm.trans ?_
  rw [← List.drop_eq_getElem_cons hj, List.take_append_drop]
/-! ### a row in another order -/
theorem l_mixed_ok {lh : LH} {b : Nat} {x : D} {ds : List D} (hB : Bag lh b) (hx : sq lh x = some ds) (hs : ∀ d ∈ ds, ∃ x, d = .str x ∧ PyData.strOk x = true) (hz : ds.length < 1000000) :
    ∃ q es lh', l_mixed [.loc b, x] lh = .ok (.loc q) lh' ∧ lh'[q]? = some (.lst es) ∧ es.Perm ds ∧ q ≠ b ∧ lh.length ≤ q ∧ Fr b lh lh' ∧ Bag lh' b := by
  have hb := hB.lt
  obtain ⟨e', l', p, q⟩ := whN_inv (t := blT (opM neD (varM 2) (lstM (nilA)))) (body := exS (mtM "list" appD (varM 3) (consA (mtM "list" popD (varM 2) (consA (apM NP.l_draw (consA (varM 0) (consA (callM lenD (consA (varM 2) (nilA))) (nilA)))) (nilA))) (nilA))))
    (fun n e l => e = [some (.loc b), some x, some (.loc lh.length), some (.loc (lh.length + 1))] ∧ Fr b lh l ∧ Bag l b ∧ ∃ us vs, l[lh.length]? = some (.lst us) ∧ l[lh.length + 1]? = some (.lst vs) ∧ us.length = n ∧ (us ++ vs).Perm ds)
    (fun e l I => by
      obtain ⟨rfl, f, B, us, vs, hu, hv, hn, hp⟩ := I
      cases List.eq_nil_of_length_eq_zero hn
      have hl := (List.getElem?_eq_some_iff.mp hv).1
      refine ⟨l ++ [.lst []], ?_, rfl, f.trans (.app _ _), B.app _, [], vs, by rw [List.getElem?_append_left (by omega), hu], by rw [List.getElem?_append_left hl, hv], rfl, hp⟩
      have := neD_strs (lh := l ++ [.lst []]) (x := lh.length) (y := l.length) (xs := []) (by rw [List.getElem?_append_left (by omega), hu]) (by simp) rfl
      simp [this])
    (fun n e l I => by
      obtain ⟨rfl, f, B, us, vs, hu, hv, hn, hp⟩ := I
      have hl := (List.getElem?_eq_some_iff.mp hv).1
      have hlen : us.length + vs.length = ds.length := by rw [← hp.length_eq, List.length_append]
      have hus : strsB us = true := strsB_mem fun d hd => hs d (hp.mem_iff.mp (List.mem_append_left _ hd))
      have hu1 : (l ++ [Ob.lst []])[lh.length]? = some (.lst us) := by rw [List.getElem?_append_left (by omega), hu]
      have hv1 : (l ++ [Ob.lst []])[lh.length + 1]? = some (.lst vs) := by rw [List.getElem?_append_left (by omega), hv]
      have h1 := neD_strs (lh := l ++ [.lst []]) (x := lh.length) (y := l.length) (xs := us) hu1 (by simp) hus
      obtain ⟨i, l2, a1, a2, a3, a4, a5⟩ := l_draw_ok (n := (us.length : Int)) (B.app [.lst []]) (by omega) (by omega)
      obtain ⟨j, rfl⟩ := Int.eq_ofNat_of_zero_le a1
      have hj : j < us.length := by omega
      have hu2 := a4.get hu1 (by omega)
      have hv2 := a4.get hv1 (by omega)
      have hl2 := (List.getElem?_eq_some_iff.mp hv2).1
      have h2 := popD_at hu2 hj (by omega)
      have hv3 : (l2.set lh.length (.lst (us.eraseIdx j)))[lh.length + 1]? = some (.lst vs) := by rw [List.getElem?_set_ne (by omega), hv2]
      have h3 := appD_at (d := us[j]) hv3 (by omega)
      have hB3 : Bag ((l2.set lh.length (.lst (us.eraseIdx j))).set (lh.length + 1) (.lst (vs ++ [us[j]]))) b := (a5.set (by omega) (by omega)).set (by omega) (by omega)
      have hf3 : Fr b lh ((l2.set lh.length (.lst (us.eraseIdx j))).set (lh.length + 1) (.lst (vs ++ [us[j]]))) := by
        have g := (f.trans (.app _ [.lst []])).trans a4
        refine ⟨by have := g.len; simp; omega, fun n hn hp => ?_⟩
        rw [List.getElem?_set_ne (by omega), List.getElem?_set_ne (by omega)]
        exact g.same n hn hp
      refine ⟨l ++ [.lst []], _, _, ?_, .inl ?_, rfl, hf3, hB3, us.eraseIdx j, vs ++ [us[j]], ?_, ?_, ?_, ?_⟩
      · have : us ≠ [] := fun h => by rw [h] at hn; simp at hn
        simp [h1, this]
      · simp [tyOk_loc hu1, tyOk_loc hv1, hu1, a3, h2, h3]
      · rw [List.getElem?_set_ne (by omega), List.getElem?_set_self (by omega)]
      · rw [List.getElem?_set_self (by simp; omega)]
      · rw [List.length_eraseIdx, if_pos hj]; omega
      · refine List.Perm.trans ?_ hp
        have : (us[j] :: us.eraseIdx j).Perm us := pull_perm hj
        refine List.Perm.trans ?_ (this.append_right vs)
        refine (List.Perm.append_left _ (List.perm_append_comm (l₁ := vs) (l₂ := [us[j]]))).trans ?_
        rw [← List.append_assoc]
        exact List.Perm.append_right _ (List.perm_append_comm (l₂ := [us[j]])))
    ds.length fuel0 [some (.loc b), some x, some (.loc lh.length), some (.loc (lh.length + 1))] (lh ++ [.lst ds, .lst []]) (by unfold fuel0; omega) ⟨rfl, .app _ _, hB.app _, ds, [], by simp, by simp, rfl, by simp⟩
  obtain ⟨rfl, f, B, us, vs, hu, hv, hn, hp⟩ := q
  cases List.eq_nil_of_length_eq_zero hn
  refine ⟨lh.length + 1, vs, l', ?_, hv, by simpa using hp, by omega, by omega, f, B⟩
  unfold l_mixed
  simp [listD_sq hx, whS, p]
end NP
set_option maxRecDepth 100000
set_option maxHeartbeats 4000000
namespace NP
open PySem PySem.Spec L2 NL
inductive PartD (n : Int) : D → Prop
  | timed (w : D) (q : Int) : w ∈ timedL → 0 ≤ q → q < n → PartD n (.tup [w, .int (1 + q)])
  | change : PartD n (.tup [so "change"])
  | pick (s : D) : s ∈ oftL → PartD n (.tup [so "pick", s])
  | turn (x y : D) : x ∈ abcL → y ∈ abcL → x ≠ y → PartD n (.tup [so "turn", x, y])
def ItemD (d : D) : Prop := ∃ (s : D) (q : Int), s ∈ abcL ∧ d = .tup [s, .int q]
theorem at_timed {q : Int} (h0 : 0 ≤ q) (h1 : q < 6) : ∃ w, w ∈ timedL ∧ atI timedL q = some w := by
  obtain ⟨j, rfl⟩ := Int.eq_ofNat_of_zero_le h0
  have hj : j < timedL.length := by show j < 6; omega
  exact ⟨timedL[j], List.getElem_mem hj, atI_pos _ _ hj⟩
theorem part_ok {lh : LH} {b : Nat} {n : Int} (hB : Bag lh b) (hn : 0 < n) (hn1 : n < 1000000) :
    ∃ d lh', l_some_part [.loc b, .int n] lh = .ok d lh' ∧ PartD n d ∧ Fr b lh lh' ∧ Bag lh' b := by
  have hb := hB.lt
  obtain ⟨q, l1, a1, a2, a3, a4, a5⟩ := l_draw_ok (n := 9) hB (by omega) (by omega)
  have hb1 := a5.lt
  by_cases h6 : q < 6
  · obtain ⟨w, hw, hw2⟩ := at_timed a1 h6
    obtain ⟨q2, l2, b1, b2, b3, b4, b5⟩ := l_draw_ok (n := n) (a5.app [.lst timedL]) (by omega) (by omega)
    refine ⟨_, l2, ?_, .timed w q2 hw b1 b2, a4.trans ((Ge.app _ _).trans b4), b5⟩
    simp [l_some_part, a3, h6, l_timed_ok, hw2, b3]
  · by_cases h7 : q = 6
    · subst h7
      exact ⟨_, l1, by simp [l_some_part, a3], .change, a4, a5⟩
    · by_cases h8 : q = 7
      · subst h8
        obtain ⟨s, l2, b1, b2, b3, b4⟩ := l_of_ok (n := l1.length) (ds := oftL) (a5.app [.lst oftL]) (by omega) (by simp) (by decide) (by decide)
        simp only [oftL] at b2
        exact ⟨_, l2, by simp [l_some_part, a3, b2], .pick s b1, a4.trans ((Ge.app _ _).trans b3), b4⟩
      · obtain ⟨p, es, l2, b1, b2, b3, b4, b5, b6, b7⟩ := l_mixed_ok (x := .loc l1.length) (ds := abcL) (a5.app [.lst abcL]) (by simp) (fun d hd => abc_str hd) (by decide)
        simp only [abcL] at b1
        have hl : es.length = 3 := b3.length_eq
        match es, hl with
        | [x, y, z], _ =>
          have hnd : [x, y, z].Nodup := b3.nodup_iff.mpr (by simp (decide := true) [abcL])
          have hne : x ≠ y := fun h => by simp [h] at hnd
          refine ⟨_, l2, ?_, .turn x y (b3.mem_iff.mp (by simp)) (b3.mem_iff.mp (by simp)) hne, a4.trans ((Ge.app _ _).trans b6), b7⟩
          simp [l_some_part, a3, h6, h7, h8, b1, b2]
/-- what may be in a part's memory -/
inductive MemP : D → D → Prop
  | rest (p : D) : MemP p (.tup [.bl false, .non])
  | none (w : D) (q : D) : w = so "first" ∨ w = so "both" → MemP (.tup [w, q]) (.tup [.bl true, .non])
  | some (w : D) (q : D) (m : D) : w ∈ timedL → w ≠ so "first" → ItemD m → MemP (.tup [w, q]) (.tup [.bl true, m])
  | last (s : D) : s ∈ (.non :: abcL) → MemP (.tup [so "change"]) (.tup [.bl false, s])
theorem memp_ok {lh : LH} {b : Nat} {p : D} {n : Int} (hB : Bag lh b) (hp : PartD n p) :
    ∃ d lh', l_some_memory [.loc b, p] lh = .ok d lh' ∧ MemP p d ∧ Fr b lh lh' ∧ Bag lh' b := by
  have hb := hB.lt
  obtain ⟨s, l1, a1, a2, a3, a4⟩ := l_of_ok (n := lh.length) (ds := abcL) (hB.app [.lst abcL]) (by omega) (by simp) (by decide) (by decide)
  obtain ⟨q, l2, b1, b2, b3, b4, b5⟩ := l_draw_ok (n := 4) a4 (by omega) (by omega)
  have hb2 := b5.lt
  have hB3 := b5.app [.lst [so "pick", so "turn"]]
  have hf2 : Fr b lh (l2 ++ [.lst [so "pick", so "turn"]]) := ((Ge.app _ _).trans a3).trans (b4.trans (Ge.app _ _))
  simp only [abcL] at a2
  obtain ⟨x, rfl, hx⟩ := abc_str a1
  have hit : ItemD (.tup [.str x, .int q]) := ⟨_, _, a1, rfl⟩
  cases hp with
  | pick s hs => exact ⟨_, _, by simp (decide := true) [l_some_memory, a2, b3, inD_loc, strsB, isS, PyData.strOk], .rest _, hf2, hB3⟩
  | turn x y hx hy _ => exact ⟨_, _, by simp (decide := true) [l_some_memory, a2, b3, inD_loc, strsB, isS, PyData.strOk], .rest _, hf2, hB3⟩
  | change =>
    obtain ⟨s, l3, c1, c2, c3, c4⟩ := l_of_ok (n := l2.length + 1) (ds := (.non :: abcL)) (hB3.app [.lst (.non :: abcL)]) (by omega) (by simp) (by decide) (by decide)
    refine ⟨_, l3, ?_, .last s c1, hf2.trans ((Ge.app _ _).trans c3), c4⟩
    simp [abcL] at c2
    simp (decide := true) [l_some_memory, a2, b3, inD_loc, strsB, isS, PyData.strOk, c2]
  | timed w q0 hw _ _ =>
    obtain ⟨q3, l3, c1, c2, c3, c4, c5⟩ := l_draw_ok (n := 3) hB3 (by omega) (by omega)
    obtain ⟨q4, l4, d1, d2, d3, d4, d5⟩ := l_draw_ok (n := 2) c5 (by omega) (by omega)
    have hf := hf2.trans c4
    have hw' := hw
    simp [timedL] at hw'
    by_cases hq3 : q3 = 0
    · refine ⟨.tup [.bl false, .non], l3, ?_, .rest _, hf, c5⟩
      rcases hw' with rfl | rfl | rfl | rfl | rfl | rfl <;> simp (decide := true) [l_some_memory, a2, b3, c3, hq3, inD_loc, strsB, isS, PyData.strOk]
    · rcases hw' with rfl | rfl | rfl | rfl | rfl | rfl
      · exact ⟨.tup [.bl true, .tup [.str x, .int q]], l3, by simp (decide := true) [l_some_memory, a2, b3, c3, hq3, inD_loc, strsB, isS, PyData.strOk], .some _ _ _ hw (by simp (decide := true)) hit, hf, c5⟩
      · exact ⟨.tup [.bl true, .non], l3, by simp (decide := true) [l_some_memory, a2, b3, c3, hq3, inD_loc, strsB, isS, PyData.strOk], .none _ _ (.inl rfl), hf, c5⟩
      · exact ⟨.tup [.bl true, .tup [.str x, .int q]], l3, by simp (decide := true) [l_some_memory, a2, b3, c3, hq3, inD_loc, strsB, isS, PyData.strOk], .some _ _ _ hw (by simp (decide := true)) hit, hf, c5⟩
      · exact ⟨.tup [.bl true, .tup [.str x, .int q]], l3, by simp (decide := true) [l_some_memory, a2, b3, c3, hq3, inD_loc, strsB, isS, PyData.strOk], .some _ _ _ hw (by simp (decide := true)) hit, hf, c5⟩
      · by_cases hq4 : q4 = 0
        · exact ⟨.tup [.bl true, .non], l4, by simp (decide := true) [l_some_memory, a2, b3, c3, hq3, d3, hq4, inD_loc, strsB, isS, PyData.strOk], .none _ _ (.inr rfl), hf.trans d4, d5⟩
        · exact ⟨.tup [.bl true, .tup [.str x, .int q]], l4, by simp (decide := true) [l_some_memory, a2, b3, c3, hq3, d3, hq4, inD_loc, strsB, isS, PyData.strOk], .some _ _ _ hw (by simp (decide := true)) hit, hf.trans d4, d5⟩
      · exact ⟨.tup [.bl true, .tup [.str x, .int q]], l3, by simp (decide := true) [l_some_memory, a2, b3, c3, hq3, inD_loc, strsB, isS, PyData.strOk], .some _ _ _ hw (by simp (decide := true)) hit, hf, c5⟩
end NP
set_option maxRecDepth 100000
set_option maxHeartbeats 4000000
namespace NP
open PySem PySem.Spec L2 NL
/-! ### letters -/
def isL (x : Str) : Bool := decide ((x.length : Int) = 1) && hasSub (Str.ofString "abc") x
theorem inD_str (lh : LH) (x y : Str) : inD (.str x) (.str y) lh = .ok (.bl (hasSub y x)) lh := rfl
theorem lenD_str (lh : LH) (x : Str) (h : x.length ≤ sizeLine) : lenD [.str x] lh = .ok (.int x.length) lh := by
  show (if x.length ≤ sizeLine then Re.ok (D.int x.length) lh else .bad) = _
  rw [if_pos h]
theorem is_letter_ok (lh : LH) (x : Str) (h : x.length ≤ sizeLine) : is_letter [.str x] lh = .ok (.bl (isL x)) lh := by
  by_cases h1 : (x.length : Int) = 1
  · simp [is_letter, isT, tyNames, lenD_str _ _ h, inD_str, isL, h1]
  · simp [is_letter, isT, tyNames, lenD_str _ _ h, inD_str, isL, h1]
/-- are_letters, of a text -/
def arL (x : Str) : Bool := !decide (x = Str.ofString "") && (x.cps.toList.all fun c => isL ⟨#[c]⟩) && decide (Txt.join (Str.ofString "") (NS.signs x) = x)
theorem bls_map (bs : List Bool) : bls (bs.map D.bl) = some bs := by
  induction bs with
  | nil => rfl
  | cons b r ih =>
    show (bls (r.map D.bl)).map (b :: ·) = _
    rw [ih]; rfl
theorem strL_map : ∀ ys : List Str, strL (ys.map D.str) = some ys
  | [] => rfl
  | y :: r => by
    show (strL (r.map D.str)).map (y :: ·) = _
    rw [strL_map r]; rfl
theorem all_comp (x : Str) (lh : LH) (a : Option D) (h : x.cps.toList.length < 60) : ∃ l2, lcN (itS x).nx (nmG 1) yesT (apM NP.is_letter (consA (varM 1) (nilA))) lh.length [a, none] (itS x).fuel 0 (lh ++ [.lst []]) = .ok (.loc lh.length) l2 ∧
    allD [.loc lh.length] l2 = .ok (.bl (x.cps.toList.all fun c => isL ⟨#[c]⟩)) l2 ∧ Gr lh l2 := by
  obtain ⟨zs, l2, p1, p2, p3, p4⟩ := lcN_inv (nx := (itS x).nx) (g := nmG 1) (t := yesT) (m := apM NP.is_letter (consA (varM 1) (nilA))) (n0 := lh.length) (e := [a, none])
    (fun i zs l => zs = ((x.cps.toList.take i).map fun c => D.bl (isL ⟨#[c]⟩)) ∧ Gr lh l) x.cps.toList.length (by unfold sizeLine; omega)
    (fun i zs l hi I h0 hlz => by
      obtain ⟨rfl, g⟩ := I
      refine ⟨.str ⟨#[x.cps.toList[i]]⟩, [a, some (.str ⟨#[x.cps.toList[i]]⟩)], l, l, .bl (isL ⟨#[x.cps.toList[i]]⟩), l, ?_, rfl, rfl, ?_, h0, ?_, ?_⟩
      · show some ((x.cps.toList[i]?).map fun c => D.str ⟨#[c]⟩) = _
        rw [List.getElem?_eq_getElem hi]; rfl
      · show is_letter [D.str ⟨#[x.cps.toList[i]]⟩] l = _
        exact is_letter_ok l ⟨#[x.cps.toList[i]]⟩ (by show 1 ≤ sizeLine; unfold sizeLine; omega)
      · rw [List.take_add_one, List.getElem?_eq_getElem hi]; simp
      · refine ⟨by have := g.len; simp; omega, fun n hn hp => ?_⟩
        rw [List.getElem?_set_ne (by omega)]
        exact g.same n hn hp)
    (fun zs l I h0 => by
      show some ((x.cps.toList[x.cps.toList.length]?).map fun c => D.str ⟨#[c]⟩) = _
      rw [List.getElem?_eq_none (Nat.le_refl _)]; rfl)
    (itS x).fuel 0 [] (lh ++ [.lst []]) (by omega) (by show _ < x.cps.toList.length + 1 + 0; omega) rfl (by simp) ⟨rfl, .app _ _⟩
  refine ⟨l2, p1, ?_, p4.2⟩
  show (match sq l2 (.loc lh.length) with | some xs => (match bls xs with | some bs => Re.ok (D.bl (bs.all id)) l2 | none => .bad) | none => .bad) = _
  rw [sq_loc, p3]
  dsimp only
  have e : zs = (x.cps.toList.map fun c => isL ⟨#[c]⟩).map D.bl := by rw [p4.1, List.take_length, List.map_map]; rfl
  rw [e, bls_map]
  simp
theorem joinD_at {lh : LH} {n : Nat} {a : Str} {ys : List Str} (h : lh[n]? = some (.lst (ys.map D.str))) (hz : (ys.map fun y : Str => y.length).sum + ys.length * a.length ≤ 16777216) : joinD (.str a) [.loc n] lh = .ok (.str (Txt.join a ys)) lh := by
  show (match sq lh (.loc n) with
    | some xs => (match strL xs with | some ys => if (ys.map fun y : Str => y.length).sum + ys.length * a.length ≤ 16777216 then Re.ok (D.str (Txt.join a ys)) lh else .bad | none => .bad)
    | none => .bad) = _
  rw [sq_loc, h]
  dsimp only
  rw [strL_map]
  dsimp only
  rw [if_pos hz]
theorem adds_one : ∀ (cs : List Nat) (l : List Str), (∀ y ∈ l, y.length = 1) → ∀ y ∈ NS.adds l cs, y.length = 1
  | [], l, h => h
  | c :: r, l, h => by
    refine adds_one r _ fun y hy => ?_
    split at hy
    · exact h y hy
    · rcases List.mem_cons.mp hy with rfl | hy
      · rfl
      · exact h y hy
theorem sum_one : ∀ l : List Str, (∀ y ∈ l, y.length = 1) → (l.map fun y : Str => y.length).sum = l.length
  | [], _ => rfl
  | y :: r, h => by
    have := sum_one r fun z hz => h z (List.mem_cons_of_mem _ hz)
    have h1 := h y List.mem_cons_self
    simp [this, h1]; omega
theorem signs_sum (x : Str) (h : x.cps.toList.length < 60) : ((NS.signs x).map fun y : Str => y.length).sum + (NS.signs x).length * (Str.ofString "").length ≤ 16777216 := by
  have h1 := signs_len x
  have h2 := sum_one (NS.signs x) fun y hy => adds_one x.cps.toList [] (fun _ h => nomatch h) y ((NS.ord_perm _).mem_iff.mp hy)
  have h3 : (Str.ofString "").length = 0 := by decide
  rw [h2, h3]
  omega
theorem srtM_str (e : LE) (lh l : LH) (m : M) (x : Str) (h : m e lh = .ok (.str x) l) (ha : x.cps.all (· < 128) = true) (hz : x.cps.toList.length < 60) : srtM m e lh = .ok (.loc l.length) (l ++ [.lst ((NS.signs x).map D.str)]) := by
  unfold srtM
  rw [h]
  show (if x.cps.all (· < 128) = true ∧ x.cps.toList.length < 60 then _ else _) = _
  rw [if_pos ⟨ha, hz⟩]
theorem are_letters_ok (lh : LH) (x : Str) (ha : x.cps.all (· < 128) = true) (h : x.cps.toList.length < 60) : ∃ l2, are_letters [.str x] lh = .ok (.bl (arL x)) l2 ∧ Gr lh l2 := by
  obtain ⟨l2, a1, a2, a3⟩ := all_comp x lh (some (.str x)) h
  by_cases h1 : x = Str.ofString ""
  · exact ⟨lh, by simp [are_letters, isT, tyNames, h1, arL], .refl⟩
  · have hw : wipeD [some (.str x), none] [1] = [some (.str x), none] := rfl
    cases hb : (x.cps.toList.all fun c => isL ⟨#[c]⟩) with
    | false =>
      rw [hb] at a2
      exact ⟨l2, by simp [are_letters, isT, tyNames, h1, arL, lcM, hw, a1, a2, hb], a3⟩
    | true =>
      rw [hb] at a2
      refine ⟨l2 ++ [.lst ((NS.signs x).map D.str)], ?_, a3.trans (.app _ _)⟩
      have hs := srtM_str [some (.str x), none] l2 l2 (varM 0) x rfl ha h
      have hj := joinD_at (lh := l2 ++ [.lst ((NS.signs x).map D.str)]) (n := l2.length) (a := Str.ofString "") (ys := NS.signs x) (by simp) (signs_sum x h)
      have ht : tyOk "str" (.str (Str.ofString "")) l2 = true := rfl
      simp [are_letters, isT, tyNames, h1, arL, lcM, hw, a1, a2, hb, hs, hj, ht]
example : (["a", "b", "c", "ab", "ac", "bc", "abc"].all fun s => arL (Str.ofString s)) = true := by decide +kernel
example : (["", "ba", "aa", "d", "abcd"].all fun s => !arL (Str.ofString s)) = true := by decide +kernel
end NP
set_option maxRecDepth 100000
set_option maxHeartbeats 4000000
namespace NP
open PySem PySem.Spec L2 NL
def Same2 (lh : LH) (d : D) : Prop := ∃ k, ∀ l1, Gr lh l1 → (∃ l2, is_part [d] l1 = .ok (.bl k) l2 ∧ Gr l1 l2) ∧ (∃ l2, l_is_part [d] l1 = .ok (.bl k) l2 ∧ Gr l1 l2)
theorem same2_mk {lh : LH} {d : D} (t : LH) (h1 : ∀ l1, Gr lh l1 → ∃ l2, is_part [d] l1 = .ok (.bl false) l2 ∧ Gr l1 l2) (h2 : ∀ l1, Gr lh l1 → l_is_part [d] l1 = .ok (.bl false) (l1 ++ t)) : Same2 lh d :=
  ⟨false, fun l1 g => ⟨h1 l1 g, _, h2 l1 g, .app _ _⟩⟩
theorem same0 {l1 : LH} {d : D} (h : is_part [d] l1 = .ok (.bl false) l1) : ∃ l2, is_part [d] l1 = .ok (.bl false) l2 ∧ Gr l1 l2 := ⟨l1, h, .refl⟩
def oddL (x : Str) (p q r s : Nat) : List D := [.non, .int 3, so "", so "change", .tup [], .tup [so "change", .int 1], .loc p, .tup [.str x], .tup [.str x, .int 0], .tup [.str x, .int 10], .tup [.str x, .bl true], .tup [.str x, so "2"], .tup [.str x, .int 2, .int 2], .loc q, .tup [so "Quiet", .int 2], .tup [so "pick", so ""], .tup [so "pick", so "ba"], .tup [so "pick", so "aa"], .tup [so "pick", so "d"], .tup [so "pick", .loc r], .tup [so "pick"], .tup [so "turn", so "a", so "a"], .tup [so "turn", so "a"], .tup [so "turn", so "a", so "d"], .tup [so "turn", so "ab", so "c"], .tup [so "turn", so "a", .non], .tup [.str x, .non], .tup [.loc s, .int 2], .tup [so "pick", so "abcd"], .tup [.str x, .int (-1)]]
@[simp] theorem il0 : isL (PySem.Str.ofString "a") = true := by decide +kernel
@[simp] theorem il1 : isL (PySem.Str.ofString "b") = true := by decide +kernel
@[simp] theorem il2 : isL (PySem.Str.ofString "c") = true := by decide +kernel
@[simp] theorem il3 : isL (PySem.Str.ofString "d") = false := by decide +kernel
@[simp] theorem il4 : isL (PySem.Str.ofString "ab") = false := by decide +kernel
@[simp] theorem sk0 : PyData.strOk (PySem.Str.ofString "") = true := by decide +kernel
@[simp] theorem sk1 : PyData.strOk (PySem.Str.ofString "change") = true := by decide +kernel
@[simp] theorem sk2 : PyData.strOk (PySem.Str.ofString "pick") = true := by decide +kernel
@[simp] theorem sk3 : PyData.strOk (PySem.Str.ofString "turn") = true := by decide +kernel
@[simp] theorem sk4 : PyData.strOk (PySem.Str.ofString "quiet") = true := by decide +kernel
@[simp] theorem sk5 : PyData.strOk (PySem.Str.ofString "first") = true := by decide +kernel
@[simp] theorem sk6 : PyData.strOk (PySem.Str.ofString "late") = true := by decide +kernel
@[simp] theorem sk7 : PyData.strOk (PySem.Str.ofString "hold") = true := by decide +kernel
@[simp] theorem sk8 : PyData.strOk (PySem.Str.ofString "both") = true := by decide +kernel
@[simp] theorem sk9 : PyData.strOk (PySem.Str.ofString "again") = true := by decide +kernel
@[simp] theorem sk10 : PyData.strOk (PySem.Str.ofString "a") = true := by decide +kernel
@[simp] theorem sk11 : PyData.strOk (PySem.Str.ofString "b") = true := by decide +kernel
@[simp] theorem sk12 : PyData.strOk (PySem.Str.ofString "c") = true := by decide +kernel
@[simp] theorem sk13 : PyData.strOk (PySem.Str.ofString "ab") = true := by decide +kernel
@[simp] theorem sk14 : PyData.strOk (PySem.Str.ofString "ac") = true := by decide +kernel
@[simp] theorem sk15 : PyData.strOk (PySem.Str.ofString "bc") = true := by decide +kernel
@[simp] theorem sk16 : PyData.strOk (PySem.Str.ofString "abc") = true := by decide +kernel
@[simp] theorem sk17 : PyData.strOk (PySem.Str.ofString "ba") = true := by decide +kernel
@[simp] theorem sk18 : PyData.strOk (PySem.Str.ofString "aa") = true := by decide +kernel
@[simp] theorem sk19 : PyData.strOk (PySem.Str.ofString "d") = true := by decide +kernel
@[simp] theorem sk20 : PyData.strOk (PySem.Str.ofString "abcd") = true := by decide +kernel
@[simp] theorem sk21 : PyData.strOk (PySem.Str.ofString "Quiet") = true := by decide +kernel
@[simp] theorem sk22 : PyData.strOk (PySem.Str.ofString "2") = true := by decide +kernel

theorem tup_timed {w : D} (hw : w ∈ timedL) (lh : LH) : inD w (.tup timedL) lh = .ok (.bl true) lh := by
  simp [timedL] at hw
  rcases hw with rfl | rfl | rfl | rfl | rfl | rfl <;> (rw [inD_tup (by decide +kernel)]; simp (decide := true) [timedL, isS])
theorem loc_timed {w : D} (hw : w ∈ timedL) {lh : LH} {n : Nat} (h : lh[n]? = some (.lst timedL)) : inD w (.loc n) lh = .ok (.bl true) lh := by
  simp [timedL] at hw
  rcases hw with rfl | rfl | rfl | rfl | rfl | rfl <;> (rw [inD_loc, h]; dsimp only; rw [if_pos (by decide +kernel)]; simp (decide := true) [timedL, isS])
theorem timed_str {s : D} (h : s ∈ timedL) : ∃ x, s = .str x ∧ PyData.strOk x = true := by
  simp [timedL] at h
  rcases h with rfl | rfl | rfl | rfl | rfl | rfl <;> exact ⟨_, rfl, by decide +kernel⟩
theorem is_letter_non (lh : LH) : is_letter [.non] lh = .ok (.bl false) lh := by simp [is_letter, isT, tyNames]
theorem pick_ok (lh : LH) (x : Str) (ha : x.cps.all (· < 128) = true) (h : x.cps.toList.length < 60) (hx : PyData.strOk x = true) : ∃ l2, is_part [.tup [so "pick", .str x]] lh = .ok (.bl (arL x)) l2 ∧ Gr lh l2 := by
  obtain ⟨l2, a, b⟩ := are_letters_ok lh x ha h
  exact ⟨l2, by simp (decide := true) [is_part, isT, tyNames, eqD, eqR, rd_tup, SeqAt.shaped, PyData.canLay0, PyData.canLayAll0, PyData.depth, PyData.depthAll, PyData.eqv, PyData.eqvAll, hx, inD_tup, strsB, isS, a], b⟩
theorem odd_0 {lh : LH} {x : Str} {p q r s : Nat} (hx : PyData.strOk x = true) (ht : ∀ l, inD (.str x) (.tup timedL) l = .ok (.bl true) l) (hl : ∀ l n, l[n]? = some (.lst timedL) → inD (.str x) (.loc n) l = .ok (.bl true) l) (hp : lh[p]? = some (.lst [so "change"])) (hq : lh[q]? = some (.lst [.str x, .int 2])) (hr : lh[r]? = some (.lst [so "a"])) (hs : lh[s]? = some (.lst [so "quiet"])) : Same2 lh (.non) :=
  same2_mk [] (fun l1 g => same0 (by
    have hp := g.get hp id
    have hq := g.get hq id
    have hr := g.get hr id
    have hs := g.get hs id
    simp (decide := true) [is_part, l_is_part, isT, tyNames, l_timed_ok, l_is_number, is_number, is_between, l_is_letter, l_are_letters, eqD, neD, eqR, rd_tup, SeqAt.shaped, PyData.canLay0, PyData.canLayAll0, PyData.depth, PyData.depthAll, PyData.eqv, PyData.eqvAll, inD_tup, inD_loc, strsB, isS, timedL, abcL, oftL, lenD_str, is_letter_ok])) (fun l1 g => by
    have hp := g.get hp id
    have hq := g.get hq id
    have hr := g.get hr id
    have hs := g.get hs id
    simp (decide := true) [is_part, l_is_part, isT, tyNames, l_timed_ok, l_is_number, is_number, is_between, l_is_letter, l_are_letters, eqD, neD, eqR, rd_tup, SeqAt.shaped, PyData.canLay0, PyData.canLayAll0, PyData.depth, PyData.depthAll, PyData.eqv, PyData.eqvAll, inD_tup, inD_loc, strsB, isS, timedL, abcL, oftL, lenD_str, is_letter_ok])
theorem odd_1 {lh : LH} {x : Str} {p q r s : Nat} (hx : PyData.strOk x = true) (ht : ∀ l, inD (.str x) (.tup timedL) l = .ok (.bl true) l) (hl : ∀ l n, l[n]? = some (.lst timedL) → inD (.str x) (.loc n) l = .ok (.bl true) l) (hp : lh[p]? = some (.lst [so "change"])) (hq : lh[q]? = some (.lst [.str x, .int 2])) (hr : lh[r]? = some (.lst [so "a"])) (hs : lh[s]? = some (.lst [so "quiet"])) : Same2 lh (.int 3) :=
  same2_mk [] (fun l1 g => same0 (by
    have hp := g.get hp id
    have hq := g.get hq id
    have hr := g.get hr id
    have hs := g.get hs id
    simp (decide := true) [is_part, l_is_part, isT, tyNames, l_timed_ok, l_is_number, is_number, is_between, l_is_letter, l_are_letters, eqD, neD, eqR, rd_tup, SeqAt.shaped, PyData.canLay0, PyData.canLayAll0, PyData.depth, PyData.depthAll, PyData.eqv, PyData.eqvAll, inD_tup, inD_loc, strsB, isS, timedL, abcL, oftL, lenD_str, is_letter_ok])) (fun l1 g => by
    have hp := g.get hp id
    have hq := g.get hq id
    have hr := g.get hr id
    have hs := g.get hs id
    simp (decide := true) [is_part, l_is_part, isT, tyNames, l_timed_ok, l_is_number, is_number, is_between, l_is_letter, l_are_letters, eqD, neD, eqR, rd_tup, SeqAt.shaped, PyData.canLay0, PyData.canLayAll0, PyData.depth, PyData.depthAll, PyData.eqv, PyData.eqvAll, inD_tup, inD_loc, strsB, isS, timedL, abcL, oftL, lenD_str, is_letter_ok])
theorem odd_2 {lh : LH} {x : Str} {p q r s : Nat} (hx : PyData.strOk x = true) (ht : ∀ l, inD (.str x) (.tup timedL) l = .ok (.bl true) l) (hl : ∀ l n, l[n]? = some (.lst timedL) → inD (.str x) (.loc n) l = .ok (.bl true) l) (hp : lh[p]? = some (.lst [so "change"])) (hq : lh[q]? = some (.lst [.str x, .int 2])) (hr : lh[r]? = some (.lst [so "a"])) (hs : lh[s]? = some (.lst [so "quiet"])) : Same2 lh (so "") :=
  same2_mk [] (fun l1 g => same0 (by
    have hp := g.get hp id
    have hq := g.get hq id
    have hr := g.get hr id
    have hs := g.get hs id
    simp (decide := true) [is_part, l_is_part, isT, tyNames, l_timed_ok, l_is_number, is_number, is_between, l_is_letter, l_are_letters, eqD, neD, eqR, rd_tup, SeqAt.shaped, PyData.canLay0, PyData.canLayAll0, PyData.depth, PyData.depthAll, PyData.eqv, PyData.eqvAll, inD_tup, inD_loc, strsB, isS, timedL, abcL, oftL, lenD_str, is_letter_ok])) (fun l1 g => by
    have hp := g.get hp id
    have hq := g.get hq id
    have hr := g.get hr id
    have hs := g.get hs id
    simp (decide := true) [is_part, l_is_part, isT, tyNames, l_timed_ok, l_is_number, is_number, is_between, l_is_letter, l_are_letters, eqD, neD, eqR, rd_tup, SeqAt.shaped, PyData.canLay0, PyData.canLayAll0, PyData.depth, PyData.depthAll, PyData.eqv, PyData.eqvAll, inD_tup, inD_loc, strsB, isS, timedL, abcL, oftL, lenD_str, is_letter_ok])
theorem odd_3 {lh : LH} {x : Str} {p q r s : Nat} (hx : PyData.strOk x = true) (ht : ∀ l, inD (.str x) (.tup timedL) l = .ok (.bl true) l) (hl : ∀ l n, l[n]? = some (.lst timedL) → inD (.str x) (.loc n) l = .ok (.bl true) l) (hp : lh[p]? = some (.lst [so "change"])) (hq : lh[q]? = some (.lst [.str x, .int 2])) (hr : lh[r]? = some (.lst [so "a"])) (hs : lh[s]? = some (.lst [so "quiet"])) : Same2 lh (so "change") :=
  same2_mk [] (fun l1 g => same0 (by
    have hp := g.get hp id
    have hq := g.get hq id
    have hr := g.get hr id
    have hs := g.get hs id
    simp (decide := true) [is_part, l_is_part, isT, tyNames, l_timed_ok, l_is_number, is_number, is_between, l_is_letter, l_are_letters, eqD, neD, eqR, rd_tup, SeqAt.shaped, PyData.canLay0, PyData.canLayAll0, PyData.depth, PyData.depthAll, PyData.eqv, PyData.eqvAll, inD_tup, inD_loc, strsB, isS, timedL, abcL, oftL, lenD_str, is_letter_ok])) (fun l1 g => by
    have hp := g.get hp id
    have hq := g.get hq id
    have hr := g.get hr id
    have hs := g.get hs id
    simp (decide := true) [is_part, l_is_part, isT, tyNames, l_timed_ok, l_is_number, is_number, is_between, l_is_letter, l_are_letters, eqD, neD, eqR, rd_tup, SeqAt.shaped, PyData.canLay0, PyData.canLayAll0, PyData.depth, PyData.depthAll, PyData.eqv, PyData.eqvAll, inD_tup, inD_loc, strsB, isS, timedL, abcL, oftL, lenD_str, is_letter_ok])
theorem odd_4 {lh : LH} {x : Str} {p q r s : Nat} (hx : PyData.strOk x = true) (ht : ∀ l, inD (.str x) (.tup timedL) l = .ok (.bl true) l) (hl : ∀ l n, l[n]? = some (.lst timedL) → inD (.str x) (.loc n) l = .ok (.bl true) l) (hp : lh[p]? = some (.lst [so "change"])) (hq : lh[q]? = some (.lst [.str x, .int 2])) (hr : lh[r]? = some (.lst [so "a"])) (hs : lh[s]? = some (.lst [so "quiet"])) : Same2 lh (.tup []) :=
  same2_mk [] (fun l1 g => same0 (by
    have hp := g.get hp id
    have hq := g.get hq id
    have hr := g.get hr id
    have hs := g.get hs id
    simp (decide := true) [is_part, l_is_part, isT, tyNames, l_timed_ok, l_is_number, is_number, is_between, l_is_letter, l_are_letters, eqD, neD, eqR, rd_tup, SeqAt.shaped, PyData.canLay0, PyData.canLayAll0, PyData.depth, PyData.depthAll, PyData.eqv, PyData.eqvAll, inD_tup, inD_loc, strsB, isS, timedL, abcL, oftL, lenD_str, is_letter_ok])) (fun l1 g => by
    have hp := g.get hp id
    have hq := g.get hq id
    have hr := g.get hr id
    have hs := g.get hs id
    simp (decide := true) [is_part, l_is_part, isT, tyNames, l_timed_ok, l_is_number, is_number, is_between, l_is_letter, l_are_letters, eqD, neD, eqR, rd_tup, SeqAt.shaped, PyData.canLay0, PyData.canLayAll0, PyData.depth, PyData.depthAll, PyData.eqv, PyData.eqvAll, inD_tup, inD_loc, strsB, isS, timedL, abcL, oftL, lenD_str, is_letter_ok])
theorem odd_5 {lh : LH} {x : Str} {p q r s : Nat} (hx : PyData.strOk x = true) (ht : ∀ l, inD (.str x) (.tup timedL) l = .ok (.bl true) l) (hl : ∀ l n, l[n]? = some (.lst timedL) → inD (.str x) (.loc n) l = .ok (.bl true) l) (hp : lh[p]? = some (.lst [so "change"])) (hq : lh[q]? = some (.lst [.str x, .int 2])) (hr : lh[r]? = some (.lst [so "a"])) (hs : lh[s]? = some (.lst [so "quiet"])) : Same2 lh (.tup [so "change", .int 1]) :=
  same2_mk [.lst timedL] (fun l1 g => same0 (by
    have hp := g.get hp id
    have hq := g.get hq id
    have hr := g.get hr id
    have hs := g.get hs id
    simp (decide := true) [is_part, l_is_part, isT, tyNames, l_timed_ok, l_is_number, is_number, is_between, l_is_letter, l_are_letters, eqD, neD, eqR, rd_tup, SeqAt.shaped, PyData.canLay0, PyData.canLayAll0, PyData.depth, PyData.depthAll, PyData.eqv, PyData.eqvAll, inD_tup, inD_loc, strsB, isS, timedL, abcL, oftL, lenD_str, is_letter_ok])) (fun l1 g => by
    have hp := g.get hp id
    have hq := g.get hq id
    have hr := g.get hr id
    have hs := g.get hs id
    simp (decide := true) [is_part, l_is_part, isT, tyNames, l_timed_ok, l_is_number, is_number, is_between, l_is_letter, l_are_letters, eqD, neD, eqR, rd_tup, SeqAt.shaped, PyData.canLay0, PyData.canLayAll0, PyData.depth, PyData.depthAll, PyData.eqv, PyData.eqvAll, inD_tup, inD_loc, strsB, isS, timedL, abcL, oftL, lenD_str, is_letter_ok])
theorem odd_6 {lh : LH} {x : Str} {p q r s : Nat} (hx : PyData.strOk x = true) (ht : ∀ l, inD (.str x) (.tup timedL) l = .ok (.bl true) l) (hl : ∀ l n, l[n]? = some (.lst timedL) → inD (.str x) (.loc n) l = .ok (.bl true) l) (hp : lh[p]? = some (.lst [so "change"])) (hq : lh[q]? = some (.lst [.str x, .int 2])) (hr : lh[r]? = some (.lst [so "a"])) (hs : lh[s]? = some (.lst [so "quiet"])) : Same2 lh (.loc p) :=
  same2_mk [] (fun l1 g => same0 (by
    have hp := g.get hp id
    have hq := g.get hq id
    have hr := g.get hr id
    have hs := g.get hs id
    simp (decide := true) [is_part, l_is_part, isT, tyNames, l_timed_ok, l_is_number, is_number, is_between, l_is_letter, l_are_letters, eqD, neD, eqR, rd_tup, SeqAt.shaped, PyData.canLay0, PyData.canLayAll0, PyData.depth, PyData.depthAll, PyData.eqv, PyData.eqvAll, inD_tup, inD_loc, strsB, isS, timedL, abcL, oftL, lenD_str, is_letter_ok, hp, tyOf])) (fun l1 g => by
    have hp := g.get hp id
    have hq := g.get hq id
    have hr := g.get hr id
    have hs := g.get hs id
    simp (decide := true) [is_part, l_is_part, isT, tyNames, l_timed_ok, l_is_number, is_number, is_between, l_is_letter, l_are_letters, eqD, neD, eqR, rd_tup, SeqAt.shaped, PyData.canLay0, PyData.canLayAll0, PyData.depth, PyData.depthAll, PyData.eqv, PyData.eqvAll, inD_tup, inD_loc, strsB, isS, timedL, abcL, oftL, lenD_str, is_letter_ok, hp, tyOf])
theorem odd_7 {lh : LH} {x : Str} {p q r s : Nat} (hx : PyData.strOk x = true) (ht : ∀ l, inD (.str x) (.tup timedL) l = .ok (.bl true) l) (hl : ∀ l n, l[n]? = some (.lst timedL) → inD (.str x) (.loc n) l = .ok (.bl true) l) (hp : lh[p]? = some (.lst [so "change"])) (hq : lh[q]? = some (.lst [.str x, .int 2])) (hr : lh[r]? = some (.lst [so "a"])) (hs : lh[s]? = some (.lst [so "quiet"])) : Same2 lh (.tup [.str x]) :=
  same2_mk [.lst timedL] (fun l1 g => same0 (by
    have hp := g.get hp id
    have hq := g.get hq id
    have hr := g.get hr id
    have hs := g.get hs id
    have ht := ht l1
    simp only [timedL] at ht
    simp (decide := true) [is_part, l_is_part, isT, tyNames, l_timed_ok, l_is_number, is_number, is_between, l_is_letter, l_are_letters, eqD, neD, eqR, rd_tup, SeqAt.shaped, PyData.canLay0, PyData.canLayAll0, PyData.depth, PyData.depthAll, PyData.eqv, PyData.eqvAll, abcL, oftL, lenD_str, is_letter_ok, ht, hl, hx, timedL])) (fun l1 g => by
    have hp := g.get hp id
    have hq := g.get hq id
    have hr := g.get hr id
    have hs := g.get hs id
    have hl := hl (l1 ++ [.lst timedL]) l1.length (by simp)
    simp only [timedL] at hl
    simp (decide := true) [is_part, l_is_part, isT, tyNames, l_timed_ok, l_is_number, is_number, is_between, l_is_letter, l_are_letters, eqD, neD, eqR, rd_tup, SeqAt.shaped, PyData.canLay0, PyData.canLayAll0, PyData.depth, PyData.depthAll, PyData.eqv, PyData.eqvAll, abcL, oftL, lenD_str, is_letter_ok, ht, hl, hx, timedL])
theorem odd_8 {lh : LH} {x : Str} {p q r s : Nat} (hx : PyData.strOk x = true) (ht : ∀ l, inD (.str x) (.tup timedL) l = .ok (.bl true) l) (hl : ∀ l n, l[n]? = some (.lst timedL) → inD (.str x) (.loc n) l = .ok (.bl true) l) (hp : lh[p]? = some (.lst [so "change"])) (hq : lh[q]? = some (.lst [.str x, .int 2])) (hr : lh[r]? = some (.lst [so "a"])) (hs : lh[s]? = some (.lst [so "quiet"])) : Same2 lh (.tup [.str x, .int 0]) :=
  same2_mk [.lst timedL] (fun l1 g => same0 (by
    have hp := g.get hp id
    have hq := g.get hq id
    have hr := g.get hr id
    have hs := g.get hs id
    have ht := ht l1
    simp only [timedL] at ht
    simp (decide := true) [is_part, l_is_part, isT, tyNames, l_timed_ok, l_is_number, is_number, is_between, l_is_letter, l_are_letters, eqD, neD, eqR, rd_tup, SeqAt.shaped, PyData.canLay0, PyData.canLayAll0, PyData.depth, PyData.depthAll, PyData.eqv, PyData.eqvAll, abcL, oftL, lenD_str, is_letter_ok, ht, hl, hx, timedL])) (fun l1 g => by
    have hp := g.get hp id
    have hq := g.get hq id
    have hr := g.get hr id
    have hs := g.get hs id
    have hl := hl (l1 ++ [.lst timedL]) l1.length (by simp)
    simp only [timedL] at hl
    simp (decide := true) [is_part, l_is_part, isT, tyNames, l_timed_ok, l_is_number, is_number, is_between, l_is_letter, l_are_letters, eqD, neD, eqR, rd_tup, SeqAt.shaped, PyData.canLay0, PyData.canLayAll0, PyData.depth, PyData.depthAll, PyData.eqv, PyData.eqvAll, abcL, oftL, lenD_str, is_letter_ok, ht, hl, hx, timedL])
theorem odd_9 {lh : LH} {x : Str} {p q r s : Nat} (hx : PyData.strOk x = true) (ht : ∀ l, inD (.str x) (.tup timedL) l = .ok (.bl true) l) (hl : ∀ l n, l[n]? = some (.lst timedL) → inD (.str x) (.loc n) l = .ok (.bl true) l) (hp : lh[p]? = some (.lst [so "change"])) (hq : lh[q]? = some (.lst [.str x, .int 2])) (hr : lh[r]? = some (.lst [so "a"])) (hs : lh[s]? = some (.lst [so "quiet"])) : Same2 lh (.tup [.str x, .int 10]) :=
  same2_mk [.lst timedL] (fun l1 g => same0 (by
    have hp := g.get hp id
    have hq := g.get hq id
    have hr := g.get hr id
    have hs := g.get hs id
    have ht := ht l1
    simp only [timedL] at ht
    simp (decide := true) [is_part, l_is_part, isT, tyNames, l_timed_ok, l_is_number, is_number, is_between, l_is_letter, l_are_letters, eqD, neD, eqR, rd_tup, SeqAt.shaped, PyData.canLay0, PyData.canLayAll0, PyData.depth, PyData.depthAll, PyData.eqv, PyData.eqvAll, abcL, oftL, lenD_str, is_letter_ok, ht, hl, hx, timedL])) (fun l1 g => by
    have hp := g.get hp id
    have hq := g.get hq id
    have hr := g.get hr id
    have hs := g.get hs id
    have hl := hl (l1 ++ [.lst timedL]) l1.length (by simp)
    simp only [timedL] at hl
    simp (decide := true) [is_part, l_is_part, isT, tyNames, l_timed_ok, l_is_number, is_number, is_between, l_is_letter, l_are_letters, eqD, neD, eqR, rd_tup, SeqAt.shaped, PyData.canLay0, PyData.canLayAll0, PyData.depth, PyData.depthAll, PyData.eqv, PyData.eqvAll, abcL, oftL, lenD_str, is_letter_ok, ht, hl, hx, timedL])
theorem odd_10 {lh : LH} {x : Str} {p q r s : Nat} (hx : PyData.strOk x = true) (ht : ∀ l, inD (.str x) (.tup timedL) l = .ok (.bl true) l) (hl : ∀ l n, l[n]? = some (.lst timedL) → inD (.str x) (.loc n) l = .ok (.bl true) l) (hp : lh[p]? = some (.lst [so "change"])) (hq : lh[q]? = some (.lst [.str x, .int 2])) (hr : lh[r]? = some (.lst [so "a"])) (hs : lh[s]? = some (.lst [so "quiet"])) : Same2 lh (.tup [.str x, .bl true]) :=
  same2_mk [.lst timedL] (fun l1 g => same0 (by
    have hp := g.get hp id
    have hq := g.get hq id
    have hr := g.get hr id
    have hs := g.get hs id
    have ht := ht l1
    simp only [timedL] at ht
    simp (decide := true) [is_part, l_is_part, isT, tyNames, l_timed_ok, l_is_number, is_number, is_between, l_is_letter, l_are_letters, eqD, neD, eqR, rd_tup, SeqAt.shaped, PyData.canLay0, PyData.canLayAll0, PyData.depth, PyData.depthAll, PyData.eqv, PyData.eqvAll, abcL, oftL, lenD_str, is_letter_ok, ht, hl, hx, timedL])) (fun l1 g => by
    have hp := g.get hp id
    have hq := g.get hq id
    have hr := g.get hr id
    have hs := g.get hs id
    have hl := hl (l1 ++ [.lst timedL]) l1.length (by simp)
    simp only [timedL] at hl
    simp (decide := true) [is_part, l_is_part, isT, tyNames, l_timed_ok, l_is_number, is_number, is_between, l_is_letter, l_are_letters, eqD, neD, eqR, rd_tup, SeqAt.shaped, PyData.canLay0, PyData.canLayAll0, PyData.depth, PyData.depthAll, PyData.eqv, PyData.eqvAll, abcL, oftL, lenD_str, is_letter_ok, ht, hl, hx, timedL])
theorem odd_11 {lh : LH} {x : Str} {p q r s : Nat} (hx : PyData.strOk x = true) (ht : ∀ l, inD (.str x) (.tup timedL) l = .ok (.bl true) l) (hl : ∀ l n, l[n]? = some (.lst timedL) → inD (.str x) (.loc n) l = .ok (.bl true) l) (hp : lh[p]? = some (.lst [so "change"])) (hq : lh[q]? = some (.lst [.str x, .int 2])) (hr : lh[r]? = some (.lst [so "a"])) (hs : lh[s]? = some (.lst [so "quiet"])) : Same2 lh (.tup [.str x, so "2"]) :=
  same2_mk [.lst timedL] (fun l1 g => same0 (by
    have hp := g.get hp id
    have hq := g.get hq id
    have hr := g.get hr id
    have hs := g.get hs id
    have ht := ht l1
    simp only [timedL] at ht
    simp (decide := true) [is_part, l_is_part, isT, tyNames, l_timed_ok, l_is_number, is_number, is_between, l_is_letter, l_are_letters, eqD, neD, eqR, rd_tup, SeqAt.shaped, PyData.canLay0, PyData.canLayAll0, PyData.depth, PyData.depthAll, PyData.eqv, PyData.eqvAll, abcL, oftL, lenD_str, is_letter_ok, ht, hl, hx, timedL])) (fun l1 g => by
    have hp := g.get hp id
    have hq := g.get hq id
    have hr := g.get hr id
    have hs := g.get hs id
    have hl := hl (l1 ++ [.lst timedL]) l1.length (by simp)
    simp only [timedL] at hl
    simp (decide := true) [is_part, l_is_part, isT, tyNames, l_timed_ok, l_is_number, is_number, is_between, l_is_letter, l_are_letters, eqD, neD, eqR, rd_tup, SeqAt.shaped, PyData.canLay0, PyData.canLayAll0, PyData.depth, PyData.depthAll, PyData.eqv, PyData.eqvAll, abcL, oftL, lenD_str, is_letter_ok, ht, hl, hx, timedL])
theorem odd_12 {lh : LH} {x : Str} {p q r s : Nat} (hx : PyData.strOk x = true) (ht : ∀ l, inD (.str x) (.tup timedL) l = .ok (.bl true) l) (hl : ∀ l n, l[n]? = some (.lst timedL) → inD (.str x) (.loc n) l = .ok (.bl true) l) (hp : lh[p]? = some (.lst [so "change"])) (hq : lh[q]? = some (.lst [.str x, .int 2])) (hr : lh[r]? = some (.lst [so "a"])) (hs : lh[s]? = some (.lst [so "quiet"])) : Same2 lh (.tup [.str x, .int 2, .int 2]) :=
  same2_mk [.lst timedL] (fun l1 g => same0 (by
    have hp := g.get hp id
    have hq := g.get hq id
    have hr := g.get hr id
    have hs := g.get hs id
    have ht := ht l1
    simp only [timedL] at ht
    simp (decide := true) [is_part, l_is_part, isT, tyNames, l_timed_ok, l_is_number, is_number, is_between, l_is_letter, l_are_letters, eqD, neD, eqR, rd_tup, SeqAt.shaped, PyData.canLay0, PyData.canLayAll0, PyData.depth, PyData.depthAll, PyData.eqv, PyData.eqvAll, abcL, oftL, lenD_str, is_letter_ok, ht, hl, hx, timedL])) (fun l1 g => by
    have hp := g.get hp id
    have hq := g.get hq id
    have hr := g.get hr id
    have hs := g.get hs id
    have hl := hl (l1 ++ [.lst timedL]) l1.length (by simp)
    simp only [timedL] at hl
    simp (decide := true) [is_part, l_is_part, isT, tyNames, l_timed_ok, l_is_number, is_number, is_between, l_is_letter, l_are_letters, eqD, neD, eqR, rd_tup, SeqAt.shaped, PyData.canLay0, PyData.canLayAll0, PyData.depth, PyData.depthAll, PyData.eqv, PyData.eqvAll, abcL, oftL, lenD_str, is_letter_ok, ht, hl, hx, timedL])
theorem odd_13 {lh : LH} {x : Str} {p q r s : Nat} (hx : PyData.strOk x = true) (ht : ∀ l, inD (.str x) (.tup timedL) l = .ok (.bl true) l) (hl : ∀ l n, l[n]? = some (.lst timedL) → inD (.str x) (.loc n) l = .ok (.bl true) l) (hp : lh[p]? = some (.lst [so "change"])) (hq : lh[q]? = some (.lst [.str x, .int 2])) (hr : lh[r]? = some (.lst [so "a"])) (hs : lh[s]? = some (.lst [so "quiet"])) : Same2 lh (.loc q) :=
  same2_mk [] (fun l1 g => same0 (by
    have hp := g.get hp id
    have hq := g.get hq id
    have hr := g.get hr id
    have hs := g.get hs id
    simp (decide := true) [is_part, l_is_part, isT, tyNames, l_timed_ok, l_is_number, is_number, is_between, l_is_letter, l_are_letters, eqD, neD, eqR, rd_tup, SeqAt.shaped, PyData.canLay0, PyData.canLayAll0, PyData.depth, PyData.depthAll, PyData.eqv, PyData.eqvAll, inD_tup, inD_loc, strsB, isS, timedL, abcL, oftL, lenD_str, is_letter_ok, hq, tyOf])) (fun l1 g => by
    have hp := g.get hp id
    have hq := g.get hq id
    have hr := g.get hr id
    have hs := g.get hs id
    simp (decide := true) [is_part, l_is_part, isT, tyNames, l_timed_ok, l_is_number, is_number, is_between, l_is_letter, l_are_letters, eqD, neD, eqR, rd_tup, SeqAt.shaped, PyData.canLay0, PyData.canLayAll0, PyData.depth, PyData.depthAll, PyData.eqv, PyData.eqvAll, inD_tup, inD_loc, strsB, isS, timedL, abcL, oftL, lenD_str, is_letter_ok, hq, tyOf])
theorem odd_14 {lh : LH} {x : Str} {p q r s : Nat} (hx : PyData.strOk x = true) (ht : ∀ l, inD (.str x) (.tup timedL) l = .ok (.bl true) l) (hl : ∀ l n, l[n]? = some (.lst timedL) → inD (.str x) (.loc n) l = .ok (.bl true) l) (hp : lh[p]? = some (.lst [so "change"])) (hq : lh[q]? = some (.lst [.str x, .int 2])) (hr : lh[r]? = some (.lst [so "a"])) (hs : lh[s]? = some (.lst [so "quiet"])) : Same2 lh (.tup [so "Quiet", .int 2]) :=
  same2_mk [.lst timedL] (fun l1 g => same0 (by
    have hp := g.get hp id
    have hq := g.get hq id
    have hr := g.get hr id
    have hs := g.get hs id
    simp (decide := true) [is_part, l_is_part, isT, tyNames, l_timed_ok, l_is_number, is_number, is_between, l_is_letter, l_are_letters, eqD, neD, eqR, rd_tup, SeqAt.shaped, PyData.canLay0, PyData.canLayAll0, PyData.depth, PyData.depthAll, PyData.eqv, PyData.eqvAll, inD_tup, inD_loc, strsB, isS, timedL, abcL, oftL, lenD_str, is_letter_ok])) (fun l1 g => by
    have hp := g.get hp id
    have hq := g.get hq id
    have hr := g.get hr id
    have hs := g.get hs id
    simp (decide := true) [is_part, l_is_part, isT, tyNames, l_timed_ok, l_is_number, is_number, is_between, l_is_letter, l_are_letters, eqD, neD, eqR, rd_tup, SeqAt.shaped, PyData.canLay0, PyData.canLayAll0, PyData.depth, PyData.depthAll, PyData.eqv, PyData.eqvAll, inD_tup, inD_loc, strsB, isS, timedL, abcL, oftL, lenD_str, is_letter_ok])
theorem odd_15 {lh : LH} {x : Str} {p q r s : Nat} (hx : PyData.strOk x = true) (ht : ∀ l, inD (.str x) (.tup timedL) l = .ok (.bl true) l) (hl : ∀ l n, l[n]? = some (.lst timedL) → inD (.str x) (.loc n) l = .ok (.bl true) l) (hp : lh[p]? = some (.lst [so "change"])) (hq : lh[q]? = some (.lst [.str x, .int 2])) (hr : lh[r]? = some (.lst [so "a"])) (hs : lh[s]? = some (.lst [so "quiet"])) : Same2 lh (.tup [so "pick", so ""]) :=
  same2_mk [.lst timedL, .lst oftL] (fun l1 g => by
    obtain ⟨l2, a, b⟩ := pick_ok l1 (Str.ofString "") (by decide +kernel) (by decide +kernel) (by decide +kernel)
    exact ⟨l2, by rw [a]; rw [show arL (Str.ofString "") = false by decide +kernel], b⟩) (fun l1 g => by
    have hp := g.get hp id
    have hq := g.get hq id
    have hr := g.get hr id
    have hs := g.get hs id
    simp (decide := true) [is_part, l_is_part, isT, tyNames, l_timed_ok, l_is_number, is_number, is_between, l_is_letter, l_are_letters, eqD, neD, eqR, rd_tup, SeqAt.shaped, PyData.canLay0, PyData.canLayAll0, PyData.depth, PyData.depthAll, PyData.eqv, PyData.eqvAll, inD_tup, inD_loc, strsB, isS, timedL, abcL, oftL, lenD_str, is_letter_ok])
theorem odd_16 {lh : LH} {x : Str} {p q r s : Nat} (hx : PyData.strOk x = true) (ht : ∀ l, inD (.str x) (.tup timedL) l = .ok (.bl true) l) (hl : ∀ l n, l[n]? = some (.lst timedL) → inD (.str x) (.loc n) l = .ok (.bl true) l) (hp : lh[p]? = some (.lst [so "change"])) (hq : lh[q]? = some (.lst [.str x, .int 2])) (hr : lh[r]? = some (.lst [so "a"])) (hs : lh[s]? = some (.lst [so "quiet"])) : Same2 lh (.tup [so "pick", so "ba"]) :=
  same2_mk [.lst timedL, .lst oftL] (fun l1 g => by
    obtain ⟨l2, a, b⟩ := pick_ok l1 (Str.ofString "ba") (by decide +kernel) (by decide +kernel) (by decide +kernel)
    exact ⟨l2, by rw [a]; rw [show arL (Str.ofString "ba") = false by decide +kernel], b⟩) (fun l1 g => by
    have hp := g.get hp id
    have hq := g.get hq id
    have hr := g.get hr id
    have hs := g.get hs id
    simp (decide := true) [is_part, l_is_part, isT, tyNames, l_timed_ok, l_is_number, is_number, is_between, l_is_letter, l_are_letters, eqD, neD, eqR, rd_tup, SeqAt.shaped, PyData.canLay0, PyData.canLayAll0, PyData.depth, PyData.depthAll, PyData.eqv, PyData.eqvAll, inD_tup, inD_loc, strsB, isS, timedL, abcL, oftL, lenD_str, is_letter_ok])
theorem odd_17 {lh : LH} {x : Str} {p q r s : Nat} (hx : PyData.strOk x = true) (ht : ∀ l, inD (.str x) (.tup timedL) l = .ok (.bl true) l) (hl : ∀ l n, l[n]? = some (.lst timedL) → inD (.str x) (.loc n) l = .ok (.bl true) l) (hp : lh[p]? = some (.lst [so "change"])) (hq : lh[q]? = some (.lst [.str x, .int 2])) (hr : lh[r]? = some (.lst [so "a"])) (hs : lh[s]? = some (.lst [so "quiet"])) : Same2 lh (.tup [so "pick", so "aa"]) :=
  same2_mk [.lst timedL, .lst oftL] (fun l1 g => by
    obtain ⟨l2, a, b⟩ := pick_ok l1 (Str.ofString "aa") (by decide +kernel) (by decide +kernel) (by decide +kernel)
    exact ⟨l2, by rw [a]; rw [show arL (Str.ofString "aa") = false by decide +kernel], b⟩) (fun l1 g => by
    have hp := g.get hp id
    have hq := g.get hq id
    have hr := g.get hr id
    have hs := g.get hs id
    simp (decide := true) [is_part, l_is_part, isT, tyNames, l_timed_ok, l_is_number, is_number, is_between, l_is_letter, l_are_letters, eqD, neD, eqR, rd_tup, SeqAt.shaped, PyData.canLay0, PyData.canLayAll0, PyData.depth, PyData.depthAll, PyData.eqv, PyData.eqvAll, inD_tup, inD_loc, strsB, isS, timedL, abcL, oftL, lenD_str, is_letter_ok])
theorem odd_18 {lh : LH} {x : Str} {p q r s : Nat} (hx : PyData.strOk x = true) (ht : ∀ l, inD (.str x) (.tup timedL) l = .ok (.bl true) l) (hl : ∀ l n, l[n]? = some (.lst timedL) → inD (.str x) (.loc n) l = .ok (.bl true) l) (hp : lh[p]? = some (.lst [so "change"])) (hq : lh[q]? = some (.lst [.str x, .int 2])) (hr : lh[r]? = some (.lst [so "a"])) (hs : lh[s]? = some (.lst [so "quiet"])) : Same2 lh (.tup [so "pick", so "d"]) :=
  same2_mk [.lst timedL, .lst oftL] (fun l1 g => by
    obtain ⟨l2, a, b⟩ := pick_ok l1 (Str.ofString "d") (by decide +kernel) (by decide +kernel) (by decide +kernel)
    exact ⟨l2, by rw [a]; rw [show arL (Str.ofString "d") = false by decide +kernel], b⟩) (fun l1 g => by
    have hp := g.get hp id
    have hq := g.get hq id
    have hr := g.get hr id
    have hs := g.get hs id
    simp (decide := true) [is_part, l_is_part, isT, tyNames, l_timed_ok, l_is_number, is_number, is_between, l_is_letter, l_are_letters, eqD, neD, eqR, rd_tup, SeqAt.shaped, PyData.canLay0, PyData.canLayAll0, PyData.depth, PyData.depthAll, PyData.eqv, PyData.eqvAll, inD_tup, inD_loc, strsB, isS, timedL, abcL, oftL, lenD_str, is_letter_ok])
theorem odd_19 {lh : LH} {x : Str} {p q r s : Nat} (hx : PyData.strOk x = true) (ht : ∀ l, inD (.str x) (.tup timedL) l = .ok (.bl true) l) (hl : ∀ l n, l[n]? = some (.lst timedL) → inD (.str x) (.loc n) l = .ok (.bl true) l) (hp : lh[p]? = some (.lst [so "change"])) (hq : lh[q]? = some (.lst [.str x, .int 2])) (hr : lh[r]? = some (.lst [so "a"])) (hs : lh[s]? = some (.lst [so "quiet"])) : Same2 lh (.tup [so "pick", .loc r]) :=
  same2_mk [.lst timedL] (fun l1 g => same0 (by
    have hp := g.get hp id
    have hq := g.get hq id
    have hr := g.get hr id
    have hs := g.get hs id
    simp (decide := true) [is_part, l_is_part, isT, tyNames, l_timed_ok, l_is_number, is_number, is_between, l_is_letter, l_are_letters, eqD, neD, eqR, rd_tup, SeqAt.shaped, PyData.canLay0, PyData.canLayAll0, PyData.depth, PyData.depthAll, PyData.eqv, PyData.eqvAll, inD_tup, inD_loc, strsB, isS, timedL, abcL, oftL, lenD_str, is_letter_ok, hr, tyOf, rd_loc, are_letters])) (fun l1 g => by
    have hp := g.get hp id
    have hq := g.get hq id
    have hr := g.get hr id
    have hs := g.get hs id
    have hr2 : (l1 ++ [.lst timedL])[r]? = _ := (Ge.app (p := fun _ => False) l1 [.lst timedL]).get hr id
    simp only [timedL] at hr2
    simp (decide := true) [is_part, l_is_part, isT, tyNames, l_timed_ok, l_is_number, is_number, is_between, l_is_letter, l_are_letters, eqD, neD, eqR, rd_tup, SeqAt.shaped, PyData.canLay0, PyData.canLayAll0, PyData.depth, PyData.depthAll, PyData.eqv, PyData.eqvAll, inD_tup, inD_loc, strsB, isS, timedL, abcL, oftL, lenD_str, is_letter_ok, hr, tyOf, rd_loc, are_letters, hr2])
theorem odd_20 {lh : LH} {x : Str} {p q r s : Nat} (hx : PyData.strOk x = true) (ht : ∀ l, inD (.str x) (.tup timedL) l = .ok (.bl true) l) (hl : ∀ l n, l[n]? = some (.lst timedL) → inD (.str x) (.loc n) l = .ok (.bl true) l) (hp : lh[p]? = some (.lst [so "change"])) (hq : lh[q]? = some (.lst [.str x, .int 2])) (hr : lh[r]? = some (.lst [so "a"])) (hs : lh[s]? = some (.lst [so "quiet"])) : Same2 lh (.tup [so "pick"]) :=
  same2_mk [.lst timedL] (fun l1 g => same0 (by
    have hp := g.get hp id
    have hq := g.get hq id
    have hr := g.get hr id
    have hs := g.get hs id
    simp (decide := true) [is_part, l_is_part, isT, tyNames, l_timed_ok, l_is_number, is_number, is_between, l_is_letter, l_are_letters, eqD, neD, eqR, rd_tup, SeqAt.shaped, PyData.canLay0, PyData.canLayAll0, PyData.depth, PyData.depthAll, PyData.eqv, PyData.eqvAll, inD_tup, inD_loc, strsB, isS, timedL, abcL, oftL, lenD_str, is_letter_ok])) (fun l1 g => by
    have hp := g.get hp id
    have hq := g.get hq id
    have hr := g.get hr id
    have hs := g.get hs id
    simp (decide := true) [is_part, l_is_part, isT, tyNames, l_timed_ok, l_is_number, is_number, is_between, l_is_letter, l_are_letters, eqD, neD, eqR, rd_tup, SeqAt.shaped, PyData.canLay0, PyData.canLayAll0, PyData.depth, PyData.depthAll, PyData.eqv, PyData.eqvAll, inD_tup, inD_loc, strsB, isS, timedL, abcL, oftL, lenD_str, is_letter_ok])
theorem odd_21 {lh : LH} {x : Str} {p q r s : Nat} (hx : PyData.strOk x = true) (ht : ∀ l, inD (.str x) (.tup timedL) l = .ok (.bl true) l) (hl : ∀ l n, l[n]? = some (.lst timedL) → inD (.str x) (.loc n) l = .ok (.bl true) l) (hp : lh[p]? = some (.lst [so "change"])) (hq : lh[q]? = some (.lst [.str x, .int 2])) (hr : lh[r]? = some (.lst [so "a"])) (hs : lh[s]? = some (.lst [so "quiet"])) : Same2 lh (.tup [so "turn", so "a", so "a"]) :=
  same2_mk [.lst timedL, .lst abcL, .lst abcL] (fun l1 g => same0 (by
    have hp := g.get hp id
    have hq := g.get hq id
    have hr := g.get hr id
    have hs := g.get hs id
    simp (decide := true) [is_part, l_is_part, isT, tyNames, l_timed_ok, l_is_number, is_number, is_between, l_is_letter, l_are_letters, eqD, neD, eqR, rd_tup, SeqAt.shaped, PyData.canLay0, PyData.canLayAll0, PyData.depth, PyData.depthAll, PyData.eqv, PyData.eqvAll, inD_tup, inD_loc, strsB, isS, timedL, abcL, oftL, lenD_str, is_letter_ok])) (fun l1 g => by
    have hp := g.get hp id
    have hq := g.get hq id
    have hr := g.get hr id
    have hs := g.get hs id
    simp (decide := true) [is_part, l_is_part, isT, tyNames, l_timed_ok, l_is_number, is_number, is_between, l_is_letter, l_are_letters, eqD, neD, eqR, rd_tup, SeqAt.shaped, PyData.canLay0, PyData.canLayAll0, PyData.depth, PyData.depthAll, PyData.eqv, PyData.eqvAll, inD_tup, inD_loc, strsB, isS, timedL, abcL, oftL, lenD_str, is_letter_ok])
theorem odd_22 {lh : LH} {x : Str} {p q r s : Nat} (hx : PyData.strOk x = true) (ht : ∀ l, inD (.str x) (.tup timedL) l = .ok (.bl true) l) (hl : ∀ l n, l[n]? = some (.lst timedL) → inD (.str x) (.loc n) l = .ok (.bl true) l) (hp : lh[p]? = some (.lst [so "change"])) (hq : lh[q]? = some (.lst [.str x, .int 2])) (hr : lh[r]? = some (.lst [so "a"])) (hs : lh[s]? = some (.lst [so "quiet"])) : Same2 lh (.tup [so "turn", so "a"]) :=
  same2_mk [.lst timedL] (fun l1 g => same0 (by
    have hp := g.get hp id
    have hq := g.get hq id
    have hr := g.get hr id
    have hs := g.get hs id
    simp (decide := true) [is_part, l_is_part, isT, tyNames, l_timed_ok, l_is_number, is_number, is_between, l_is_letter, l_are_letters, eqD, neD, eqR, rd_tup, SeqAt.shaped, PyData.canLay0, PyData.canLayAll0, PyData.depth, PyData.depthAll, PyData.eqv, PyData.eqvAll, inD_tup, inD_loc, strsB, isS, timedL, abcL, oftL, lenD_str, is_letter_ok])) (fun l1 g => by
    have hp := g.get hp id
    have hq := g.get hq id
    have hr := g.get hr id
    have hs := g.get hs id
    simp (decide := true) [is_part, l_is_part, isT, tyNames, l_timed_ok, l_is_number, is_number, is_between, l_is_letter, l_are_letters, eqD, neD, eqR, rd_tup, SeqAt.shaped, PyData.canLay0, PyData.canLayAll0, PyData.depth, PyData.depthAll, PyData.eqv, PyData.eqvAll, inD_tup, inD_loc, strsB, isS, timedL, abcL, oftL, lenD_str, is_letter_ok])
theorem odd_23 {lh : LH} {x : Str} {p q r s : Nat} (hx : PyData.strOk x = true) (ht : ∀ l, inD (.str x) (.tup timedL) l = .ok (.bl true) l) (hl : ∀ l n, l[n]? = some (.lst timedL) → inD (.str x) (.loc n) l = .ok (.bl true) l) (hp : lh[p]? = some (.lst [so "change"])) (hq : lh[q]? = some (.lst [.str x, .int 2])) (hr : lh[r]? = some (.lst [so "a"])) (hs : lh[s]? = some (.lst [so "quiet"])) : Same2 lh (.tup [so "turn", so "a", so "d"]) :=
  same2_mk [.lst timedL, .lst abcL, .lst abcL] (fun l1 g => same0 (by
    have hp := g.get hp id
    have hq := g.get hq id
    have hr := g.get hr id
    have hs := g.get hs id
    simp (decide := true) [is_part, l_is_part, isT, tyNames, l_timed_ok, l_is_number, is_number, is_between, l_is_letter, l_are_letters, eqD, neD, eqR, rd_tup, SeqAt.shaped, PyData.canLay0, PyData.canLayAll0, PyData.depth, PyData.depthAll, PyData.eqv, PyData.eqvAll, inD_tup, inD_loc, strsB, isS, timedL, abcL, oftL, lenD_str, is_letter_ok])) (fun l1 g => by
    have hp := g.get hp id
    have hq := g.get hq id
    have hr := g.get hr id
    have hs := g.get hs id
    simp (decide := true) [is_part, l_is_part, isT, tyNames, l_timed_ok, l_is_number, is_number, is_between, l_is_letter, l_are_letters, eqD, neD, eqR, rd_tup, SeqAt.shaped, PyData.canLay0, PyData.canLayAll0, PyData.depth, PyData.depthAll, PyData.eqv, PyData.eqvAll, inD_tup, inD_loc, strsB, isS, timedL, abcL, oftL, lenD_str, is_letter_ok])
theorem odd_24 {lh : LH} {x : Str} {p q r s : Nat} (hx : PyData.strOk x = true) (ht : ∀ l, inD (.str x) (.tup timedL) l = .ok (.bl true) l) (hl : ∀ l n, l[n]? = some (.lst timedL) → inD (.str x) (.loc n) l = .ok (.bl true) l) (hp : lh[p]? = some (.lst [so "change"])) (hq : lh[q]? = some (.lst [.str x, .int 2])) (hr : lh[r]? = some (.lst [so "a"])) (hs : lh[s]? = some (.lst [so "quiet"])) : Same2 lh (.tup [so "turn", so "ab", so "c"]) :=
  same2_mk [.lst timedL, .lst abcL] (fun l1 g => same0 (by
    have hp := g.get hp id
    have hq := g.get hq id
    have hr := g.get hr id
    have hs := g.get hs id
    simp (decide := true) [is_part, l_is_part, isT, tyNames, l_timed_ok, l_is_number, is_number, is_between, l_is_letter, l_are_letters, eqD, neD, eqR, rd_tup, SeqAt.shaped, PyData.canLay0, PyData.canLayAll0, PyData.depth, PyData.depthAll, PyData.eqv, PyData.eqvAll, inD_tup, inD_loc, strsB, isS, timedL, abcL, oftL, lenD_str, is_letter_ok])) (fun l1 g => by
    have hp := g.get hp id
    have hq := g.get hq id
    have hr := g.get hr id
    have hs := g.get hs id
    simp (decide := true) [is_part, l_is_part, isT, tyNames, l_timed_ok, l_is_number, is_number, is_between, l_is_letter, l_are_letters, eqD, neD, eqR, rd_tup, SeqAt.shaped, PyData.canLay0, PyData.canLayAll0, PyData.depth, PyData.depthAll, PyData.eqv, PyData.eqvAll, inD_tup, inD_loc, strsB, isS, timedL, abcL, oftL, lenD_str, is_letter_ok])
theorem odd_25 {lh : LH} {x : Str} {p q r s : Nat} (hx : PyData.strOk x = true) (ht : ∀ l, inD (.str x) (.tup timedL) l = .ok (.bl true) l) (hl : ∀ l n, l[n]? = some (.lst timedL) → inD (.str x) (.loc n) l = .ok (.bl true) l) (hp : lh[p]? = some (.lst [so "change"])) (hq : lh[q]? = some (.lst [.str x, .int 2])) (hr : lh[r]? = some (.lst [so "a"])) (hs : lh[s]? = some (.lst [so "quiet"])) : Same2 lh (.tup [so "turn", so "a", .non]) :=
  same2_mk [.lst timedL, .lst abcL] (fun l1 g => same0 (by
    have hp := g.get hp id
    have hq := g.get hq id
    have hr := g.get hr id
    have hs := g.get hs id
    simp (decide := true) [is_part, l_is_part, isT, tyNames, l_timed_ok, l_is_number, is_number, is_between, l_is_letter, l_are_letters, eqD, neD, eqR, rd_tup, SeqAt.shaped, PyData.canLay0, PyData.canLayAll0, PyData.depth, PyData.depthAll, PyData.eqv, PyData.eqvAll, inD_tup, inD_loc, strsB, isS, timedL, abcL, oftL, lenD_str, is_letter_ok, is_letter_non])) (fun l1 g => by
    have hp := g.get hp id
    have hq := g.get hq id
    have hr := g.get hr id
    have hs := g.get hs id
    simp (decide := true) [is_part, l_is_part, isT, tyNames, l_timed_ok, l_is_number, is_number, is_between, l_is_letter, l_are_letters, eqD, neD, eqR, rd_tup, SeqAt.shaped, PyData.canLay0, PyData.canLayAll0, PyData.depth, PyData.depthAll, PyData.eqv, PyData.eqvAll, inD_tup, inD_loc, strsB, isS, timedL, abcL, oftL, lenD_str, is_letter_ok, is_letter_non])
theorem odd_26 {lh : LH} {x : Str} {p q r s : Nat} (hx : PyData.strOk x = true) (ht : ∀ l, inD (.str x) (.tup timedL) l = .ok (.bl true) l) (hl : ∀ l n, l[n]? = some (.lst timedL) → inD (.str x) (.loc n) l = .ok (.bl true) l) (hp : lh[p]? = some (.lst [so "change"])) (hq : lh[q]? = some (.lst [.str x, .int 2])) (hr : lh[r]? = some (.lst [so "a"])) (hs : lh[s]? = some (.lst [so "quiet"])) : Same2 lh (.tup [.str x, .non]) :=
  same2_mk [.lst timedL] (fun l1 g => same0 (by
    have hp := g.get hp id
    have hq := g.get hq id
    have hr := g.get hr id
    have hs := g.get hs id
    have ht := ht l1
    simp only [timedL] at ht
    simp (decide := true) [is_part, l_is_part, isT, tyNames, l_timed_ok, l_is_number, is_number, is_between, l_is_letter, l_are_letters, eqD, neD, eqR, rd_tup, SeqAt.shaped, PyData.canLay0, PyData.canLayAll0, PyData.depth, PyData.depthAll, PyData.eqv, PyData.eqvAll, abcL, oftL, lenD_str, is_letter_ok, ht, hl, hx, timedL])) (fun l1 g => by
    have hp := g.get hp id
    have hq := g.get hq id
    have hr := g.get hr id
    have hs := g.get hs id
    have hl := hl (l1 ++ [.lst timedL]) l1.length (by simp)
    simp only [timedL] at hl
    simp (decide := true) [is_part, l_is_part, isT, tyNames, l_timed_ok, l_is_number, is_number, is_between, l_is_letter, l_are_letters, eqD, neD, eqR, rd_tup, SeqAt.shaped, PyData.canLay0, PyData.canLayAll0, PyData.depth, PyData.depthAll, PyData.eqv, PyData.eqvAll, abcL, oftL, lenD_str, is_letter_ok, ht, hl, hx, timedL])
theorem odd_27 {lh : LH} {x : Str} {p q r s : Nat} (hx : PyData.strOk x = true) (ht : ∀ l, inD (.str x) (.tup timedL) l = .ok (.bl true) l) (hl : ∀ l n, l[n]? = some (.lst timedL) → inD (.str x) (.loc n) l = .ok (.bl true) l) (hp : lh[p]? = some (.lst [so "change"])) (hq : lh[q]? = some (.lst [.str x, .int 2])) (hr : lh[r]? = some (.lst [so "a"])) (hs : lh[s]? = some (.lst [so "quiet"])) : Same2 lh (.tup [.loc s, .int 2]) :=
  same2_mk [] (fun l1 g => same0 (by
    have hp := g.get hp id
    have hq := g.get hq id
    have hr := g.get hr id
    have hs := g.get hs id
    simp (decide := true) [is_part, l_is_part, isT, tyNames, l_timed_ok, l_is_number, is_number, is_between, l_is_letter, l_are_letters, eqD, neD, eqR, rd_tup, SeqAt.shaped, PyData.canLay0, PyData.canLayAll0, PyData.depth, PyData.depthAll, PyData.eqv, PyData.eqvAll, inD_tup, inD_loc, strsB, isS, timedL, abcL, oftL, lenD_str, is_letter_ok, hs, tyOf, rd_loc])) (fun l1 g => by
    have hp := g.get hp id
    have hq := g.get hq id
    have hr := g.get hr id
    have hs := g.get hs id
    simp (decide := true) [is_part, l_is_part, isT, tyNames, l_timed_ok, l_is_number, is_number, is_between, l_is_letter, l_are_letters, eqD, neD, eqR, rd_tup, SeqAt.shaped, PyData.canLay0, PyData.canLayAll0, PyData.depth, PyData.depthAll, PyData.eqv, PyData.eqvAll, inD_tup, inD_loc, strsB, isS, timedL, abcL, oftL, lenD_str, is_letter_ok, hs, tyOf, rd_loc])
theorem odd_28 {lh : LH} {x : Str} {p q r s : Nat} (hx : PyData.strOk x = true) (ht : ∀ l, inD (.str x) (.tup timedL) l = .ok (.bl true) l) (hl : ∀ l n, l[n]? = some (.lst timedL) → inD (.str x) (.loc n) l = .ok (.bl true) l) (hp : lh[p]? = some (.lst [so "change"])) (hq : lh[q]? = some (.lst [.str x, .int 2])) (hr : lh[r]? = some (.lst [so "a"])) (hs : lh[s]? = some (.lst [so "quiet"])) : Same2 lh (.tup [so "pick", so "abcd"]) :=
  same2_mk [.lst timedL, .lst oftL] (fun l1 g => by
    obtain ⟨l2, a, b⟩ := pick_ok l1 (Str.ofString "abcd") (by decide +kernel) (by decide +kernel) (by decide +kernel)
    exact ⟨l2, by rw [a]; rw [show arL (Str.ofString "abcd") = false by decide +kernel], b⟩) (fun l1 g => by
    have hp := g.get hp id
    have hq := g.get hq id
    have hr := g.get hr id
    have hs := g.get hs id
    simp (decide := true) [is_part, l_is_part, isT, tyNames, l_timed_ok, l_is_number, is_number, is_between, l_is_letter, l_are_letters, eqD, neD, eqR, rd_tup, SeqAt.shaped, PyData.canLay0, PyData.canLayAll0, PyData.depth, PyData.depthAll, PyData.eqv, PyData.eqvAll, inD_tup, inD_loc, strsB, isS, timedL, abcL, oftL, lenD_str, is_letter_ok])
theorem odd_29 {lh : LH} {x : Str} {p q r s : Nat} (hx : PyData.strOk x = true) (ht : ∀ l, inD (.str x) (.tup timedL) l = .ok (.bl true) l) (hl : ∀ l n, l[n]? = some (.lst timedL) → inD (.str x) (.loc n) l = .ok (.bl true) l) (hp : lh[p]? = some (.lst [so "change"])) (hq : lh[q]? = some (.lst [.str x, .int 2])) (hr : lh[r]? = some (.lst [so "a"])) (hs : lh[s]? = some (.lst [so "quiet"])) : Same2 lh (.tup [.str x, .int (-1)]) :=
  same2_mk [.lst timedL] (fun l1 g => same0 (by
    have hp := g.get hp id
    have hq := g.get hq id
    have hr := g.get hr id
    have hs := g.get hs id
    have ht := ht l1
    simp only [timedL] at ht
    simp (decide := true) [is_part, l_is_part, isT, tyNames, l_timed_ok, l_is_number, is_number, is_between, l_is_letter, l_are_letters, eqD, neD, eqR, rd_tup, SeqAt.shaped, PyData.canLay0, PyData.canLayAll0, PyData.depth, PyData.depthAll, PyData.eqv, PyData.eqvAll, abcL, oftL, lenD_str, is_letter_ok, ht, hl, hx, timedL])) (fun l1 g => by
    have hp := g.get hp id
    have hq := g.get hq id
    have hr := g.get hr id
    have hs := g.get hs id
    have hl := hl (l1 ++ [.lst timedL]) l1.length (by simp)
    simp only [timedL] at hl
    simp (decide := true) [is_part, l_is_part, isT, tyNames, l_timed_ok, l_is_number, is_number, is_between, l_is_letter, l_are_letters, eqD, neD, eqR, rd_tup, SeqAt.shaped, PyData.canLay0, PyData.canLayAll0, PyData.depth, PyData.depthAll, PyData.eqv, PyData.eqvAll, abcL, oftL, lenD_str, is_letter_ok, ht, hl, hx, timedL])
end NP
set_option maxRecDepth 100000
set_option maxHeartbeats 4000000
namespace NP
open PySem PySem.Spec L2 NL
theorem addD_loc (lh : LH) (n m : Nat) : addD (.loc n) (.loc m) lh = match lh[n]?, lh[m]? with
    | some (.lst xs), some (.lst ys) => if xs.length + ys.length ≤ sizeLine then .ok (.loc lh.length) (lh ++ [.lst (xs ++ ys)]) else .bad
    | _, _ => .bad := rfl
theorem odd_ok {lh : LH} {b : Nat} (hB : Bag lh b) : ∃ d lh', l_odd_part [.loc b] lh = .ok d lh' ∧ Same2 lh' d ∧ Fr b lh lh' ∧ Bag lh' b := by
  have hb := hB.lt
  obtain ⟨w, l1, a1, a2, a3, a4⟩ := l_of_ok (n := lh.length) (ds := timedL) (hB.app [.lst timedL]) (by omega) (by simp) (by decide) (by decide)
  obtain ⟨x, rfl, hx⟩ := timed_str a1
  have hb1 := a4.lt
  have hl : (oddL x l1.length (l1.length + 1) (l1.length + 3) (l1.length + 4)).length = 30 := rfl
  obtain ⟨d, l2, c1, c2, c3, c4⟩ := l_of_ok (n := l1.length + 6) (ds := oddL x l1.length (l1.length + 1) (l1.length + 3) (l1.length + 4))
    (a4.app [.lst [so "change"], .lst [.str x, .int 2], .lst ((oddL x l1.length (l1.length + 1) (l1.length + 3) (l1.length + 4)).take 18), .lst [so "a"], .lst [so "quiet"], .lst ((oddL x l1.length (l1.length + 1) (l1.length + 3) (l1.length + 4)).drop 18), .lst (oddL x l1.length (l1.length + 1) (l1.length + 3) (l1.length + 4))])
    (by omega) (by simp) (by rw [hl]; omega) (by rw [hl]; omega)
  have k1 := c3.get (n := l1.length) (o := .lst [so "change"]) (by simp) (by omega)
  have k2 := c3.get (n := l1.length + 1) (o := .lst [.str x, .int 2]) (by simp) (by omega)
  have k3 := c3.get (n := l1.length + 3) (o := .lst [so "a"]) (by simp) (by omega)
  have k4 := c3.get (n := l1.length + 4) (o := .lst [so "quiet"]) (by simp) (by omega)
  have ht := fun l => tup_timed a1 l
  have hl2 := fun l n h => loc_timed a1 (lh := l) (n := n) h
  refine ⟨d, l2, ?_, ?_, ((Ge.app _ _).trans a3).trans ((Ge.app _ _).trans c3), c4⟩
  · have hsz : (30 : Nat) ≤ sizeLine := by unfold sizeLine; omega
    simp only [oddL, List.take, List.drop] at c2
    simp only [timedL] at a2
    simp [l_odd_part, l_timed_ok, timedL, a2, addD_loc, negM, hsz, c2, Nat.add_assoc]
  · simp only [oddL, List.mem_cons, List.not_mem_nil, or_false] at c1
    rcases c1 with rfl | rfl | rfl | rfl | rfl | rfl | rfl | rfl | rfl | rfl | rfl | rfl | rfl | rfl | rfl | rfl | rfl | rfl | rfl | rfl | rfl | rfl | rfl | rfl | rfl | rfl | rfl | rfl | rfl | rfl
    · exact odd_0 hx ht hl2 k1 k2 k3 k4
    · exact odd_1 hx ht hl2 k1 k2 k3 k4
    · exact odd_2 hx ht hl2 k1 k2 k3 k4
    · exact odd_3 hx ht hl2 k1 k2 k3 k4
    · exact odd_4 hx ht hl2 k1 k2 k3 k4
    · exact odd_5 hx ht hl2 k1 k2 k3 k4
    · exact odd_6 hx ht hl2 k1 k2 k3 k4
    · exact odd_7 hx ht hl2 k1 k2 k3 k4
    · exact odd_8 hx ht hl2 k1 k2 k3 k4
    · exact odd_9 hx ht hl2 k1 k2 k3 k4
    · exact odd_10 hx ht hl2 k1 k2 k3 k4
    · exact odd_11 hx ht hl2 k1 k2 k3 k4
    · exact odd_12 hx ht hl2 k1 k2 k3 k4
    · exact odd_13 hx ht hl2 k1 k2 k3 k4
    · exact odd_14 hx ht hl2 k1 k2 k3 k4
    · exact odd_15 hx ht hl2 k1 k2 k3 k4
    · exact odd_16 hx ht hl2 k1 k2 k3 k4
    · exact odd_17 hx ht hl2 k1 k2 k3 k4
    · exact odd_18 hx ht hl2 k1 k2 k3 k4
    · exact odd_19 hx ht hl2 k1 k2 k3 k4
    · exact odd_20 hx ht hl2 k1 k2 k3 k4
    · exact odd_21 hx ht hl2 k1 k2 k3 k4
    · exact odd_22 hx ht hl2 k1 k2 k3 k4
    · exact odd_23 hx ht hl2 k1 k2 k3 k4
    · exact odd_24 hx ht hl2 k1 k2 k3 k4
    · exact odd_25 hx ht hl2 k1 k2 k3 k4
    · exact odd_26 hx ht hl2 k1 k2 k3 k4
    · exact odd_27 hx ht hl2 k1 k2 k3 k4
    · exact odd_28 hx ht hl2 k1 k2 k3 k4
    · exact odd_29 hx ht hl2 k1 k2 k3 k4
/-- a part is known -/
theorem known_ok {p : D} (hp : PartD 9 p) (lh : LH) : ∃ l2, is_part [p] lh = .ok (.bl true) l2 ∧ Gr lh l2 := by
  cases hp with
  | timed w q hw h0 h1 =>
    obtain ⟨x, rfl, hx⟩ := timed_str hw
    have ht := tup_timed hw lh
    simp only [timedL] at ht
    have e1 : (1 : Int) ≤ 1 + q := by omega
    have e2 : 1 + q ≤ (9 : Int) := by omega
    exact ⟨lh, by simp (decide := true) [is_part, is_between, is_number, isT, tyNames, eqD, eqR, rd_tup, SeqAt.shaped, PyData.canLay0, PyData.canLayAll0, PyData.depth, PyData.depthAll, PyData.eqv, PyData.eqvAll, hx, ht, e1, e2], .refl⟩
  | change => exact ⟨lh, by simp (decide := true) [is_part, isT, tyNames, eqD, eqR, rd_tup, SeqAt.shaped, PyData.canLay0, PyData.canLayAll0, PyData.depth, PyData.depthAll, PyData.eqv, PyData.eqvAll, inD_tup, strsB, isS], .refl⟩
  | pick s hs =>
    have z0 : ∀ s ∈ oftL, ∃ x : Str, s = .str x ∧ x.cps.all (· < 128) = true ∧ x.cps.toList.length < 60 ∧ PyData.strOk x = true ∧ arL x = true := fun s hs => by
      simp [oftL] at hs
      rcases hs with rfl | rfl | rfl | rfl | rfl | rfl | rfl <;> exact ⟨_, rfl, by decide +kernel, by decide +kernel, by decide +kernel, by decide +kernel⟩
    obtain ⟨x, rfl, x1, x2, x3, x4⟩ := z0 s hs
    obtain ⟨l2, a, b⟩ := pick_ok lh x x1 x2 x3
    exact ⟨l2, by rw [a, x4], b⟩
  | turn x y hx hy hne =>
    have z1 : ∀ s ∈ abcL, ∃ x, s = .str x ∧ PyData.strOk x = true ∧ isL x = true ∧ x.length ≤ sizeLine := fun s hs => by
      simp [abcL] at hs
      rcases hs with rfl | rfl | rfl <;> exact ⟨_, rfl, by decide +kernel, by decide +kernel, by decide +kernel⟩
    obtain ⟨u, rfl, u1, u2, u3⟩ := z1 x hx
    obtain ⟨v, rfl, v1, v2, v3⟩ := z1 y hy
    have huv : ¬ u = v := fun h => hne (by rw [h])
    exact ⟨lh, by simp (decide := true) [is_part, isT, tyNames, eqD, eqR, rd_tup, SeqAt.shaped, PyData.canLay0, PyData.canLayAll0, PyData.depth, PyData.depthAll, PyData.eqv, PyData.eqvAll, inD_tup, strsB, isS, u1, v1, is_letter_ok _ u u3, is_letter_ok _ v v3, u2, v2, huv], .refl⟩
theorem is_timed_ok {p : D} (hp : PartD 9 p) (lh : LH) : ∃ k, is_timed [p] lh = .ok (.bl k) lh ∧ (∃ z, (∀ l, ixD p (.int 0) l = .ok z l) ∧ ∀ l n, l[n]? = some (.lst timedL) → inD z (.loc n) l = .ok (.bl k) l) ∧ ∃ m, wait_of [p] lh = .ok m lh ∧ pd 4 m = true ∧ (k = false → m = .non) ∧ (k = true → ∀ l, ixD p (.int 1) l = .ok m l) := by
  cases hp with
  | timed w q hw h0 h1 =>
    have ht := tup_timed hw lh
    have hl := fun l n h => loc_timed hw (lh := l) (n := n) h
    simp only [timedL] at ht
    exact ⟨true, by simp [is_timed, ht], ⟨_, fun l => by simp, hl⟩, .int (1 + q), by simp [wait_of, is_timed, ht], by rfl, (fun h => nomatch h), fun _ l => by simp⟩
  | change => exact ⟨false, by simp (decide := true) [is_timed, inD_tup, strsB, isS], ⟨so "change", fun l => by simp, fun l n h => by simp (decide := true) [inD_loc, h, strsB, isS, timedL]⟩, .non, by simp (decide := true) [wait_of, is_timed, inD_tup, strsB, isS], rfl, fun _ => rfl, (fun h => nomatch h)⟩
  | pick s hs => exact ⟨false, by simp (decide := true) [is_timed, inD_tup, strsB, isS], ⟨so "pick", fun l => by simp, fun l n h => by simp (decide := true) [inD_loc, h, strsB, isS, timedL]⟩, .non, by simp (decide := true) [wait_of, is_timed, inD_tup, strsB, isS], rfl, fun _ => rfl, (fun h => nomatch h)⟩
  | turn x y hx hy hne => exact ⟨false, by simp (decide := true) [is_timed, inD_tup, strsB, isS], ⟨so "turn", fun l => by simp, fun l n h => by simp (decide := true) [inD_loc, h, strsB, isS, timedL]⟩, .non, by simp (decide := true) [wait_of, is_timed, inD_tup, strsB, isS], rfl, fun _ => rfl, (fun h => nomatch h)⟩
def body2 : SM := (seqS (parS 3 4 (consA (apM NP.l_some_part (consA (varM 1) (consA (conM (.int 9)) (nilA)))) (consA (apM NP.l_odd_part (consA (varM 1) (nilA))) (nilA))))
  (seqS (asS (lstM (consA (apM NP.is_part (consA (varM 3) (nilA))) (consA (kwM0 NP.is_part [0] (consA (varM 4) (nilA))) (consA (apM NP.is_timed (consA (varM 3) (nilA))) (consA (apM NP.wait_of (consA (varM 3) (nilA))) (nilA)))))) (nmG 5))
  (seqS (asS (opM inD (opM ixD (varM 3) (conM (.int 0))) (apM0 NP.l_timed)) (nmG 6))
  (ifS (notT (truM (apM (NP.l_same 24) (consA (varM 5) (consA (lstM (consA (conM (.bl true)) (consA (apM NP.l_is_part (consA (varM 4) (nilA))) (consA (varM 6) (consA (ifM (truM (varM 6)) (opM ixD (varM 3) (conM (.int 1))) (conM .non)) (nilA)))))) (nilA)))))) (rtS (conM (.bl false))) (nxS)))))
def tail2 : SM :=
  (rtS (apM (NP.l_same 24) (consA (lstM (consA (conM (.str (PySem.Str.ofString "abc"))) (consA (conM (.tup [(.str (PySem.Str.ofString "quiet")), (.str (PySem.Str.ofString "first")), (.str (PySem.Str.ofString "late")), (.str (PySem.Str.ofString "hold")), (.str (PySem.Str.ofString "both")), (.str (PySem.Str.ofString "again"))])) (nilA)))) (consA (lstM (consA (conM (.str (PySem.Str.ofString "abc"))) (consA (callM tupleD (consA (apM0 NP.l_timed) (nilA))) (nilA)))) (nilA)))))
theorem body2_ok {lh : LH} {b : Nat} (hB : Bag lh b) (x0 d : D) (y x3 x4 x5 x6 : Option D) :
    ∃ y3 y4 y5 y6 lh', ((nmG 2) d [some x0, some (.loc b), y, x3, x4, x5, x6] lh).bd body2 = .nx [some x0, some (.loc b), some d, y3, y4, y5, y6] lh' ∧ Bag lh' b := by
  obtain ⟨p, l1, a1, a2, a3, a4⟩ := part_ok (n := 9) hB (by omega) (by omega)
  obtain ⟨o, l2, b1, b2, b3, b4⟩ := odd_ok a4
  obtain ⟨l3, c1, c2⟩ := known_ok a2 l2
  obtain ⟨k, hk⟩ := b2
  obtain ⟨⟨l4, d1, d2⟩, _⟩ := hk l3 c2
  obtain ⟨t, e1, ⟨z, z1, z2⟩, m, e3, e4, e5, e6⟩ := is_timed_ok a2 l4
  have g6 : Gr l2 (l4 ++ [.lst [.bl true, .bl k, .bl t, m], .lst timedL]) := c2.trans (d2.trans (.app _ _))
  obtain ⟨_, ⟨l7, f1, f2⟩⟩ := hk _ g6
  have hz := z2 (l4 ++ [.lst [.bl true, .bl k, .bl t, m], .lst timedL]) (l4.length + 1) (by simp)
  have hB7 : Bag l7 b := (b4.gr g6).gr f2
  have hs7 : l7[l4.length]? = some (.lst [.bl true, .bl k, .bl t, m]) := f2.get (by simp) id
  have hl7 : l4.length < l7.length := (List.getElem?_eq_some_iff.mp hs7).1
  obtain ⟨l8, h1, h2⟩ := same_ok (lh := l7 ++ [.lst [.bl true, .bl k, .bl t, m]]) (n := 5) (x := .loc l4.length) (y := .loc l7.length)
    (Sm.lstL (ds := [.bl true, .bl k, .bl t, m]) (es := [.bl true, .bl k, .bl t, m]) (by rw [sq_loc, List.getElem?_append_left hl7, hs7]) (by simp) (by simp) (SmL.pd (by simp [pdL, pd, e4]))) 24 (by omega) _ Ge.refl
  refine ⟨some p, some o, some (.loc l4.length), some (.bl t), l8, ?_, (hB7.app _).gr h2⟩
  simp only [timedL] at hz f1
  cases t with
  | true =>
    have h6 := e6 rfl
    simp [body2, a1, b1, c1, pick, d1, e1, e3, l_timed_ok, timedL, z1, hz, f1, h6, h1]
  | false =>
    have h5 := e5 rfl
    subst h5
    simp [body2, a1, b1, c1, pick, d1, e1, e3, l_timed_ok, timedL, z1, hz, f1, h1]
theorem tupleD_at {lh : LH} {n : Nat} {xs : List D} (h : lh[n]? = some (.lst xs)) : tupleD [.loc n] lh = .ok (.tup xs) lh := by
  show (match sq lh (.loc n) with | some xs => Re.ok (D.tup xs) lh | none => .bad) = _
  rw [sq_loc, h]
theorem law2_true (ns : List Int) (h : ns.length ≤ 63) : ∃ lh', law_3 [.fl (ns.map D.int)] [] = .ok (.bl true) lh' := by
  obtain ⟨b, l1, a1, a2, a3, a4⟩ := l_bag_ok ns h []
  obtain ⟨e', l2, p, q⟩ := forN_inv (nx := (itR 0 12).nx) (g := nmG 2) (body := body2)
    (fun i e l => Bag l b ∧ ∃ y x3 x4 x5 x6, e = [some (.fl (ns.map D.int)), some (.loc b), y, x3, x4, x5, x6]) 12
    (fun i e l hi I => by
      obtain ⟨hB, y, x3, x4, x5, x6, rfl⟩ := I
      obtain ⟨y3, y4, y5, y6, l', p, q⟩ := body2_ok hB (.fl (ns.map D.int)) (.int (0 + i)) y x3 x4 x5 x6
      exact ⟨.int (0 + i), _, l', by show some (if i < 12 then some (D.int (0 + i)) else none) = _; rw [if_pos hi], .inl p, q, _, _, _, _, _, rfl⟩)
    (fun e l I => rfl) 13 0 [some (.fl (ns.map D.int)), some (.loc b), none, none, none, none, none] l1 (by omega) (by omega) ⟨a3, _, _, _, _, _, rfl⟩
  obtain ⟨hB, y, x3, x4, x5, x6, rfl⟩ := q
  have e1 : law_3 = fnM 7 (
  seqS (asS (apM NP.l_bag (consA (varM 0) (nilA))) (nmG 1))
  (seqS (forS (rngI (consA (conM (.int 12)) (nilA))) (nmG 2) body2) tail2)) := rfl
  obtain ⟨l8, h1, h2⟩ := same_ok (lh := l2 ++ [.lst [so "abc", .tup timedL], .lst timedL, .lst [so "abc", .tup timedL]]) (n := 5) (x := .loc l2.length) (y := .loc (l2.length + 2))
    (Sm.lstL (ds := [so "abc", .tup timedL]) (es := [so "abc", .tup timedL]) (by simp) (by simp) (by simp) (SmL.pd (by decide))) 24 (by omega) _ Ge.refl
  refine ⟨l8, ?_⟩
  rw [e1]
  have hr : ∀ e l, rngI (consA (conM (.int 12)) (nilA)) e l = .ok (itR 0 12) l := fun e l => rfl
  simp [a1, hr, stD]
  rw [show (itR 0 12).fuel = 13 from rfl, p]
  simp only [timedL] at h1
  have htu := tupleD_at (lh := l2 ++ [.lst [so "abc", .tup timedL], .lst timedL]) (n := l2.length + 1) (xs := timedL) (by simp)
  simp only [timedL] at htu
  simp [tail2, l_timed_ok, timedL, htu, h1]
end NP
set_option maxRecDepth 100000
set_option maxHeartbeats 4000000
namespace Lw
open PySem PySem.Spec L2 NL
def top (i : Nat) : Stmt := PySem.Challenge.pw_newslate_k02_parts_known.main.body.getD i (.Pass ⟨0, 0, 0, 0⟩)
abbrev s__law_bag : Stmt := top 12
abbrev s__law_are_letters : Stmt := top 20
abbrev s__law_is_letter : Stmt := top 19
abbrev s__law_is_number : Stmt := top 18
abbrev s__law_timed : Stmt := top 17
abbrev s__law_is_part : Stmt := top 21
abbrev s__law_draw : Stmt := top 13
abbrev s__law_of : Stmt := top 14
abbrev s__law_odd_part : Stmt := top 23
abbrev s__law_same : Stmt := top 16
abbrev s__law_mixed : Stmt := top 15
abbrev s__law_some_part : Stmt := top 22
abbrev s_is_letter : Stmt := top 6
abbrev s_are_letters : Stmt := top 7
abbrev s_is_number : Stmt := top 4
abbrev s_is_between : Stmt := top 5
abbrev s_is_part : Stmt := top 8
abbrev s_is_timed : Stmt := top 9
abbrev s_wait_of : Stmt := top 10
abbrev s_law : Stmt := top 24
structure Tx (K : PySem.W.Frag) (mg : Str → Option Value) : Prop where
  n_all : mg "all" = none
  n_bool : mg "bool" = none
  n_int : mg "int" = none
  n_isinstance : mg "isinstance" = none
  n_len : mg "len" = none
  n_list : mg "list" = none
  n_range : mg "range" = none
  n_set : mg "set" = none
  n_sorted : mg "sorted" = none
  n_str : mg "str" = none
  n_tuple : mg "tuple" = none
  n_zip : mg "zip" = none
  g_LETTERS : GlobD K mg "LETTERS" (.str (PySem.Str.ofString "abc"))
  g_LONGEST : GlobD K mg "LONGEST" (.int 9)
  g_TIMED : GlobD K mg "TIMED" (.tup [(.str (PySem.Str.ofString "quiet")), (.str (PySem.Str.ofString "first")), (.str (PySem.Str.ofString "late")), (.str (PySem.Str.ofString "hold")), (.str (PySem.Str.ofString "both")), (.str (PySem.Str.ofString "again"))])
  f__law_bag : FnF K mg "_law_bag" s__law_bag
  f__law_are_letters : FnF K mg "_law_are_letters" s__law_are_letters
  f__law_is_letter : FnF K mg "_law_is_letter" s__law_is_letter
  f__law_is_number : FnF K mg "_law_is_number" s__law_is_number
  f__law_timed : FnF K mg "_law_timed" s__law_timed
  f__law_is_part : FnF K mg "_law_is_part" s__law_is_part
  f__law_draw : FnF K mg "_law_draw" s__law_draw
  f__law_of : FnF K mg "_law_of" s__law_of
  f__law_odd_part : FnF K mg "_law_odd_part" s__law_odd_part
  f__law_same : FnF K mg "_law_same" s__law_same
  f__law_mixed : FnF K mg "_law_mixed" s__law_mixed
  f__law_some_part : FnF K mg "_law_some_part" s__law_some_part
  f_is_letter : FnF K mg "is_letter" s_is_letter
  f_are_letters : FnF K mg "are_letters" s_are_letters
  f_is_number : FnF K mg "is_number" s_is_number
  f_is_between : FnF K mg "is_between" s_is_between
  f_is_part : FnF K mg "is_part" s_is_part
  f_is_timed : FnF K mg "is_timed" s_is_timed
  f_wait_of : FnF K mg "wait_of" s_wait_of
  f_law : FnF K mg "law" s_law
section
variable {P : Program} {w : World} {K : PySem.W.Frag} {mg : Str → Option Value} {base : Heap}
theorem sc__law_bag : FnScope ["_law_script", "_law_mixed_here", "_law_cell"] ["_law_script"] (defScope s__law_bag) := ⟨rfl, rfl, rfl, by decide +kernel, rfl, by decide +kernel, by decide +kernel⟩
theorem ok__law_bag (T : Tx K mg) : FnS P w K mg base "_law_bag" s__law_bag ["_law_script"] 1 NP.l_bag := by
  refine fnS_of T.f__law_bag sc__law_bag (fun _ _ _ _ _ _ us hl => match us, hl with | [_], _ => rfl) fun f cdv A outer s H E o => ?_
  exact dss_cons (ds_set (i := 1) o.nd (de_int))
      (dss_cons (ds_for o (di_seq (de_sl (de_var 0) (do_none) (do_some (de_int)))) (dg_name (i := 2) o.nd) (gd_nm) (dss_one (ds_set (i := 1) o.nd (de_op o_mod (de_callTy c_int T.n_int (by decide +kernel) (da_cons (de_op o_add (de_op o_add (de_op o_mul (de_var 1) (de_int)) (de_op o_mod (de_callTy c_int T.n_int (by decide +kernel) (da_cons (de_var 2) (da_nil))) (de_int))) (de_int)) (da_nil))) (de_int)))))
      (dss_one (ds_ret (de_lst (da_cons (de_callTy c_list T.n_list (by decide +kernel) (da_cons (de_sl (de_var 0) (do_none) (do_some (de_int))) (da_nil))) (da_cons (de_int) (da_cons (de_int) (da_cons (de_var 1) (da_cons (de_int) (da_nil))))))))))
theorem sc__law_are_letters : FnScope ["_law_value_z"] ["_law_value_z"] (defScope s__law_are_letters) := ⟨rfl, rfl, rfl, by decide +kernel, rfl, by decide +kernel, by decide +kernel⟩
theorem ok__law_are_letters (T : Tx K mg) : FnS P w K mg base "_law_are_letters" s__law_are_letters ["_law_value_z"] 1 NP.l_are_letters := by
  refine fnS_of T.f__law_are_letters sc__law_are_letters (fun _ _ _ _ _ _ us hl => match us, hl with | [_], _ => rfl) fun f cdv A outer s H E o => ?_
  exact dss_one (ds_ret (de_and (de_callB c_isi T.n_isinstance (by decide +kernel) (da_cons (de_var 0) (da_cons (de_bty T.n_str (by decide +kernel)) (da_nil)))) (de_one (de_cmp (o_in o) (de_var 0) (de_lst (da_cons (de_str) (da_cons (de_str) (da_cons (de_str) (da_cons (de_str) (da_cons (de_str) (da_cons (de_str) (da_cons (de_str) (da_nil)))))))))))))
theorem sc__law_is_letter : FnScope ["_law_value_z"] ["_law_value_z"] (defScope s__law_is_letter) := ⟨rfl, rfl, rfl, by decide +kernel, rfl, by decide +kernel, by decide +kernel⟩
theorem ok__law_is_letter (T : Tx K mg) : FnS P w K mg base "_law_is_letter" s__law_is_letter ["_law_value_z"] 1 NP.l_is_letter := by
  refine fnS_of T.f__law_is_letter sc__law_is_letter (fun _ _ _ _ _ _ us hl => match us, hl with | [_], _ => rfl) fun f cdv A outer s H E o => ?_
  exact dss_one (ds_ret (de_and (de_callB c_isi T.n_isinstance (by decide +kernel) (da_cons (de_var 0) (da_cons (de_bty T.n_str (by decide +kernel)) (da_nil)))) (de_one (de_cmp (o_in o) (de_var 0) (de_lst (da_cons (de_str) (da_cons (de_str) (da_cons (de_str) (da_nil)))))))))
theorem sc__law_is_number : FnScope ["_law_value_z"] ["_law_value_z"] (defScope s__law_is_number) := ⟨rfl, rfl, rfl, by decide +kernel, rfl, by decide +kernel, by decide +kernel⟩
theorem ok__law_is_number (T : Tx K mg) : FnS P w K mg base "_law_is_number" s__law_is_number ["_law_value_z"] 1 NP.l_is_number := by
  refine fnS_of T.f__law_is_number sc__law_is_number (fun _ _ _ _ _ _ us hl => match us, hl with | [_], _ => rfl) fun f cdv A outer s H E o => ?_
  exact dss_one (ds_ret (de_and (de_callB c_isi T.n_isinstance (by decide +kernel) (da_cons (de_var 0) (da_cons (de_bty T.n_int (by decide +kernel)) (da_nil)))) (de_one (de_not (de_callB c_isi T.n_isinstance (by decide +kernel) (da_cons (de_var 0) (da_cons (de_bty T.n_bool (by decide +kernel)) (da_nil))))))))
theorem sc__law_timed : FnScope [] [] (defScope s__law_timed) := ⟨rfl, rfl, rfl, by decide +kernel, rfl, by decide +kernel, by decide +kernel⟩
theorem ok__law_timed (T : Tx K mg) : FnS P w K mg base "_law_timed" s__law_timed [] 1 NP.l_timed := by
  refine fnS_of T.f__law_timed sc__law_timed (fun _ _ _ _ _ _ us hl => match us, hl with | [], _ => rfl) fun f cdv A outer s H E o => ?_
  exact dss_one (ds_ret (de_lst (da_cons (de_str) (da_cons (de_str) (da_cons (de_str) (da_cons (de_str) (da_cons (de_str) (da_cons (de_str) (da_nil)))))))))
theorem sc__law_is_part : FnScope ["_law_value_z", "_law_good"] ["_law_value_z"] (defScope s__law_is_part) := ⟨rfl, rfl, rfl, by decide +kernel, rfl, by decide +kernel, by decide +kernel⟩
theorem ok__law_is_part (T : Tx K mg) : FnS P w K mg base "_law_is_part" s__law_is_part ["_law_value_z"] 2 NP.l_is_part := by
  refine fnS_of T.f__law_is_part sc__law_is_part (fun _ _ _ _ _ _ us hl => match us, hl with | [_], _ => rfl) fun f cdv A outer s H E o => ?_
  exact dss_cons (ds_if (dt_w (dw_or (dt_not (dt_tru (de_callB c_isi T.n_isinstance (by decide +kernel) (da_cons (de_var 0) (da_cons (de_bty T.n_tuple (by decide +kernel)) (da_nil)))))) (dw_or (dt_cmp (o_eq o) (de_callB c_len T.n_len (by decide +kernel) (da_cons (de_var 0) (da_nil))) (de_int)) (dw_or1 (dt_not (dt_tru (de_callB c_isi T.n_isinstance (by decide +kernel) (da_cons (de_ix (de_var 0) (de_int)) (da_cons (de_bty T.n_str (by decide +kernel)) (da_nil)))))))))) (dss_one (ds_ret (de_bl))) (dss_nil))
      (dss_cons (ds_if (dt_cmp (o_in o) (de_ix (de_var 0) (de_int)) (de_fn0 o (ok__law_timed T) (by decide))) (dss_one (ds_ret (de_and (de_cmp (o_eq o) (de_callB c_len T.n_len (by decide +kernel) (da_cons (de_var 0) (da_nil))) (de_int)) (de_and (de_fn o (ok__law_is_number T) (by decide) (da_cons (de_ix (de_var 0) (de_int)) (da_nil))) (de_one (de_chain o_le o_le (de_int) (de_ix (de_var 0) (de_int)) (de_int))))))) (dss_nil))
      (dss_cons (ds_if (dt_cmp (o_eq o) (de_ix (de_var 0) (de_int)) (de_str)) (dss_one (ds_ret (de_and (de_cmp (o_eq o) (de_callB c_len T.n_len (by decide +kernel) (da_cons (de_var 0) (da_nil))) (de_int)) (de_one (de_fn o (ok__law_are_letters T) (by decide) (da_cons (de_ix (de_var 0) (de_int)) (da_nil))))))) (dss_nil))
      (dss_cons (ds_if (dt_cmp (o_eq o) (de_ix (de_var 0) (de_int)) (de_str)) (dss_cons (ds_set (i := 1) o.nd (de_and (de_cmp (o_eq o) (de_callB c_len T.n_len (by decide +kernel) (da_cons (de_var 0) (da_nil))) (de_int)) (de_and (de_fn o (ok__law_is_letter T) (by decide) (da_cons (de_ix (de_var 0) (de_int)) (da_nil))) (de_one (de_fn o (ok__law_is_letter T) (by decide) (da_cons (de_ix (de_var 0) (de_int)) (da_nil)))))))
      (dss_one (ds_ret (de_and (de_var 1) (de_one (de_cmp (o_ne o) (de_ix (de_var 0) (de_int)) (de_ix (de_var 0) (de_int)))))))) (dss_nil))
      (dss_one (ds_ret (de_and (de_cmp (o_eq o) (de_ix (de_var 0) (de_int)) (de_str)) (de_one (de_cmp (o_eq o) (de_callB c_len T.n_len (by decide +kernel) (da_cons (de_var 0) (da_nil))) (de_int)))))))))
theorem sc__law_draw : FnScope ["_law_bag_here", "_law_many", "_law_cell", "_law_digit", "_law_seed"] ["_law_bag_here", "_law_many"] (defScope s__law_draw) := ⟨rfl, rfl, rfl, by decide +kernel, rfl, by decide +kernel, by decide +kernel⟩
theorem ok__law_draw (T : Tx K mg) : FnS P w K mg base "_law_draw" s__law_draw ["_law_bag_here", "_law_many"] 1 NP.l_draw := by
  refine fnS_of T.f__law_draw sc__law_draw (fun _ _ _ _ _ _ us hl => match us, hl with | [_, _], _ => rfl) fun f cdv A outer s H E o => ?_
  exact dss_cons (ds_asg (de_op o_add (de_ix (de_var 0) (de_int)) (de_int)) (dg_sub (de_var 0) (de_int)) (gd_sub))
      (dss_cons (ds_if (dt_w (dw_and (dt_cmp (o_eq o) (de_ix (de_var 0) (de_int)) (de_int)) (dw_and1 (dt_cmp o_lt (de_ix (de_var 0) (de_int)) (de_callB c_len T.n_len (by decide +kernel) (da_cons (de_ix (de_var 0) (de_int)) (da_nil))))))) (dss_cons (ds_set (i := 2) o.nd (de_ix (de_ix (de_var 0) (de_int)) (de_ix (de_var 0) (de_int))))
      (dss_cons (ds_asg (de_op o_add (de_ix (de_var 0) (de_int)) (de_int)) (dg_sub (de_var 0) (de_int)) (gd_sub))
      (dss_one (ds_if (dt_cmp o_ge (de_var 2) (de_op o_pow (de_int) (de_int))) (dss_one (ds_asg (de_var 2) (dg_sub (de_var 0) (de_int)) (gd_sub))) (dss_one (ds_asg (de_op o_mod (de_callTy c_int T.n_int (by decide +kernel) (da_cons (de_op o_add (de_op o_add (de_op o_mul (de_ix (de_var 0) (de_int)) (de_int)) (de_op o_mul (de_op o_mod (de_callTy c_int T.n_int (by decide +kernel) (da_cons (de_var 2) (da_nil))) (de_int)) (de_int))) (de_int)) (da_nil))) (de_int)) (dg_sub (de_var 0) (de_int)) (gd_sub))))))) (dss_nil))
      (dss_cons (ds_if (dt_cmp o_gt (de_ix (de_var 0) (de_int)) (de_int)) (dss_cons (ds_set (i := 3) o.nd (de_op o_mod (de_callTy c_int T.n_int (by decide +kernel) (da_cons (de_ix (de_var 0) (de_int)) (da_nil))) (de_var 1)))
      (dss_cons (ds_asg (de_op o_fdiv (de_ix (de_var 0) (de_int)) (de_var 1)) (dg_sub (de_var 0) (de_int)) (gd_sub))
      (dss_one (ds_ret (de_var 3))))) (dss_nil))
      (dss_cons (ds_set (i := 4) o.nd (de_callTy c_int T.n_int (by decide +kernel) (da_cons (de_ix (de_var 0) (de_int)) (da_nil))))
      (dss_cons (ds_asg (de_op o_mod (de_callTy c_int T.n_int (by decide +kernel) (da_cons (de_op o_add (de_op o_add (de_op o_add (de_op o_pow (de_var 4) (de_int)) (de_op o_mul (de_var 4) (de_int))) (de_op o_mul (de_ix (de_var 0) (de_int)) (de_int))) (de_int)) (da_nil))) (de_int)) (dg_sub (de_var 0) (de_int)) (gd_sub))
      (dss_one (ds_ret (de_op o_mod (de_callTy c_int T.n_int (by decide +kernel) (da_cons (de_op o_add (de_op o_fdiv (de_ix (de_var 0) (de_int)) (de_int)) (de_op o_mul (de_op o_mod (de_callTy c_int T.n_int (by decide +kernel) (da_cons (de_ix (de_var 0) (de_int)) (da_nil))) (de_int)) (de_int))) (da_nil))) (de_var 1))))))))
theorem sc__law_of : FnScope ["_law_bag_here", "_law_some"] ["_law_bag_here", "_law_some"] (defScope s__law_of) := ⟨rfl, rfl, rfl, by decide +kernel, rfl, by decide +kernel, by decide +kernel⟩
theorem ok__law_of (T : Tx K mg) : FnS P w K mg base "_law_of" s__law_of ["_law_bag_here", "_law_some"] 2 NP.l_of := by
  refine fnS_of T.f__law_of sc__law_of (fun _ _ _ _ _ _ us hl => match us, hl with | [_, _], _ => rfl) fun f cdv A outer s H E o => ?_
  exact dss_one (ds_ret (de_ix (de_var 1) (de_fn o (ok__law_draw T) (by decide) (da_cons (de_var 0) (da_cons (de_callB c_len T.n_len (by decide +kernel) (da_cons (de_var 1) (da_nil))) (da_nil))))))
theorem sc__law_odd_part : FnScope ["_law_bag_here", "_law_word", "_law_some"] ["_law_bag_here"] (defScope s__law_odd_part) := ⟨rfl, rfl, rfl, by decide +kernel, rfl, by decide +kernel, by decide +kernel⟩
theorem ok__law_odd_part (T : Tx K mg) : FnS P w K mg base "_law_odd_part" s__law_odd_part ["_law_bag_here"] 3 NP.l_odd_part := by
  refine fnS_of T.f__law_odd_part sc__law_odd_part (fun _ _ _ _ _ _ us hl => match us, hl with | [_], _ => rfl) fun f cdv A outer s H E o => ?_
  exact dss_cons (ds_set (i := 1) o.nd (de_fn o (ok__law_of T) (by decide) (da_cons (de_var 0) (da_cons (de_fn0 o (ok__law_timed T) (by decide)) (da_nil)))))
      (dss_cons (ds_set (i := 2) o.nd (de_lst (da_cons (de_non) (da_cons (de_int) (da_cons (de_str) (da_cons (de_str) (da_cons (de_tup (da_nil)) (da_cons (de_tup (da_cons (de_str) (da_cons (de_int) (da_nil)))) (da_cons (de_lst (da_cons (de_str) (da_nil))) (da_cons (de_tup (da_cons (de_var 1) (da_nil))) (da_cons (de_tup (da_cons (de_var 1) (da_cons (de_int) (da_nil)))) (da_cons (de_tup (da_cons (de_var 1) (da_cons (de_int) (da_nil)))) (da_cons (de_tup (da_cons (de_var 1) (da_cons (de_bl) (da_nil)))) (da_cons (de_tup (da_cons (de_var 1) (da_cons (de_str) (da_nil)))) (da_cons (de_tup (da_cons (de_var 1) (da_cons (de_int) (da_cons (de_int) (da_nil))))) (da_cons (de_lst (da_cons (de_var 1) (da_cons (de_int) (da_nil)))) (da_cons (de_tup (da_cons (de_str) (da_cons (de_int) (da_nil)))) (da_cons (de_tup (da_cons (de_str) (da_cons (de_str) (da_nil)))) (da_cons (de_tup (da_cons (de_str) (da_cons (de_str) (da_nil)))) (da_cons (de_tup (da_cons (de_str) (da_cons (de_str) (da_nil)))) (da_nil)))))))))))))))))))))
      (dss_cons (ds_set (i := 2) o.nd (de_op o_add (de_var 2) (de_lst (da_cons (de_tup (da_cons (de_str) (da_cons (de_str) (da_nil)))) (da_cons (de_tup (da_cons (de_str) (da_cons (de_lst (da_cons (de_str) (da_nil))) (da_nil)))) (da_cons (de_tup (da_cons (de_str) (da_nil))) (da_cons (de_tup (da_cons (de_str) (da_cons (de_str) (da_cons (de_str) (da_nil))))) (da_cons (de_tup (da_cons (de_str) (da_cons (de_str) (da_nil)))) (da_cons (de_tup (da_cons (de_str) (da_cons (de_str) (da_cons (de_str) (da_nil))))) (da_cons (de_tup (da_cons (de_str) (da_cons (de_str) (da_cons (de_str) (da_nil))))) (da_cons (de_tup (da_cons (de_str) (da_cons (de_str) (da_cons (de_non) (da_nil))))) (da_cons (de_tup (da_cons (de_var 1) (da_cons (de_non) (da_nil)))) (da_cons (de_tup (da_cons (de_lst (da_cons (de_str) (da_nil))) (da_cons (de_int) (da_nil)))) (da_cons (de_tup (da_cons (de_str) (da_cons (de_str) (da_nil)))) (da_cons (de_tup (da_cons (de_var 1) (da_cons (de_neg (de_int)) (da_nil)))) (da_nil))))))))))))))))
      (dss_one (ds_ret (de_fn o (ok__law_of T) (by decide) (da_cons (de_var 0) (da_cons (de_var 2) (da_nil))))))))
theorem sc__law_same : FnScope ["_law_found", "_law_due", "_law_one", "_law_two"] ["_law_found", "_law_due"] (defScope s__law_same) := ⟨rfl, rfl, rfl, by decide +kernel, rfl, by decide +kernel, by decide +kernel⟩
theorem ok__law_same_ (T : Tx K mg) : ∀ k, FnS P w K mg base "_law_same" s__law_same ["_law_found", "_law_due"] k (NP.l_same k)
  | 0 => fnS_bad T.f__law_same (fun _ _ _ _ _ _ us hl => match us, hl with | [_, _], _ => rfl)
  | k + 1 => fnS_of T.f__law_same sc__law_same (fun _ _ _ _ _ _ us hl => match us, hl with | [_, _], _ => rfl) fun f cdv A outer s H E o => by
    have ih := ok__law_same_ T k
    exact dss_cons (ds_if (dt_w (dw_or (dt_cmp o_is (de_var 1) (de_non)) (dw_or1 (dt_cmp o_is (de_var 0) (de_non))))) (dss_one (ds_ret (de_and (de_cmp o_is (de_var 1) (de_non)) (de_one (de_cmp o_is (de_var 0) (de_non)))))) (dss_nil))
      (dss_cons (ds_if (dt_tru (de_callB c_isi T.n_isinstance (by decide +kernel) (da_cons (de_var 1) (da_cons (de_tup (da_cons (de_bty T.n_list (by decide +kernel)) (da_cons (de_bty T.n_tuple (by decide +kernel)) (da_nil)))) (da_nil))))) (dss_cons (ds_if (dt_w (dw_or (dt_cmp (o_ne o) (de_callB c_isi T.n_isinstance (by decide +kernel) (da_cons (de_var 0) (da_cons (de_bty T.n_list (by decide +kernel)) (da_nil)))) (de_callB c_isi T.n_isinstance (by decide +kernel) (da_cons (de_var 1) (da_cons (de_bty T.n_list (by decide +kernel)) (da_nil))))) (dw_or1 (dt_cmp (o_ne o) (de_callB c_isi T.n_isinstance (by decide +kernel) (da_cons (de_var 0) (da_cons (de_bty T.n_tuple (by decide +kernel)) (da_nil)))) (de_callB c_isi T.n_isinstance (by decide +kernel) (da_cons (de_var 1) (da_cons (de_bty T.n_tuple (by decide +kernel)) (da_nil)))))))) (dss_one (ds_ret (de_bl))) (dss_nil))
      (dss_one (ds_ret (de_and (de_cmp (o_eq o) (de_callB c_len T.n_len (by decide +kernel) (da_cons (de_var 0) (da_nil))) (de_callB c_len T.n_len (by decide +kernel) (da_cons (de_var 1) (da_nil)))) (de_one (de_callB (c_all o) T.n_all (by decide +kernel) (da_cons (de_lc [("_law_one", 2), ("_law_two", 3)] o (di_zip (da_cons (de_var 0) (da_cons (de_var 1) (da_nil))) T.n_zip) (fun _ _ _ _ _ o' => dg_tup o'.calm (dgs_cons (dg_name (i := 2) o'.nd) (dgs_cons (dg_name (i := 3) o'.nd) (dgs_nil)))) (gd_tup (gds_cons gd_nm (gds_cons gd_nm (gds_nil)))) (fun _ _ _ _ _ o' => dts_nil) (fun _ _ _ _ _ o' => de_fn o' ih (Nat.le_refl _) (da_cons (de_var 2) (da_cons (de_var 3) (da_nil))))) (da_nil)))))))) (dss_nil))
      (dss_cons (ds_if (dt_w (dw_or (dt_cmp (o_ne o) (de_callB c_isi T.n_isinstance (by decide +kernel) (da_cons (de_var 0) (da_cons (de_bty T.n_bool (by decide +kernel)) (da_nil)))) (de_callB c_isi T.n_isinstance (by decide +kernel) (da_cons (de_var 1) (da_cons (de_bty T.n_bool (by decide +kernel)) (da_nil))))) (dw_or1 (dt_cmp (o_ne o) (de_callB c_isi T.n_isinstance (by decide +kernel) (da_cons (de_var 0) (da_cons (de_bty T.n_int (by decide +kernel)) (da_nil)))) (de_callB c_isi T.n_isinstance (by decide +kernel) (da_cons (de_var 1) (da_cons (de_bty T.n_int (by decide +kernel)) (da_nil)))))))) (dss_one (ds_ret (de_bl))) (dss_nil))
      (dss_one (ds_ret (de_and (de_cmp (o_eq o) (de_callB c_isi T.n_isinstance (by decide +kernel) (da_cons (de_var 0) (da_cons (de_bty T.n_str (by decide +kernel)) (da_nil)))) (de_callB c_isi T.n_isinstance (by decide +kernel) (da_cons (de_var 1) (da_cons (de_bty T.n_str (by decide +kernel)) (da_nil))))) (de_one (de_cmp (o_eq o) (de_var 0) (de_var 1))))))))
theorem sc__law_mixed : FnScope ["_law_bag_here", "_law_some", "_law_left", "_law_found"] ["_law_bag_here", "_law_some"] (defScope s__law_mixed) := ⟨rfl, rfl, rfl, by decide +kernel, rfl, by decide +kernel, by decide +kernel⟩
theorem ok__law_mixed (T : Tx K mg) : FnS P w K mg base "_law_mixed" s__law_mixed ["_law_bag_here", "_law_some"] 2 NP.l_mixed := by
  refine fnS_of T.f__law_mixed sc__law_mixed (fun _ _ _ _ _ _ us hl => match us, hl with | [_, _], _ => rfl) fun f cdv A outer s H E o => ?_
  exact dss_cons (ds_par (i := 2) (j := 3) o.calm o.nd (da_cons (de_callTy c_list T.n_list (by decide +kernel) (da_cons (de_var 1) (da_nil))) (da_cons (de_lst (da_nil)) (da_nil))))
      (dss_cons (ds_while fuel0 o (dt_cmp (o_ne o) (de_var 2) (de_lst (da_nil))) (dss_one (ds_expr (de_mt PySem.F.plainAttrs_list PySem.F.slot_list_append PySem.F.type_list_append m_append (de_var 3) (da_cons (de_mt PySem.F.plainAttrs_list PySem.F.slot_list_pop PySem.F.type_list_pop m_pop (de_var 2) (da_cons (de_fn o (ok__law_draw T) (by decide) (da_cons (de_var 0) (da_cons (de_callB c_len T.n_len (by decide +kernel) (da_cons (de_var 2) (da_nil))) (da_nil)))) (da_nil))) (da_nil))))))
      (dss_one (ds_ret (de_var 3))))
theorem sc__law_some_part : FnScope ["_law_bag_here", "_law_longest", "_law_way", "_law_pair"] ["_law_bag_here", "_law_longest"] (defScope s__law_some_part) := ⟨rfl, rfl, rfl, by decide +kernel, rfl, by decide +kernel, by decide +kernel⟩
theorem ok__law_some_part (T : Tx K mg) : FnS P w K mg base "_law_some_part" s__law_some_part ["_law_bag_here", "_law_longest"] 3 NP.l_some_part := by
  refine fnS_of T.f__law_some_part sc__law_some_part (fun _ _ _ _ _ _ us hl => match us, hl with | [_, _], _ => rfl) fun f cdv A outer s H E o => ?_
  exact dss_cons (ds_set (i := 2) o.nd (de_fn o (ok__law_draw T) (by decide) (da_cons (de_var 0) (da_cons (de_int) (da_nil)))))
      (dss_cons (ds_if (dt_cmp o_lt (de_var 2) (de_int)) (dss_one (ds_ret (de_tup (da_cons (de_ix (de_fn0 o (ok__law_timed T) (by decide)) (de_var 2)) (da_cons (de_op o_add (de_int) (de_fn o (ok__law_draw T) (by decide) (da_cons (de_var 0) (da_cons (de_var 1) (da_nil))))) (da_nil)))))) (dss_nil))
      (dss_cons (ds_if (dt_cmp (o_eq o) (de_var 2) (de_int)) (dss_one (ds_ret (de_tup (da_cons (de_str) (da_nil))))) (dss_nil))
      (dss_cons (ds_if (dt_cmp (o_eq o) (de_var 2) (de_int)) (dss_one (ds_ret (de_tup (da_cons (de_str) (da_cons (de_fn o (ok__law_of T) (by decide) (da_cons (de_var 0) (da_cons (de_lst (da_cons (de_str) (da_cons (de_str) (da_cons (de_str) (da_cons (de_str) (da_cons (de_str) (da_cons (de_str) (da_cons (de_str) (da_nil))))))))) (da_nil)))) (da_nil)))))) (dss_nil))
      (dss_cons (ds_set (i := 3) o.nd (de_fn o (ok__law_mixed T) (by decide) (da_cons (de_var 0) (da_cons (de_lst (da_cons (de_str) (da_cons (de_str) (da_cons (de_str) (da_nil))))) (da_nil)))))
      (dss_one (ds_ret (de_tup (da_cons (de_str) (da_cons (de_ix (de_var 3) (de_int)) (da_cons (de_ix (de_var 3) (de_int)) (da_nil)))))))))))
theorem sc_is_letter : FnScope ["value"] ["value"] (defScope s_is_letter) := ⟨rfl, rfl, rfl, by decide +kernel, rfl, by decide +kernel, by decide +kernel⟩
theorem ok_is_letter (T : Tx K mg) : FnS P w K mg base "is_letter" s_is_letter ["value"] 1 NP.is_letter := by
  refine fnS_of T.f_is_letter sc_is_letter (fun _ _ _ _ _ _ us hl => match us, hl with | [_], _ => rfl) fun f cdv A outer s H E o => ?_
  exact dss_one (ds_ret (de_and (de_callB c_isi T.n_isinstance (by decide +kernel) (da_cons (de_var 0) (da_cons (de_bty T.n_str (by decide +kernel)) (da_nil)))) (de_and (de_cmp (o_eq o) (de_callB c_len T.n_len (by decide +kernel) (da_cons (de_var 0) (da_nil))) (de_int)) (de_one (de_cmp (o_in o) (de_var 0) (de_g T.g_LETTERS))))))
theorem sc_are_letters : FnScope ["value", "sign"] ["value"] (defScope s_are_letters) := ⟨rfl, rfl, rfl, by decide +kernel, rfl, by decide +kernel, by decide +kernel⟩
theorem ok_are_letters (T : Tx K mg) : FnS P w K mg base "are_letters" s_are_letters ["value"] 2 NP.are_letters := by
  refine fnS_of T.f_are_letters sc_are_letters (fun _ _ _ _ _ _ us hl => match us, hl with | [_], _ => rfl) fun f cdv A outer s H E o => ?_
  exact dss_cons (ds_if (dt_w (dw_or (dt_not (dt_tru (de_callB c_isi T.n_isinstance (by decide +kernel) (da_cons (de_var 0) (da_cons (de_bty T.n_str (by decide +kernel)) (da_nil)))))) (dw_or (dt_cmp (o_eq o) (de_var 0) (de_str)) (dw_or1 (dt_not (dt_tru (de_callB (c_all o) T.n_all (by decide +kernel) (da_cons (de_lc [("sign", 1)] o (di_seq (de_var 0)) (fun _ _ _ _ _ o' => dg_name (i := 1) o'.nd) (gd_nm) (fun _ _ _ _ _ o' => dts_nil) (fun _ _ _ _ _ o' => de_fn o' (ok_is_letter T) (by decide) (da_cons (de_var 1) (da_nil)))) (da_nil))))))))) (dss_one (ds_ret (de_bl))) (dss_nil))
      (dss_one (ds_ret (de_cmp (o_eq o) (de_mt PySem.F.plainAttrs_str PySem.F.slot_str_join PySem.F.type_str_join m_join (de_str) (da_cons (de_srt o (de_var 0) T.n_sorted T.n_set) (da_nil))) (de_var 0))))
theorem sc_is_number : FnScope ["value"] ["value"] (defScope s_is_number) := ⟨rfl, rfl, rfl, by decide +kernel, rfl, by decide +kernel, by decide +kernel⟩
theorem ok_is_number (T : Tx K mg) : FnS P w K mg base "is_number" s_is_number ["value"] 1 NP.is_number := by
  refine fnS_of T.f_is_number sc_is_number (fun _ _ _ _ _ _ us hl => match us, hl with | [_], _ => rfl) fun f cdv A outer s H E o => ?_
  exact dss_one (ds_ret (de_and (de_callB c_isi T.n_isinstance (by decide +kernel) (da_cons (de_var 0) (da_cons (de_bty T.n_int (by decide +kernel)) (da_nil)))) (de_one (de_not (de_callB c_isi T.n_isinstance (by decide +kernel) (da_cons (de_var 0) (da_cons (de_bty T.n_bool (by decide +kernel)) (da_nil))))))))
theorem sc_is_between : FnScope ["value", "low", "high"] ["value", "low", "high"] (defScope s_is_between) := ⟨rfl, rfl, rfl, by decide +kernel, rfl, by decide +kernel, by decide +kernel⟩
theorem ok_is_between (T : Tx K mg) : FnS P w K mg base "is_between" s_is_between ["value", "low", "high"] 2 NP.is_between := by
  refine fnS_of T.f_is_between sc_is_between (fun _ _ _ _ _ _ us hl => match us, hl with | [_, _, _], _ => rfl) fun f cdv A outer s H E o => ?_
  exact dss_one (ds_ret (de_and (de_fn o (ok_is_number T) (by decide) (da_cons (de_var 0) (da_nil))) (de_one (de_chain o_le o_le (de_var 1) (de_var 0) (de_var 2)))))
theorem sc_is_part : FnScope ["value"] ["value"] (defScope s_is_part) := ⟨rfl, rfl, rfl, by decide +kernel, rfl, by decide +kernel, by decide +kernel⟩
theorem ok_is_part (T : Tx K mg) : FnS P w K mg base "is_part" s_is_part ["value"] 3 NP.is_part := by
  refine fnS_of T.f_is_part sc_is_part (fun _ _ _ _ _ _ us hl => match us, hl with | [_], _ => rfl) fun f cdv A outer s H E o => ?_
  exact dss_cons (ds_if (dt_w (dw_or (dt_not (dt_tru (de_callB c_isi T.n_isinstance (by decide +kernel) (da_cons (de_var 0) (da_cons (de_bty T.n_tuple (by decide +kernel)) (da_nil)))))) (dw_or (dt_cmp (o_eq o) (de_var 0) (de_tup (da_nil))) (dw_or1 (dt_not (dt_tru (de_callB c_isi T.n_isinstance (by decide +kernel) (da_cons (de_ix (de_var 0) (de_int)) (da_cons (de_bty T.n_str (by decide +kernel)) (da_nil)))))))))) (dss_one (ds_ret (de_bl))) (dss_nil))
      (dss_cons (ds_if (dt_cmp (o_in o) (de_ix (de_var 0) (de_int)) (de_g T.g_TIMED)) (dss_one (ds_ret (de_and (de_cmp (o_eq o) (de_callB c_len T.n_len (by decide +kernel) (da_cons (de_var 0) (da_nil))) (de_int)) (de_one (de_fn o (ok_is_between T) (by decide) (da_cons (de_ix (de_var 0) (de_int)) (da_cons (de_int) (da_cons (de_g T.g_LONGEST) (da_nil))))))))) (dss_nil))
      (dss_cons (ds_if (dt_cmp (o_eq o) (de_ix (de_var 0) (de_int)) (de_str)) (dss_one (ds_ret (de_and (de_cmp (o_eq o) (de_callB c_len T.n_len (by decide +kernel) (da_cons (de_var 0) (da_nil))) (de_int)) (de_one (de_fn o (ok_are_letters T) (by decide) (da_cons (de_ix (de_var 0) (de_int)) (da_nil))))))) (dss_nil))
      (dss_cons (ds_if (dt_cmp (o_eq o) (de_ix (de_var 0) (de_int)) (de_str)) (dss_one (ds_ret (de_and (de_cmp (o_eq o) (de_callB c_len T.n_len (by decide +kernel) (da_cons (de_var 0) (da_nil))) (de_int)) (de_and (de_fn o (ok_is_letter T) (by decide) (da_cons (de_ix (de_var 0) (de_int)) (da_nil))) (de_and (de_fn o (ok_is_letter T) (by decide) (da_cons (de_ix (de_var 0) (de_int)) (da_nil))) (de_one (de_cmp (o_ne o) (de_ix (de_var 0) (de_int)) (de_ix (de_var 0) (de_int))))))))) (dss_nil))
      (dss_one (ds_ret (de_cmp (o_eq o) (de_var 0) (de_tup (da_cons (de_str) (da_nil)))))))))
theorem sc_is_timed : FnScope ["part"] ["part"] (defScope s_is_timed) := ⟨rfl, rfl, rfl, by decide +kernel, rfl, by decide +kernel, by decide +kernel⟩
theorem ok_is_timed (T : Tx K mg) : FnS P w K mg base "is_timed" s_is_timed ["part"] 1 NP.is_timed := by
  refine fnS_of T.f_is_timed sc_is_timed (fun _ _ _ _ _ _ us hl => match us, hl with | [_], _ => rfl) fun f cdv A outer s H E o => ?_
  exact dss_one (ds_ret (de_cmp (o_in o) (de_ix (de_var 0) (de_int)) (de_g T.g_TIMED)))
theorem sc_wait_of : FnScope ["part"] ["part"] (defScope s_wait_of) := ⟨rfl, rfl, rfl, by decide +kernel, rfl, by decide +kernel, by decide +kernel⟩
theorem ok_wait_of (T : Tx K mg) : FnS P w K mg base "wait_of" s_wait_of ["part"] 2 NP.wait_of := by
  refine fnS_of T.f_wait_of sc_wait_of (fun _ _ _ _ _ _ us hl => match us, hl with | [_], _ => rfl) fun f cdv A outer s H E o => ?_
  exact dss_one (ds_ret (de_if (dt_tru (de_fn o (ok_is_timed T) (by decide) (da_cons (de_var 0) (da_nil)))) (de_ix (de_var 0) (de_int)) (de_non)))
theorem sc_law : FnScope ["_law_script", "_law_bag_here", "_law_turn", "_law_part", "_law_odd", "_law_found", "_law_timed_here"] ["_law_script"] (defScope s_law) := ⟨rfl, rfl, rfl, by decide +kernel, rfl, by decide +kernel, by decide +kernel⟩
theorem ok_law (T : Tx K mg) : FnS P w K mg base "law" s_law ["_law_script"] 25 NP.law_3 := by
  refine fnS_of T.f_law sc_law (fun _ _ _ _ _ _ us hl => match us, hl with | [_], _ => rfl) fun f cdv A outer s H E o => ?_
  exact dss_cons (ds_set (i := 1) o.nd (de_fn o (ok__law_bag T) (by decide) (da_cons (de_var 0) (da_nil))))
      (dss_cons (ds_for o (di_range1 (da_cons (de_int) (da_nil)) T.n_range) (dg_name (i := 2) o.nd) (gd_nm) (dss_cons (ds_par (i := 3) (j := 4) o.calm o.nd (da_cons (de_fn o (ok__law_some_part T) (by decide) (da_cons (de_var 1) (da_cons (de_int) (da_nil)))) (da_cons (de_fn o (ok__law_odd_part T) (by decide) (da_cons (de_var 1) (da_nil))) (da_nil))))
      (dss_cons (ds_set (i := 5) o.nd (de_lst (da_cons (de_fn o (ok_is_part T) (by decide) (da_cons (de_var 3) (da_nil))) (da_cons (de_fnK0 [0] ["value"] o (ok_is_part T) (by decide) (dk_cons (de_var 4) (dk_nil)) (fun _ _ _ _ _ _ ws h2 => match ws, h2 with | [_], _ => rfl)) (da_cons (de_fn o (ok_is_timed T) (by decide) (da_cons (de_var 3) (da_nil))) (da_cons (de_fn o (ok_wait_of T) (by decide) (da_cons (de_var 3) (da_nil))) (da_nil)))))))
      (dss_cons (ds_set (i := 6) o.nd (de_cmp (o_in o) (de_ix (de_var 3) (de_int)) (de_fn0 o (ok__law_timed T) (by decide))))
      (dss_one (ds_if (dt_not (dt_tru (de_fn o (ok__law_same_ T 24) (by decide) (da_cons (de_var 5) (da_cons (de_lst (da_cons (de_bl) (da_cons (de_fn o (ok__law_is_part T) (by decide) (da_cons (de_var 4) (da_nil))) (da_cons (de_var 6) (da_cons (de_if (dt_tru (de_var 6)) (de_ix (de_var 3) (de_int)) (de_non)) (da_nil)))))) (da_nil)))))) (dss_one (ds_ret (de_bl))) (dss_nil)))))))
      (dss_one (ds_ret (de_fn o (ok__law_same_ T 24) (by decide) (da_cons (de_lst (da_cons (de_g T.g_LETTERS) (da_cons (de_g T.g_TIMED) (da_nil)))) (da_cons (de_lst (da_cons (de_str) (da_cons (de_callTy c_tuple T.n_tuple (by decide +kernel) (da_cons (de_fn0 o (ok__law_timed T) (by decide)) (da_nil))) (da_nil)))) (da_nil)))))))
end
end Lw
namespace Lw
open PySem PySem.Spec L2 NL
theorem law_true : ∀ ns : List Int, ns.length ≤ 63 → ∃ lh', NP.law_3 [.fl (ns.map D.int)] [] = .ok (.bl true) lh' := NP.law2_true
end Lw
set_option maxRecDepth 100000
set_option maxHeartbeats 4000000
namespace Lw
open PySem PySem.Spec L2 NL
theorem tx {K : PySem.W.Frag} {h : Heap} {mg : Str → Option Value} (X : K.In h) (G : h.Ns mainGlobals mg)
    {t_LETTERS : Tok}
    {t_LONGEST : Tok}
    {p_TIMED : Addr} {dd_TIMED : Option Addr} {us_TIMED : List Value} {n_TIMED : Nat} {sl_TIMED : Array (Option Value)}
    {f0 : Addr} {od0 an0 : Option Addr} {sl0 : Array (Option Value)} {oc0 kV0 dc0 pm0 cd0 ct0 : Value}
    {f1 : Addr} {od1 an1 : Option Addr} {sl1 : Array (Option Value)} {oc1 kV1 dc1 pm1 cd1 ct1 : Value}
    {f2 : Addr} {od2 an2 : Option Addr} {sl2 : Array (Option Value)} {oc2 kV2 dc2 pm2 cd2 ct2 : Value}
    {f3 : Addr} {od3 an3 : Option Addr} {sl3 : Array (Option Value)} {oc3 kV3 dc3 pm3 cd3 ct3 : Value}
    {f4 : Addr} {od4 an4 : Option Addr} {sl4 : Array (Option Value)} {oc4 kV4 dc4 pm4 cd4 ct4 : Value}
    {f5 : Addr} {od5 an5 : Option Addr} {sl5 : Array (Option Value)} {oc5 kV5 dc5 pm5 cd5 ct5 : Value}
    {f6 : Addr} {od6 an6 : Option Addr} {sl6 : Array (Option Value)} {oc6 kV6 dc6 pm6 cd6 ct6 : Value}
    {f7 : Addr} {od7 an7 : Option Addr} {sl7 : Array (Option Value)} {oc7 kV7 dc7 pm7 cd7 ct7 : Value}
    {f8 : Addr} {od8 an8 : Option Addr} {sl8 : Array (Option Value)} {oc8 kV8 dc8 pm8 cd8 ct8 : Value}
    {f9 : Addr} {od9 an9 : Option Addr} {sl9 : Array (Option Value)} {oc9 kV9 dc9 pm9 cd9 ct9 : Value}
    {f10 : Addr} {od10 an10 : Option Addr} {sl10 : Array (Option Value)} {oc10 kV10 dc10 pm10 cd10 ct10 : Value}
    {f11 : Addr} {od11 an11 : Option Addr} {sl11 : Array (Option Value)} {oc11 kV11 dc11 pm11 cd11 ct11 : Value}
    {f12 : Addr} {od12 an12 : Option Addr} {sl12 : Array (Option Value)} {oc12 kV12 dc12 pm12 cd12 ct12 : Value}
    {f13 : Addr} {od13 an13 : Option Addr} {sl13 : Array (Option Value)} {oc13 kV13 dc13 pm13 cd13 ct13 : Value}
    {f14 : Addr} {od14 an14 : Option Addr} {sl14 : Array (Option Value)} {oc14 kV14 dc14 pm14 cd14 ct14 : Value}
    {f15 : Addr} {od15 an15 : Option Addr} {sl15 : Array (Option Value)} {oc15 kV15 dc15 pm15 cd15 ct15 : Value}
    {f16 : Addr} {od16 an16 : Option Addr} {sl16 : Array (Option Value)} {oc16 kV16 dc16 pm16 cd16 ct16 : Value}
    {f17 : Addr} {od17 an17 : Option Addr} {sl17 : Array (Option Value)} {oc17 kV17 dc17 pm17 cd17 ct17 : Value}
    {f18 : Addr} {od18 an18 : Option Addr} {sl18 : Array (Option Value)} {oc18 kV18 dc18 pm18 cd18 ct18 : Value}
    {f19 : Addr} {od19 an19 : Option Addr} {sl19 : Array (Option Value)} {oc19 kV19 dc19 pm19 cd19 ct19 : Value}
    (z_all : PySem.W.nsIn K mainGlobals "all" = some none)
    (z_bool : PySem.W.nsIn K mainGlobals "bool" = some none)
    (z_int : PySem.W.nsIn K mainGlobals "int" = some none)
    (z_isinstance : PySem.W.nsIn K mainGlobals "isinstance" = some none)
    (z_len : PySem.W.nsIn K mainGlobals "len" = some none)
    (z_list : PySem.W.nsIn K mainGlobals "list" = some none)
    (z_range : PySem.W.nsIn K mainGlobals "range" = some none)
    (z_set : PySem.W.nsIn K mainGlobals "set" = some none)
    (z_sorted : PySem.W.nsIn K mainGlobals "sorted" = some none)
    (z_str : PySem.W.nsIn K mainGlobals "str" = some none)
    (z_tuple : PySem.W.nsIn K mainGlobals "tuple" = some none)
    (z_zip : PySem.W.nsIn K mainGlobals "zip" = some none)
    (q_LETTERS : PySem.W.nsIn K mainGlobals "LETTERS" = some (some (.str (PySem.Str.ofString "abc") t_LETTERS)))
    (q_LONGEST : PySem.W.nsIn K mainGlobals "LONGEST" = some (some (.int 9 t_LONGEST)))
    (q_TIMED : PySem.W.nsIn K mainGlobals "TIMED" = some (some (.ref p_TIMED))) (l_TIMED : K.lookup p_TIMED = some ⟨.type "tuple", dd_TIMED, .seq us_TIMED.toArray n_TIMED, sl_TIMED⟩) (d_TIMED : DV [(.str (PySem.Str.ofString "quiet")), (.str (PySem.Str.ofString "first")), (.str (PySem.Str.ofString "late")), (.str (PySem.Str.ofString "hold")), (.str (PySem.Str.ofString "both")), (.str (PySem.Str.ofString "again"))] us_TIMED)
    (a0 : PySem.W.nsIn K mainGlobals "_law_bag" = some (some (.ref f0))) (l0 : K.lookup f0 = some ⟨oc0, od0, .func (PySem.W.fnOf "_law_bag" "_law_bag" (defArgs s__law_bag) (defBody s__law_bag) (defScope s__law_bag) .none kV0 dc0 pm0 an0 cd0 ct0), sl0⟩) (c0 : PySem.W.codeIn K cd0 "_law_bag" = true) (k0 : PySem.W.keepIn K (.ref f0) = true)
    (a1 : PySem.W.nsIn K mainGlobals "_law_are_letters" = some (some (.ref f1))) (l1 : K.lookup f1 = some ⟨oc1, od1, .func (PySem.W.fnOf "_law_are_letters" "_law_are_letters" (defArgs s__law_are_letters) (defBody s__law_are_letters) (defScope s__law_are_letters) .none kV1 dc1 pm1 an1 cd1 ct1), sl1⟩) (c1 : PySem.W.codeIn K cd1 "_law_are_letters" = true) (k1 : PySem.W.keepIn K (.ref f1) = true)
    (a2 : PySem.W.nsIn K mainGlobals "_law_is_letter" = some (some (.ref f2))) (l2 : K.lookup f2 = some ⟨oc2, od2, .func (PySem.W.fnOf "_law_is_letter" "_law_is_letter" (defArgs s__law_is_letter) (defBody s__law_is_letter) (defScope s__law_is_letter) .none kV2 dc2 pm2 an2 cd2 ct2), sl2⟩) (c2 : PySem.W.codeIn K cd2 "_law_is_letter" = true) (k2 : PySem.W.keepIn K (.ref f2) = true)
    (a3 : PySem.W.nsIn K mainGlobals "_law_is_number" = some (some (.ref f3))) (l3 : K.lookup f3 = some ⟨oc3, od3, .func (PySem.W.fnOf "_law_is_number" "_law_is_number" (defArgs s__law_is_number) (defBody s__law_is_number) (defScope s__law_is_number) .none kV3 dc3 pm3 an3 cd3 ct3), sl3⟩) (c3 : PySem.W.codeIn K cd3 "_law_is_number" = true) (k3 : PySem.W.keepIn K (.ref f3) = true)
    (a4 : PySem.W.nsIn K mainGlobals "_law_timed" = some (some (.ref f4))) (l4 : K.lookup f4 = some ⟨oc4, od4, .func (PySem.W.fnOf "_law_timed" "_law_timed" (defArgs s__law_timed) (defBody s__law_timed) (defScope s__law_timed) .none kV4 dc4 pm4 an4 cd4 ct4), sl4⟩) (c4 : PySem.W.codeIn K cd4 "_law_timed" = true) (k4 : PySem.W.keepIn K (.ref f4) = true)
    (a5 : PySem.W.nsIn K mainGlobals "_law_is_part" = some (some (.ref f5))) (l5 : K.lookup f5 = some ⟨oc5, od5, .func (PySem.W.fnOf "_law_is_part" "_law_is_part" (defArgs s__law_is_part) (defBody s__law_is_part) (defScope s__law_is_part) .none kV5 dc5 pm5 an5 cd5 ct5), sl5⟩) (c5 : PySem.W.codeIn K cd5 "_law_is_part" = true) (k5 : PySem.W.keepIn K (.ref f5) = true)
    (a6 : PySem.W.nsIn K mainGlobals "_law_draw" = some (some (.ref f6))) (l6 : K.lookup f6 = some ⟨oc6, od6, .func (PySem.W.fnOf "_law_draw" "_law_draw" (defArgs s__law_draw) (defBody s__law_draw) (defScope s__law_draw) .none kV6 dc6 pm6 an6 cd6 ct6), sl6⟩) (c6 : PySem.W.codeIn K cd6 "_law_draw" = true) (k6 : PySem.W.keepIn K (.ref f6) = true)
    (a7 : PySem.W.nsIn K mainGlobals "_law_of" = some (some (.ref f7))) (l7 : K.lookup f7 = some ⟨oc7, od7, .func (PySem.W.fnOf "_law_of" "_law_of" (defArgs s__law_of) (defBody s__law_of) (defScope s__law_of) .none kV7 dc7 pm7 an7 cd7 ct7), sl7⟩) (c7 : PySem.W.codeIn K cd7 "_law_of" = true) (k7 : PySem.W.keepIn K (.ref f7) = true)
    (a8 : PySem.W.nsIn K mainGlobals "_law_odd_part" = some (some (.ref f8))) (l8 : K.lookup f8 = some ⟨oc8, od8, .func (PySem.W.fnOf "_law_odd_part" "_law_odd_part" (defArgs s__law_odd_part) (defBody s__law_odd_part) (defScope s__law_odd_part) .none kV8 dc8 pm8 an8 cd8 ct8), sl8⟩) (c8 : PySem.W.codeIn K cd8 "_law_odd_part" = true) (k8 : PySem.W.keepIn K (.ref f8) = true)
    (a9 : PySem.W.nsIn K mainGlobals "_law_same" = some (some (.ref f9))) (l9 : K.lookup f9 = some ⟨oc9, od9, .func (PySem.W.fnOf "_law_same" "_law_same" (defArgs s__law_same) (defBody s__law_same) (defScope s__law_same) .none kV9 dc9 pm9 an9 cd9 ct9), sl9⟩) (c9 : PySem.W.codeIn K cd9 "_law_same" = true) (k9 : PySem.W.keepIn K (.ref f9) = true)
    (a10 : PySem.W.nsIn K mainGlobals "_law_mixed" = some (some (.ref f10))) (l10 : K.lookup f10 = some ⟨oc10, od10, .func (PySem.W.fnOf "_law_mixed" "_law_mixed" (defArgs s__law_mixed) (defBody s__law_mixed) (defScope s__law_mixed) .none kV10 dc10 pm10 an10 cd10 ct10), sl10⟩) (c10 : PySem.W.codeIn K cd10 "_law_mixed" = true) (k10 : PySem.W.keepIn K (.ref f10) = true)
    (a11 : PySem.W.nsIn K mainGlobals "_law_some_part" = some (some (.ref f11))) (l11 : K.lookup f11 = some ⟨oc11, od11, .func (PySem.W.fnOf "_law_some_part" "_law_some_part" (defArgs s__law_some_part) (defBody s__law_some_part) (defScope s__law_some_part) .none kV11 dc11 pm11 an11 cd11 ct11), sl11⟩) (c11 : PySem.W.codeIn K cd11 "_law_some_part" = true) (k11 : PySem.W.keepIn K (.ref f11) = true)
    (a12 : PySem.W.nsIn K mainGlobals "is_letter" = some (some (.ref f12))) (l12 : K.lookup f12 = some ⟨oc12, od12, .func (PySem.W.fnOf "is_letter" "is_letter" (defArgs s_is_letter) (defBody s_is_letter) (defScope s_is_letter) .none kV12 dc12 pm12 an12 cd12 ct12), sl12⟩) (c12 : PySem.W.codeIn K cd12 "is_letter" = true) (k12 : PySem.W.keepIn K (.ref f12) = true)
    (a13 : PySem.W.nsIn K mainGlobals "are_letters" = some (some (.ref f13))) (l13 : K.lookup f13 = some ⟨oc13, od13, .func (PySem.W.fnOf "are_letters" "are_letters" (defArgs s_are_letters) (defBody s_are_letters) (defScope s_are_letters) .none kV13 dc13 pm13 an13 cd13 ct13), sl13⟩) (c13 : PySem.W.codeIn K cd13 "are_letters" = true) (k13 : PySem.W.keepIn K (.ref f13) = true)
    (a14 : PySem.W.nsIn K mainGlobals "is_number" = some (some (.ref f14))) (l14 : K.lookup f14 = some ⟨oc14, od14, .func (PySem.W.fnOf "is_number" "is_number" (defArgs s_is_number) (defBody s_is_number) (defScope s_is_number) .none kV14 dc14 pm14 an14 cd14 ct14), sl14⟩) (c14 : PySem.W.codeIn K cd14 "is_number" = true) (k14 : PySem.W.keepIn K (.ref f14) = true)
    (a15 : PySem.W.nsIn K mainGlobals "is_between" = some (some (.ref f15))) (l15 : K.lookup f15 = some ⟨oc15, od15, .func (PySem.W.fnOf "is_between" "is_between" (defArgs s_is_between) (defBody s_is_between) (defScope s_is_between) .none kV15 dc15 pm15 an15 cd15 ct15), sl15⟩) (c15 : PySem.W.codeIn K cd15 "is_between" = true) (k15 : PySem.W.keepIn K (.ref f15) = true)
    (a16 : PySem.W.nsIn K mainGlobals "is_part" = some (some (.ref f16))) (l16 : K.lookup f16 = some ⟨oc16, od16, .func (PySem.W.fnOf "is_part" "is_part" (defArgs s_is_part) (defBody s_is_part) (defScope s_is_part) .none kV16 dc16 pm16 an16 cd16 ct16), sl16⟩) (c16 : PySem.W.codeIn K cd16 "is_part" = true) (k16 : PySem.W.keepIn K (.ref f16) = true)
    (a17 : PySem.W.nsIn K mainGlobals "is_timed" = some (some (.ref f17))) (l17 : K.lookup f17 = some ⟨oc17, od17, .func (PySem.W.fnOf "is_timed" "is_timed" (defArgs s_is_timed) (defBody s_is_timed) (defScope s_is_timed) .none kV17 dc17 pm17 an17 cd17 ct17), sl17⟩) (c17 : PySem.W.codeIn K cd17 "is_timed" = true) (k17 : PySem.W.keepIn K (.ref f17) = true)
    (a18 : PySem.W.nsIn K mainGlobals "wait_of" = some (some (.ref f18))) (l18 : K.lookup f18 = some ⟨oc18, od18, .func (PySem.W.fnOf "wait_of" "wait_of" (defArgs s_wait_of) (defBody s_wait_of) (defScope s_wait_of) .none kV18 dc18 pm18 an18 cd18 ct18), sl18⟩) (c18 : PySem.W.codeIn K cd18 "wait_of" = true) (k18 : PySem.W.keepIn K (.ref f18) = true)
    (a19 : PySem.W.nsIn K mainGlobals "law" = some (some (.ref f19))) (l19 : K.lookup f19 = some ⟨oc19, od19, .func (PySem.W.fnOf "law" "law" (defArgs s_law) (defBody s_law) (defScope s_law) .none kV19 dc19 pm19 an19 cd19 ct19), sl19⟩) (c19 : PySem.W.codeIn K cd19 "law" = true) (k19 : PySem.W.keepIn K (.ref f19) = true) : Tx K mg where
  n_all := PySem.W.mg_none_of X G z_all
  n_bool := PySem.W.mg_none_of X G z_bool
  n_int := PySem.W.mg_none_of X G z_int
  n_isinstance := PySem.W.mg_none_of X G z_isinstance
  n_len := PySem.W.mg_none_of X G z_len
  n_list := PySem.W.mg_none_of X G z_list
  n_range := PySem.W.mg_none_of X G z_range
  n_set := PySem.W.mg_none_of X G z_set
  n_sorted := PySem.W.mg_none_of X G z_sorted
  n_str := PySem.W.mg_none_of X G z_str
  n_tuple := PySem.W.mg_none_of X G z_tuple
  n_zip := PySem.W.mg_none_of X G z_zip
  g_LETTERS := glob_str X G q_LETTERS
  g_LONGEST := glob_int X G q_LONGEST
  g_TIMED := glob_tup X G q_TIMED l_TIMED d_TIMED (by decide)
  f__law_bag := fnF_mk X G a0 l0 c0 k0
  f__law_are_letters := fnF_mk X G a1 l1 c1 k1
  f__law_is_letter := fnF_mk X G a2 l2 c2 k2
  f__law_is_number := fnF_mk X G a3 l3 c3 k3
  f__law_timed := fnF_mk X G a4 l4 c4 k4
  f__law_is_part := fnF_mk X G a5 l5 c5 k5
  f__law_draw := fnF_mk X G a6 l6 c6 k6
  f__law_of := fnF_mk X G a7 l7 c7 k7
  f__law_odd_part := fnF_mk X G a8 l8 c8 k8
  f__law_same := fnF_mk X G a9 l9 c9 k9
  f__law_mixed := fnF_mk X G a10 l10 c10 k10
  f__law_some_part := fnF_mk X G a11 l11 c11 k11
  f_is_letter := fnF_mk X G a12 l12 c12 k12
  f_are_letters := fnF_mk X G a13 l13 c13 k13
  f_is_number := fnF_mk X G a14 l14 c14 k14
  f_is_between := fnF_mk X G a15 l15 c15 k15
  f_is_part := fnF_mk X G a16 l16 c16 k16
  f_is_timed := fnF_mk X G a17 l17 c17 k17
  f_wait_of := fnF_mk X G a18 l18 c18 k18
  f_law := fnF_mk X G a19 l19 c19 k19
end Lw
open PySem PySem.W PyProof.Rows
set_option maxRecDepth 100000 in
set_option maxHeartbeats 0 in
theorem PySem.Challenge.cw_newslate_k02_parts_known_holds : PySem.Challenge.rw_newslate_k02_parts_known.Holds := by
  w_on; o_law; k_head; (case hw => w_witness2)
  k_fill
  refine NL.law_walk (l := PySem.Challenge.rw_newslate_k02_parts_known) (x := "_law_script") (y := "law") (st := Lw.s_law) (m := NP.law_3) (TX := Lw.Tx) rfl rfl rfl ⟨rfl, by decide, by decide⟩ (fun w h Y => PySem.W.kIn_of Y) (fun _ _ _ _ _ _ _ _ => .of_eq rfl) (fun T => T.f_law) (fun T => Lw.ok_law T) Lw.law_true ?F
  case F =>
    intro w mg h KX G
    refine' Lw.tx KX G ?z_all ?z_bool ?z_int ?z_isinstance ?z_len ?z_list ?z_range ?z_set ?z_sorted ?z_str ?z_tuple ?z_zip ?q_LETTERS ?q_LONGEST ?q_TIMED ?l_TIMED ?d_TIMED ?a0 ?l0 ?c0 ?k0 ?a1 ?l1 ?c1 ?k1 ?a2 ?l2 ?c2 ?k2 ?a3 ?l3 ?c3 ?k3 ?a4 ?l4 ?c4 ?k4 ?a5 ?l5 ?c5 ?k5 ?a6 ?l6 ?c6 ?k6 ?a7 ?l7 ?c7 ?k7 ?a8 ?l8 ?c8 ?k8 ?a9 ?l9 ?c9 ?k9 ?a10 ?l10 ?c10 ?k10 ?a11 ?l11 ?c11 ?k11 ?a12 ?l12 ?c12 ?k12 ?a13 ?l13 ?c13 ?k13 ?a14 ?l14 ?c14 ?k14 ?a15 ?l15 ?c15 ?k15 ?a16 ?l16 ?c16 ?k16 ?a17 ?l17 ?c17 ?k17 ?a18 ?l18 ?c18 ?k18 ?a19 ?l19 ?c19 ?k19
    (case z_all => k_is)
    (case z_bool => k_is)
    (case z_int => k_is)
    (case z_isinstance => k_is)
    (case z_len => k_is)
    (case z_list => k_is)
    (case z_range => k_is)
    (case z_set => k_is)
    (case z_sorted => k_is)
    (case z_str => k_is)
    (case z_tuple => k_is)
    (case z_zip => k_is)
    (case q_LETTERS => k_is)
    (case q_LONGEST => k_is)
    (case q_TIMED => k_is)
    (case l_TIMED => k_is)
    (case d_TIMED => exact (.str (.str (.str (.str (.str (.str .nil)))))))
    (case a0 => k_is)
    (case l0 => k_is)
    (case c0 => k_is)
    (case k0 => k_is)
    (case a1 => k_is)
    (case l1 => k_is)
    (case c1 => k_is)
    (case k1 => k_is)
    (case a2 => k_is)
    (case l2 => k_is)
    (case c2 => k_is)
    (case k2 => k_is)
    (case a3 => k_is)
    (case l3 => k_is)
    (case c3 => k_is)
    (case k3 => k_is)
    (case a4 => k_is)
    (case l4 => k_is)
    (case c4 => k_is)
    (case k4 => k_is)
    (case a5 => k_is)
    (case l5 => k_is)
    (case c5 => k_is)
    (case k5 => k_is)
    (case a6 => k_is)
    (case l6 => k_is)
    (case c6 => k_is)
    (case k6 => k_is)
    (case a7 => k_is)
    (case l7 => k_is)
    (case c7 => k_is)
    (case k7 => k_is)
    (case a8 => k_is)
    (case l8 => k_is)
    (case c8 => k_is)
    (case k8 => k_is)
    (case a9 => k_is)
    (case l9 => k_is)
    (case c9 => k_is)
    (case k9 => k_is)
    (case a10 => k_is)
    (case l10 => k_is)
    (case c10 => k_is)
    (case k10 => k_is)
    (case a11 => k_is)
    (case l11 => k_is)
    (case c11 => k_is)
    (case k11 => k_is)
    (case a12 => k_is)
    (case l12 => k_is)
    (case c12 => k_is)
    (case k12 => k_is)
    (case a13 => k_is)
    (case l13 => k_is)
    (case c13 => k_is)
    (case k13 => k_is)
    (case a14 => k_is)
    (case l14 => k_is)
    (case c14 => k_is)
    (case k14 => k_is)
    (case a15 => k_is)
    (case l15 => k_is)
    (case c15 => k_is)
    (case k15 => k_is)
    (case a16 => k_is)
    (case l16 => k_is)
    (case c16 => k_is)
    (case k16 => k_is)
    (case a17 => k_is)
    (case l17 => k_is)
    (case c17 => k_is)
    (case k17 => k_is)
    (case a18 => k_is)
    (case l18 => k_is)
    (case c18 => k_is)
    (case k18 => k_is)
    (case a19 => k_is)
    (case l19 => k_is)
    (case c19 => k_is)
    (case k19 => k_is)
