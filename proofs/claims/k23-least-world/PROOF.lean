import PyProof.Rows.All
import Wide.All
import OpenK.AllK
import Wide.FinOn
import HandS.ForMost
import HandS.Exc
import HandS.TupAny
import HandS.Deep
import HandS.Text
import HandS.Wide
import HandS.Replace
import HandS.IsInst
import HandS.Zip
import HandS.ExcOwn
import HandS.WordsExc
import HandS.Defaults
import HandS.Head0
import HandS.Head1
import HandS.Head2
import HandS.HeadEnd
import HandS.HeadHook1
import HandS.HeadHook2
import Lean
import KE.KStateDown
import PySem.Challenge.RW_kindcourt_k23_the_least_world
set_option Elab.async false
set_option linter.all false
set_option maxRecDepth 100000
set_option maxHeartbeats 0
/-! KdA: plain data D, a store of changeable objects, and how both stand in the layer's abstract heap. -/
namespace KD
open PySem L2

abbrev Frag := PySem.W.Frag
/-- plain data: texts, ints, truths, None, tuples of these; ref n: the n-th object of the store -/
inductive D where
  | non | bl (b : Bool) | int (i : Int) | str (x : Str) | tup (xs : List D) | ref (n : Nat)
  deriving Inhabited
/-- an object of the store: a list, a list that is only read (the script), a dict by ints and texts, a dict by tuples of these, an instance of the c-th class -/
inductive O where
  | lst (xs : List D) | ro (xs : List D) | dic (kvs : List (Key × D)) | dicT (kvs : List (List Key × D)) | ins (c : Nat) (fs : List (Str × D))
  deriving Inhabited
abbrev Store := List O
def O.mut : O → Bool
  | .ro _ => false
  | _ => true
/-- what the walk leans on: the written part, the classes' addresses -/
structure Zn where
  K : Frag
  cls : List Addr
  exc : List Addr := []

/-- where the store's objects stand, and whether they may be changed -/
abbrev Fi := List (Addr × Bool)
def Fi.ad (φ : Fi) (n : Nat) : Option Addr := (φ[n]?).map (·.1)
def Fi.own (φ : Fi) (b : Addr) : Prop := ∃ n : Nat, φ[n]? = some (b, true)
theorem Fi.ad_of {φ : Fi} {n : Nat} {a : Addr} {f : Bool} (h : φ[n]? = some (a, f)) : φ.ad n = some a := by unfold Fi.ad; rw [h]; rfl
theorem Fi.of_ad {φ : Fi} {n : Nat} {a : Addr} (h : φ.ad n = some a) : ∃ f, φ[n]? = some (a, f) := by
  unfold Fi.ad at h
  obtain ⟨⟨b, f⟩, e, rfl⟩ := Option.map_eq_some_iff.mp h
  exact ⟨f, e⟩
mutual
def RepV (K : Frag) (φ : Fi) (H : Hp) : D → V → Prop
  | .non, v => v = .non
  | .bl b, v => v = .bl b
  | .int i, v => v = .int i
  | .str x, v => v = .str x
  | .tup ds, v => ∃ a vs, v = .ref a ∧ SqT K H a vs ∧ RepL K φ H ds vs
  | .ref n, v => ∃ a, φ.ad n = some a ∧ v = .ref a
def RepL (K : Frag) (φ : Fi) (H : Hp) : List D → List V → Prop
  | [], vs => vs = []
  | d :: ds, vs => ∃ v r, vs = v :: r ∧ RepV K φ H d v ∧ RepL K φ H ds r
end

/-- pairs of a key and a value -/
def RepKV {κ : Type} (K : Frag) (φ : Fi) (H : Hp) : List (κ × D) → List (κ × V) → Prop
  | [], vs => vs = []
  | p :: ps, vs => ∃ v r, vs = (p.1, v) :: r ∧ RepV K φ H p.2 v ∧ RepKV K φ H ps r

def KL (K : Frag) (a : Addr) (xs : List V) : Prop :=
  ∃ (o : Obj) (its : Array Value) (n : Nat), K.lookup a = some o ∧ o.cls = .type "list" ∧ o.dict = none ∧ o.data = .seq its n ∧ its.size ≤ sizeLine ∧ Vals xs its.toList

def RepO (Z : Zn) (φ : Fi) (H : Hp) (a : Addr) : O → Prop
  | .lst ds => ∃ vs, H a = some (.lst vs) ∧ RepL Z.K φ H ds vs
  | .ro ds => ∃ vs, ((∃ o, H a = some (.frz o (.lst vs))) ∨ KL Z.K a vs) ∧ RepL Z.K φ H ds vs
  | .dic ps => ∃ kvs, H a = some (.dK kvs) ∧ RepKV Z.K φ H ps kvs
  | .dicT ps => ∃ kvs, H a = some (.dT kvs) ∧ RepKV Z.K φ H ps kvs
  | .ins c fs => ∃ C dx fvs, Z.cls[c]? = some C ∧ H a = some (.ins C dx fvs) ∧ RepKV Z.K φ H fs fvs

structure HRep (Z : Zn) (φ : Fi) (S : Store) (H : Hp) : Prop where
  len : φ.length = S.length
  obj : ∀ (n : Nat) (o : O) (a : Addr), S[n]? = some o → φ.ad n = some a → RepO Z φ H a o
  flag : ∀ (n : Nat) (o : O) (p : Addr × Bool), S[n]? = some o → φ[n]? = some p → p.2 = o.mut
  inj : ∀ (i j : Nat) (a : Addr) (o u : O), φ.ad i = some a → φ.ad j = some a → S[i]? = some o → S[j]? = some u → o.mut = true → u.mut = true → i = j

structure Grow (K : Frag) (φ : Fi) (H : Hp) (φ' : Fi) (H' : Hp) : Prop where
  pre' : ∀ (n : Nat) (p : Addr × Bool), φ[n]? = some p → φ'[n]? = some p
  tup : ∀ a xs, SqT K H a xs → SqT K H' a xs
  frm : ∀ (b : Addr) (o : HO), H b = some o → ¬ φ.own b → H' b = some o ∧ ¬ φ'.own b
theorem Grow.pre {K : Frag} {φ φ' : Fi} {H H' : Hp} (g : Grow K φ H φ' H') : ∀ (n : Nat) (a : Addr), φ.ad n = some a → φ'.ad n = some a := fun n a h => by
  obtain ⟨f, e⟩ := Fi.of_ad h
  exact Fi.ad_of (g.pre' n _ e)
theorem Grow.refl {K : Frag} {φ : Fi} {H : Hp} : Grow K φ H φ H := ⟨fun _ _ h => h, fun _ _ h => h, fun _ _ h n => ⟨h, n⟩⟩
theorem Grow.trans {K : Frag} {φ φ1 φ2 : Fi} {H H1 H2 : Hp} (a : Grow K φ H φ1 H1) (b : Grow K φ1 H1 φ2 H2) : Grow K φ H φ2 H2 :=
  ⟨fun n x h => b.pre' n x (a.pre' n x h), fun c xs h => b.tup c xs (a.tup c xs h), fun c o h n => let ⟨h1, n1⟩ := a.frm c o h n; b.frm c o h1 n1⟩

section
variable {K : Frag} {φ φ' : Fi} {H H' : Hp}
mutual
theorem RepV.grow' (pr : ∀ (n : Nat) (a : Addr), φ.ad n = some a → φ'.ad n = some a) (tp : ∀ a xs, SqT K H a xs → SqT K H' a xs) : ∀ {d : D} {v : V}, RepV K φ H d v → RepV K φ' H' d v
  | .non, _, h => by simpa only [RepV] using h
  | .bl _, _, h => by simpa only [RepV] using h
  | .int _, _, h => by simpa only [RepV] using h
  | .str _, _, h => by simpa only [RepV] using h
  | .tup ds, _, h => by
    simp only [RepV] at h ⊢
    obtain ⟨a, vs, e, t, r⟩ := h
    exact ⟨a, vs, e, tp a vs t, RepL.grow' pr tp r⟩
  | .ref n, _, h => by
    simp only [RepV] at h ⊢
    obtain ⟨a, e, q⟩ := h
    exact ⟨a, pr n a e, q⟩
theorem RepL.grow' (pr : ∀ (n : Nat) (a : Addr), φ.ad n = some a → φ'.ad n = some a) (tp : ∀ a xs, SqT K H a xs → SqT K H' a xs) : ∀ {ds : List D} {vs : List V}, RepL K φ H ds vs → RepL K φ' H' ds vs
  | [], _, h => by simpa only [RepL] using h
  | d :: ds, _, h => by
    simp only [RepL] at h ⊢
    obtain ⟨v, r, e, h1, h2⟩ := h
    exact ⟨v, r, e, RepV.grow' pr tp h1, RepL.grow' pr tp h2⟩
end
theorem RepKV.grow' {κ : Type} (pr : ∀ (n : Nat) (a : Addr), φ.ad n = some a → φ'.ad n = some a) (tp : ∀ a xs, SqT K H a xs → SqT K H' a xs) : ∀ {ps : List (κ × D)} {vs : List (κ × V)}, RepKV K φ H ps vs → RepKV K φ' H' ps vs
  | [], _, h => h
  | _ :: _, _, ⟨v, r, e, h1, h2⟩ => ⟨v, r, e, RepV.grow' pr tp h1, RepKV.grow' pr tp h2⟩
theorem RepV.grow (g : Grow K φ H φ' H') {d : D} {v : V} (h : RepV K φ H d v) : RepV K φ' H' d v := RepV.grow' g.pre g.tup h
theorem RepL.grow (g : Grow K φ H φ' H') {ds : List D} {vs : List V} (h : RepL K φ H ds vs) : RepL K φ' H' ds vs := RepL.grow' g.pre g.tup h
theorem RepKV.grow {κ : Type} (g : Grow K φ H φ' H') {ps : List (κ × D)} {vs : List (κ × V)} (h : RepKV K φ H ps vs) : RepKV K φ' H' ps vs := RepKV.grow' g.pre g.tup h

theorem RepL.len : ∀ {ds : List D} {vs : List V}, RepL K φ H ds vs → vs.length = ds.length
  | [], _, h => by simp only [RepL] at h; subst h; rfl
  | d :: ds, _, h => by
    simp only [RepL] at h
    obtain ⟨v, r, rfl, _, h2⟩ := h
    simp [RepL.len h2]
theorem RepL.get : ∀ {ds : List D} {vs : List V} {i : Nat} {d : D}, RepL K φ H ds vs → ds[i]? = some d → ∃ v, vs[i]? = some v ∧ RepV K φ H d v
  | [], _, _, _, _, e => by simp at e
  | d :: ds, _, 0, _, h, e => by
    simp only [RepL] at h
    obtain ⟨v, r, rfl, h1, _⟩ := h
    simp at e; subst e
    exact ⟨v, rfl, h1⟩
  | d :: ds, _, i + 1, _, h, e => by
    simp only [RepL] at h
    obtain ⟨v, r, rfl, _, h2⟩ := h
    obtain ⟨x, e1, e2⟩ := RepL.get (i := i) h2 (by simpa using e)
    exact ⟨x, by simpa using e1, e2⟩
theorem RepL.get' : ∀ {ds : List D} {vs : List V} {i : Nat} {v : V}, RepL K φ H ds vs → vs[i]? = some v → ∃ d, ds[i]? = some d ∧ RepV K φ H d v := fun {ds vs i v} h e => by
  have hl := RepL.len h
  have hi : i < vs.length := (List.getElem?_eq_some_iff.mp e).1
  have hd : ds[i]? = some (ds[i]'(by omega)) := List.getElem?_eq_getElem (by omega)
  obtain ⟨x, e1, e2⟩ := RepL.get h hd
  rw [e] at e1; cases e1
  exact ⟨_, hd, e2⟩
theorem RepL.nil : RepL K φ H [] [] := by simp only [RepL]
theorem RepL.cons {d : D} {v : V} {ds : List D} {vs : List V} (a : RepV K φ H d v) (b : RepL K φ H ds vs) : RepL K φ H (d :: ds) (v :: vs) := by
  simp only [RepL]; exact ⟨v, vs, rfl, a, b⟩
theorem RepL.nil_inv {vs : List V} (h : RepL K φ H [] vs) : vs = [] := by simpa only [RepL] using h
theorem RepL.cons_inv {d : D} {ds : List D} {vs : List V} (h : RepL K φ H (d :: ds) vs) : ∃ v r, vs = v :: r ∧ RepV K φ H d v ∧ RepL K φ H ds r := by simpa only [RepL] using h
theorem RepL.append : ∀ {xs ys : List D} {us ws : List V}, RepL K φ H xs us → RepL K φ H ys ws → RepL K φ H (xs ++ ys) (us ++ ws)
  | [], _, _, _, h, q => by rw [RepL.nil_inv h]; exact q
  | _ :: _, _, _, _, h, q => by
    obtain ⟨v, r, rfl, h1, h2⟩ := RepL.cons_inv h
    exact RepL.cons h1 (RepL.append h2 q)
theorem RepL.take : ∀ {xs : List D} {us : List V} (n : Nat), RepL K φ H xs us → RepL K φ H (xs.take n) (us.take n)
  | _, _, 0, _ => by simpa using RepL.nil
  | [], _, n + 1, h => by rw [RepL.nil_inv h]; exact RepL.nil
  | _ :: _, _, n + 1, h => by
    obtain ⟨v, r, rfl, h1, h2⟩ := RepL.cons_inv h
    exact RepL.cons h1 (RepL.take n h2)
theorem RepL.drop : ∀ {xs : List D} {us : List V} (n : Nat), RepL K φ H xs us → RepL K φ H (xs.drop n) (us.drop n)
  | _, _, 0, h => h
  | [], _, n + 1, h => by rw [RepL.nil_inv h]; exact RepL.nil
  | _ :: _, _, n + 1, h => by
    obtain ⟨v, r, rfl, h1, h2⟩ := RepL.cons_inv h
    exact RepL.drop n h2
theorem RepL.set : ∀ {xs : List D} {us : List V} (n : Nat) {d : D} {v : V}, RepL K φ H xs us → RepV K φ H d v → RepL K φ H (xs.set n d) (us.set n v)
  | [], _, _, _, _, h, _ => by rw [RepL.nil_inv h]; exact RepL.nil
  | _ :: _, _, 0, _, _, h, q => by
    obtain ⟨v, r, rfl, h1, h2⟩ := RepL.cons_inv h
    exact RepL.cons q h2
  | _ :: _, _, n + 1, _, _, h, q => by
    obtain ⟨v, r, rfl, h1, h2⟩ := RepL.cons_inv h
    exact RepL.cons h1 (RepL.set n h2 q)
theorem RepL.eraseIdx : ∀ {xs : List D} {us : List V} (n : Nat), RepL K φ H xs us → RepL K φ H (xs.eraseIdx n) (us.eraseIdx n)
  | [], _, _, h => by rw [RepL.nil_inv h]; exact RepL.nil
  | _ :: _, _, 0, h => by
    obtain ⟨v, r, rfl, h1, h2⟩ := RepL.cons_inv h
    exact h2
  | _ :: _, _, n + 1, h => by
    obtain ⟨v, r, rfl, h1, h2⟩ := RepL.cons_inv h
    exact RepL.cons h1 (RepL.eraseIdx n h2)
theorem RepL.reverse : ∀ {xs : List D} {us : List V}, RepL K φ H xs us → RepL K φ H xs.reverse us.reverse
  | [], _, h => by rw [RepL.nil_inv h]; exact RepL.nil
  | _ :: _, _, h => by
    obtain ⟨v, r, rfl, h1, h2⟩ := RepL.cons_inv h
    rw [List.reverse_cons, List.reverse_cons]
    exact RepL.append (RepL.reverse h2) (RepL.cons h1 RepL.nil)
theorem RepL.ints : ∀ (ns : List Int), RepL K φ H (ns.map D.int) (ns.map V.int)
  | [] => RepL.nil
  | n :: r => RepL.cons (by simp only [RepV]) (RepL.ints r)
theorem RepL.strs : ∀ (ns : List Str), RepL K φ H (ns.map D.str) (ns.map V.str)
  | [] => RepL.nil
  | n :: r => RepL.cons (by simp only [RepV]) (RepL.strs r)
theorem RepL.bls : ∀ (ns : List Bool), RepL K φ H (ns.map D.bl) (ns.map V.bl)
  | [] => RepL.nil
  | n :: r => RepL.cons (by simp only [RepV]) (RepL.bls r)
theorem RepL.ints_inv : ∀ {ns : List Int} {vs : List V}, RepL K φ H (ns.map D.int) vs → vs = ns.map V.int
  | [], _, h => RepL.nil_inv h
  | n :: r, _, h => by
    obtain ⟨v, q, rfl, h1, h2⟩ := RepL.cons_inv h
    simp only [RepV] at h1
    rw [h1, RepL.ints_inv h2]; rfl
theorem RepL.strs_inv : ∀ {ns : List Str} {vs : List V}, RepL K φ H (ns.map D.str) vs → vs = ns.map V.str
  | [], _, h => RepL.nil_inv h
  | n :: r, _, h => by
    obtain ⟨v, q, rfl, h1, h2⟩ := RepL.cons_inv h
    simp only [RepV] at h1
    rw [h1, RepL.strs_inv h2]; rfl
theorem RepL.bls_inv : ∀ {ns : List Bool} {vs : List V}, RepL K φ H (ns.map D.bl) vs → vs = ns.map V.bl
  | [], _, h => RepL.nil_inv h
  | n :: r, _, h => by
    obtain ⟨v, q, rfl, h1, h2⟩ := RepL.cons_inv h
    simp only [RepV] at h1
    rw [h1, RepL.bls_inv h2]; rfl
end

/-! ### the heap changes -/
section
variable {Z : Zn} {φ φ' : Fi} {S : Store} {H H' : Hp} {a p : Addr}
theorem RepO.grow (g : Grow Z.K φ H φ' H') (h : ∀ o, H a = some o → H' a = some o) : ∀ {o : O}, RepO Z φ H a o → RepO Z φ' H' a o
  | .lst _, ⟨vs, e, r⟩ => ⟨vs, h _ e, r.grow g⟩
  | .ro _, ⟨vs, e, r⟩ => ⟨vs, e.imp (fun ⟨o, q⟩ => ⟨o, h _ q⟩) id, r.grow g⟩
  | .dic _, ⟨kvs, e, r⟩ => ⟨kvs, h _ e, r.grow g⟩
  | .dicT _, ⟨kvs, e, r⟩ => ⟨kvs, h _ e, r.grow g⟩
  | .ins _ _, ⟨C, dx, fvs, c, e, r⟩ => ⟨C, dx, fvs, c, h _ e, r.grow g⟩
theorem RepO.tracked {o : O} (m : o.mut = true) (r : RepO Z φ H a o) : ∃ u, H a = some u ∧ Mut (some u) := by
  cases o with
  | lst _ => obtain ⟨vs, e, _⟩ := r; exact ⟨_, e, trivial⟩
  | ro _ => cases m
  | dic _ => obtain ⟨vs, e, _⟩ := r; exact ⟨_, e, trivial⟩
  | dicT _ => obtain ⟨vs, e, _⟩ := r; exact ⟨_, e, trivial⟩
  | ins _ _ => obtain ⟨C, dx, vs, _, e, _⟩ := r; exact ⟨_, e, trivial⟩
theorem sqT_upd_new {K : Frag} {u : HO} {b : Addr} {xs : List V} (hp : H p = none) (h : SqT K H b xs) : SqT K (upd H p u) b xs := by
  rcases h with (h | ⟨o, h⟩) | h
  · exact .inl (.inl (by rw [upd_ne (ne_of_none h hp)]; exact h))
  · exact .inl (.inr ⟨o, by rw [upd_ne (ne_of_none h hp)]; exact h⟩)
  · exact .inr h
theorem sqT_upd_mut {K : Frag} {u w : HO} {b : Addr} {xs : List V} (hp : H p = some w) (hm : Mut (some w)) (h : SqT K H b xs) : SqT K (upd H p u) b xs := by
  have ne : ∀ q, H b = some q → ¬ Mut (some q) → b ≠ p := fun q e n z => by subst z; rw [hp] at e; cases e; exact n hm
  rcases h with (h | ⟨o, h⟩) | h
  · exact .inl (.inl (by rw [upd_ne (ne _ h (fun z => z))]; exact h))
  · exact .inl (.inr ⟨o, by rw [upd_ne (ne _ h (fun z => z))]; exact h⟩)
  · exact .inr h
/-- something new is laid that the store doesn't know (a tuple, an instance's dict) -/
theorem Grow.new {K : Frag} {u : HO} (hp : H p = none) : Grow K φ H φ (upd H p u) := ⟨fun _ _ h => h, fun _ _ h => sqT_upd_new hp h, fun b o h n => ⟨by rw [upd_ne (ne_of_none h hp)]; exact h, n⟩⟩
theorem HRep.new {u : HO} (h : HRep Z φ S H) (hp : H p = none) : HRep Z φ S (upd H p u) :=
  ⟨h.len, fun n o a e1 e2 => (h.obj n o a e1 e2).grow (Grow.new hp) fun q e => by rw [upd_ne (ne_of_none e hp)]; exact e, h.flag, h.inj⟩
theorem get_app1 {α : Type} {l : List α} {x y : α} {n : Nat} (h : (l ++ [x])[n]? = some y) : l[n]? = some y ∨ (n = l.length ∧ y = x) := by
  by_cases hn : n < l.length
  · rw [List.getElem?_append_left hn] at h; exact .inl h
  · rw [List.getElem?_append_right (by omega)] at h
    have : n - l.length = 0 := by
      cases q : n - l.length with
      | zero => rfl
      | succ k => rw [q] at h; simp at h
    rw [this] at h
    simp at h
    exact .inr ⟨by omega, h.symm⟩
theorem get_left {α : Type} {l : List α} {x y : α} {n : Nat} (h : l[n]? = some y) : (l ++ [x])[n]? = some y := by
  rw [List.getElem?_append_left (List.getElem?_eq_some_iff.mp h).1]; exact h
theorem ad_app1 {q : Addr × Bool} {n : Nat} {b : Addr} (h : Fi.ad (φ ++ [q]) n = some b) : φ.ad n = some b ∨ (n = φ.length ∧ b = q.1) := by
  obtain ⟨f, e⟩ := Fi.of_ad h
  rcases get_app1 e with e | ⟨e1, e2⟩
  · exact .inl (Fi.ad_of e)
  · exact .inr ⟨e1, by rw [← e2]⟩
theorem own_app {q : Addr × Bool} {b : Addr} (h : Fi.own (φ ++ [q]) b) : φ.own b ∨ q = (b, true) := by
  obtain ⟨n, e⟩ := h
  rcases get_app1 e with e | ⟨e1, e2⟩
  · exact .inl ⟨n, e⟩
  · exact .inr e2.symm
theorem HRep.lt (h : HRep Z φ S H) {n : Nat} {a : Addr} (e : φ.ad n = some a) : n < S.length := by
  obtain ⟨f, e1⟩ := Fi.of_ad e
  have := (List.getElem?_eq_some_iff.mp e1).1
  rw [h.len] at this; exact this
/-- what may be changed is tracked -/
theorem HRep.owned (h : HRep Z φ S H) {b : Addr} (w : φ.own b) : ∃ u, H b = some u ∧ Mut (some u) := by
  obtain ⟨n, e⟩ := w
  have hl : n < S.length := h.lt (Fi.ad_of e)
  have es : S[n]? = some S[n] := List.getElem?_eq_getElem hl
  exact (h.obj n _ b es (Fi.ad_of e)).tracked (h.flag n _ _ es e).symm
theorem HRep.own (h : HRep Z φ S H) {n : Nat} {o : O} (e : S[n]? = some o) (m : o.mut = true) (ea : φ.ad n = some a) : φ.own a := by
  obtain ⟨f, e1⟩ := Fi.of_ad ea
  have := h.flag n o _ e e1
  simp only at this
  rw [m] at this
  subst this
  exact ⟨n, e1⟩
theorem Grow.obj {K : Frag} {u : HO} {f : Bool} (hp : H p = none) : Grow K φ H (φ ++ [(p, f)]) (upd H p u) :=
  ⟨fun n a h => get_left h, fun _ _ h => sqT_upd_new hp h, fun b o h n => ⟨by rw [upd_ne (ne_of_none h hp)]; exact h, fun w => by
    rcases own_app w with w | w
    · exact n w
    · exact ne_of_none h hp (Prod.mk.inj w).1.symm⟩⟩
/-- an object that stands already comes to the store -/
theorem HRep.adopt {u : HO} {o : O} (h : HRep Z φ S H) (hp : H p = some u) (np : ¬ φ.own p) (r : RepO Z (φ ++ [(p, o.mut)]) H p o) (g : Grow Z.K φ H (φ ++ [(p, o.mut)]) H ∨ True) (old : ∀ (n : Nat) (o' : O) (a : Addr), S[n]? = some o' → φ.ad n = some a → RepO Z (φ ++ [(p, o.mut)]) H a o') : HRep Z (φ ++ [(p, o.mut)]) (S ++ [o]) H := by
  have hl := h.len
  refine ⟨by simp [hl], fun n o' a e1 e2 => ?_, fun n o' q e1 e2 => ?_, fun i j a o1 o2 e1 e2 e3 e4 m1 m2 => ?_⟩
  · rcases get_app1 e1 with q1 | ⟨n1, rfl⟩
    · rcases ad_app1 e2 with q2 | ⟨n2, rfl⟩
      · exact old n o' a q1 q2
      · have := (List.getElem?_eq_some_iff.mp q1).1; omega
    · rcases ad_app1 e2 with q2 | ⟨n2, rfl⟩
      · have := h.lt q2; omega
      · exact r
  · rcases get_app1 e1 with q1 | ⟨n1, rfl⟩
    · rcases get_app1 e2 with q2 | ⟨n2, rfl⟩
      · exact h.flag n o' q q1 q2
      · have := (List.getElem?_eq_some_iff.mp q1).1; omega
    · rcases get_app1 e2 with q2 | ⟨n2, rfl⟩
      · have := (List.getElem?_eq_some_iff.mp q2).1; omega
      · rfl
  · have pn : ∀ (n : Nat) (o' : O), S[n]? = some o' → o'.mut = true → φ.ad n ≠ some p := fun n o' e m q => np (h.own e m q)
    rcases get_app1 e3 with q3 | ⟨n3, rfl⟩
    · have l3 := (List.getElem?_eq_some_iff.mp q3).1
      have d1 : φ.ad i = some a := (ad_app1 e1).resolve_right fun z => by omega
      rcases get_app1 e4 with q4 | ⟨n4, rfl⟩
      · have l4 := (List.getElem?_eq_some_iff.mp q4).1
        have d2 : φ.ad j = some a := (ad_app1 e2).resolve_right fun z => by omega
        exact h.inj i j a o1 o2 d1 d2 q3 q4 m1 m2
      · rcases ad_app1 e2 with d2 | ⟨_, rfl⟩
        · have := h.lt d2; omega
        · exact absurd d1 (pn i o1 q3 m1)
    · rcases get_app1 e4 with q4 | ⟨n4, rfl⟩
      · have l4 := (List.getElem?_eq_some_iff.mp q4).1
        have d2 : φ.ad j = some a := (ad_app1 e2).resolve_right fun z => by omega
        rcases ad_app1 e1 with d1 | ⟨_, rfl⟩
        · have := h.lt d1; omega
        · exact absurd d2 (pn j o2 q4 m2)
      · omega
/-- a new object of the store -/
theorem HRep.alloc {u : HO} {o : O} (h : HRep Z φ S H) (hp : H p = none) (r : RepO Z (φ ++ [(p, o.mut)]) (upd H p u) p o) : HRep Z (φ ++ [(p, o.mut)]) (S ++ [o]) (upd H p u) := by
  refine (h.new (u := u) hp).adopt upd_same (fun w => ?_) r (.inr trivial) fun n o' a e1 e2 => ?_
  · obtain ⟨v, e, _⟩ := h.owned w
    rw [hp] at e; cases e
  · exact (h.obj n o' a e1 e2).grow (Grow.obj hp) fun q e => by rw [upd_ne (ne_of_none e hp)]; exact e
theorem Grow.write {K : Frag} {u w : HO} (ha : φ.own a) (hp : H a = some w) (hm : Mut (some w)) : Grow K φ H φ (upd H a u) := ⟨fun _ _ h => h, fun _ _ h => sqT_upd_mut hp hm h, fun b o h n => ⟨by rw [upd_ne (show b ≠ a from fun z => n (by rw [z]; exact ha))]; exact h, n⟩⟩
/-- an object of the store is changed -/
theorem HRep.write {u : HO} {o o' : O} {n : Nat} (h : HRep Z φ S H) (hn : S[n]? = some o) (hm : o.mut = true) (ha : φ.ad n = some a) (hm' : o'.mut = true) (r : RepO Z φ (upd H a u) a o') : HRep Z φ (S.set n o') (upd H a u) := by
  obtain ⟨w, hw, mw⟩ := (h.obj n o a hn ha).tracked hm
  have ow := h.own hn hm ha
  have nl : n < S.length := (List.getElem?_eq_some_iff.mp hn).1
  refine ⟨by simp [h.len], fun m q b e1 e2 => ?_, fun m q p e1 e2 => ?_, fun i j b o1 o2 e1 e2 e3 e4 m1 m2 => ?_⟩
  · by_cases hmn : m = n
    · subst hmn
      rw [List.getElem?_set_self nl] at e1
      cases e1
      rw [ha] at e2; cases e2
      exact r
    · rw [List.getElem?_set_ne (Ne.symm hmn)] at e1
      by_cases hb : b = a
      · subst hb
        cases hq : q.mut with
        | true => exact absurd (h.inj m n b q o e2 ha e1 hn hq hm) hmn
        | false =>
          cases q with
          | ro ds =>
            obtain ⟨vs, e', r'⟩ := h.obj m _ b e1 e2
            rcases e' with ⟨oo, e'⟩ | e'
            · rw [hw] at e'; cases e'; exact mw.elim
            · exact ⟨vs, .inr e', r'.grow (Grow.write ow hw mw)⟩
          | _ => cases hq
      · exact (h.obj m q b e1 e2).grow (Grow.write ow hw mw) fun z e => by rw [upd_ne hb]; exact e
  · by_cases hmn : m = n
    · subst hmn
      rw [List.getElem?_set_self nl] at e1
      cases e1
      rw [h.flag m o p hn e2, hm, hm']
    · rw [List.getElem?_set_ne (Ne.symm hmn)] at e1
      exact h.flag m q p e1 e2
  · have hi : ∃ q, S[i]? = some q ∧ q.mut = true := by
      by_cases hin : i = n
      · subst hin; exact ⟨o, hn, hm⟩
      · rw [List.getElem?_set_ne (Ne.symm hin)] at e3; exact ⟨o1, e3, m1⟩
    have hj : ∃ q, S[j]? = some q ∧ q.mut = true := by
      by_cases hjn : j = n
      · subst hjn; exact ⟨o, hn, hm⟩
      · rw [List.getElem?_set_ne (Ne.symm hjn)] at e4; exact ⟨o2, e4, m2⟩
    obtain ⟨q1, g1, k1⟩ := hi
    obtain ⟨q2, g2, k2⟩ := hj
    exact h.inj i j b q1 q2 e1 e2 g1 g2 k1 k2
/-- something that the store doesn't own is changed -/
theorem HRep.side {u w : HO} (h : HRep Z φ S H) (hp : H p = some w) (hm : Mut (some w)) (np : ¬ φ.own p) : HRep Z φ S (upd H p u) := by
  have g : Grow Z.K φ H φ H := Grow.refl
  refine ⟨h.len, fun n o a e1 e2 => ?_, h.flag, h.inj⟩
  have old := h.obj n o a e1 e2
  have grL : ∀ {ds vs}, RepL Z.K φ H ds vs → RepL Z.K φ (upd H p u) ds vs := fun r => r.grow' (fun _ _ h => h) fun _ _ t => sqT_upd_mut hp hm t
  have grK : ∀ {κ : Type} {ds : List (κ × D)} {vs}, RepKV Z.K φ H ds vs → RepKV Z.K φ (upd H p u) ds vs := fun r => r.grow' (fun _ _ h => h) fun _ _ t => sqT_upd_mut hp hm t
  have ne : o.mut = true → a ≠ p := fun m z => np (by rw [← z]; exact h.own e1 m e2)
  cases o with
  | lst ds => obtain ⟨vs, e, r⟩ := old; exact ⟨vs, by rw [upd_ne (ne rfl)]; exact e, grL r⟩
  | ro ds =>
    obtain ⟨vs, e, r⟩ := old
    refine ⟨vs, ?_, grL r⟩
    rcases e with ⟨o, e⟩ | e
    · refine .inl ⟨o, ?_⟩
      have : a ≠ p := fun z => by subst z; rw [hp] at e; cases e; exact hm
      rw [upd_ne this]; exact e
    · exact .inr e
  | dic ds => obtain ⟨vs, e, r⟩ := old; exact ⟨vs, by rw [upd_ne (ne rfl)]; exact e, grK r⟩
  | dicT ds => obtain ⟨vs, e, r⟩ := old; exact ⟨vs, by rw [upd_ne (ne rfl)]; exact e, grK r⟩
  | ins c fs => obtain ⟨C, dx, vs, cc, e, r⟩ := old; exact ⟨C, dx, vs, cc, by rw [upd_ne (ne rfl)]; exact e, grK r⟩
end
end KD

/-! KdB: results, the readings that a plain run gives, and how they are put together. -/
namespace KD
open PySem L2

/-- an exception of the c-th class with its fields -/
structure Xc where
  c : Nat
  fs : List (Str × D)
/-- how a run ends: a value and the store, an exception and the store, or nothing is told -/
inductive Rs (α : Type) where
  | ok (a : α) (S : Store) | exc (x : Xc) (S : Store) | no
def Rs.bind {α β : Type} : Rs α → (α → Store → Rs β) → Rs β
  | .ok a S, f => f a S
  | .exc x S, _ => .exc x S
  | .no, _ => .no
@[simp] theorem Rs.bind_ok {α β : Type} {a : α} {S : Store} {f : α → Store → Rs β} : (Rs.ok a S).bind f = f a S := rfl
@[simp] theorem Rs.bind_exc {α β : Type} {x : Xc} {S : Store} {f : α → Store → Rs β} : (Rs.exc x S).bind f = .exc x S := rfl
@[simp] theorem Rs.bind_no {α β : Type} {f : α → Store → Rs β} : (Rs.no).bind f = .no := rfl
/-- what no exception leaves -/
abbrev Op (α : Type) := Option (α × Store)
def Rs.of {α : Type} : Op α → Rs α
  | some (a, S) => .ok a S
  | none => .no
@[simp] theorem Rs.of_some {α : Type} {a : α} {S : Store} : Rs.of (some (a, S)) = .ok a S := rfl
@[simp] theorem Rs.of_none {α : Type} : Rs.of (none : Op α) = .no := rfl
/-- an exception within is no answer -/
def Rs.op {α : Type} : Rs α → Op α
  | .ok a S => some (a, S)
  | _ => none
@[simp] theorem Rs.op_ok {α : Type} {a : α} {S : Store} : (Rs.ok a S).op = some (a, S) := rfl

abbrev Lc := List (Option D)
abbrev M (α : Type) := Lc → Store → Rs α

def ExcRep (Z : Zn) (φ : Fi) (H : Hp) (x : Xc) (cls : Value) (d : Option Addr) : Prop :=
  ∃ C dx fvs, Z.exc[x.c]? = some C ∧ cls = Value.ref C ∧ d = some dx ∧ H dx = some (.xd fvs) ∧ RepKV Z.K φ H x.fs fvs

structure At (Z : Zn) (φ : Fi) (S : Store) (σd : Lc) (σ : St) (H : Hp) : Prop where
  hp : HRep Z φ S H
  ln : σd.length = σ.length
  lc : ∀ (i : Nat) (d : D), σd[i]? = some (some d) → ∃ v, σ[i]? = some (some v) ∧ RepV Z.K φ H d v
theorem At.grow {Z : Zn} {φ φ' : Fi} {S S' : Store} {σd : Lc} {σ : St} {H H' : Hp} (a : At Z φ S σd σ H) (g : Grow Z.K φ H φ' H') (h : HRep Z φ' S' H') : At Z φ' S' σd σ H' :=
  ⟨h, a.ln, fun i d e => let ⟨v, e1, r⟩ := a.lc i d e; ⟨v, e1, r.grow g⟩⟩
theorem At.set {Z : Zn} {φ : Fi} {S : Store} {σd : Lc} {σ : St} {H : Hp} {i : Nat} {d : D} {v : V} (a : At Z φ S σd σ H) (r : RepV Z.K φ H d v) : At Z φ S (σd.set i (some d)) (σ.set i (some v)) H :=
  ⟨a.hp, by simp [a.ln], fun j e q => by
    have hj : j < σd.length := by have := (List.getElem?_eq_some_iff.mp q).1; simpa using this
    by_cases hij : i = j
    · subst hij
      rw [List.getElem?_set_self hj] at q
      cases q
      exact ⟨v, by rw [List.getElem?_set_self (by rw [← a.ln]; exact hj)], r⟩
    · rw [List.getElem?_set_ne hij] at q
      obtain ⟨u, e1, e2⟩ := a.lc j e q
      exact ⟨u, by rw [List.getElem?_set_ne hij]; exact e1, e2⟩⟩

/-- what is wanted behind a run -/
def Out {α β : Type} (Z : Zn) (W : WX) (Rp : Fi → Hp → α → β → Prop) (φ : Fi) (H : Hp) (σ : St) (r : Rs α) (Q : β → Hp → Prop) : Prop :=
  match r with
  | .ok d S' => ∀ φ' H' v, Grow Z.K φ H φ' H' → HRep Z φ' S' H' → Rp φ' H' d v → Q v H'
  | .exc x S' => ∀ φ' H' cls dx, Grow Z.K φ H φ' H' → HRep Z φ' S' H' → ExcRep Z φ' H' x cls dx → W cls dx σ H'
  | .no => False
def OutP {α β : Type} (Z : Zn) (Rp : Fi → Hp → α → β → Prop) (φ : Fi) (H : Hp) (r : Op α) (Q : β → Hp → Prop) : Prop :=
  match r with
  | some (d, S') => ∀ φ' H' v, Grow Z.K φ H φ' H' → HRep Z φ' S' H' → Rp φ' H' d v → Q v H'
  | none => False
section
variable {α β γ δ : Type} {Z : Zn} {W W' : WX} {Rp : Fi → Hp → α → β → Prop} {Rq : Fi → Hp → γ → δ → Prop} {φ φ' : Fi} {H H' : Hp} {σ : St} {Q Q' : β → Hp → Prop}
theorem Out.mono {r : Rs α} (h : Out Z W Rp φ H σ r Q) (q : ∀ v H', Q v H' → Q' v H') : Out Z W Rp φ H σ r Q' := by
  cases r with
  | ok d S => exact fun φ' H' v g hr rp => q _ _ (h φ' H' v g hr rp)
  | exc x S => exact h
  | no => exact h
theorem Out.wish {r : Rs α} (h : Out Z W Rp φ H σ r Q) (q : ∀ c d s H', W c d s H' → W' c d s H') : Out Z W' Rp φ H σ r Q := by
  cases r with
  | ok d S => exact h
  | exc x S => exact fun φ' H' c d g hr rp => q _ _ _ _ (h φ' H' c d g hr rp)
  | no => exact h
theorem Out.grow {r : Rs α} (h : Out Z W Rp φ H σ r Q) (g : Grow Z.K φ H φ' H') : Out Z W Rp φ' H' σ r Q := by
  cases r with
  | ok d S => exact fun φ2 H2 v g2 hr rp => h φ2 H2 v (g.trans g2) hr rp
  | exc x S => exact fun φ2 H2 c d g2 hr rp => h φ2 H2 c d (g.trans g2) hr rp
  | no => exact h
theorem Out.bind {r : Rs α} {f : α → Store → Rs γ} {P : δ → Hp → Prop} (h : Out Z W Rq φ H σ (r.bind f) P) :
    Out Z W Rp φ H σ r (fun v H1 => ∃ φ1 S1 d, Grow Z.K φ H φ1 H1 ∧ HRep Z φ1 S1 H1 ∧ Rp φ1 H1 d v ∧ Out Z W Rq φ1 H1 σ (f d S1) P) := by
  cases r with
  | ok d S => exact fun φ1 H1 v g hr rp => ⟨φ1, S, d, g, hr, rp, Out.grow (φ := φ) (H := H) h g⟩
  | exc x S => exact h
  | no => exact h
theorem Out.pure {r : Op α} (h : Out Z W Rp φ H σ (Rs.of r) Q) : OutP Z Rp φ H r Q := by
  cases r with
  | none => exact h
  | some p => exact h
theorem OutP.out {r : Op α} (h : OutP Z Rp φ H r Q) : Out Z W Rp φ H σ (Rs.of r) Q := by
  cases r with
  | none => exact h
  | some p => exact h
theorem OutP.mono {r : Op α} (h : OutP Z Rp φ H r Q) (q : ∀ v H', Q v H' → Q' v H') : OutP Z Rp φ H r Q' := by
  cases r with
  | none => exact h
  | some p => exact fun φ' H' v g hr rp => q _ _ (h φ' H' v g hr rp)
theorem OutP.grow {r : Op α} (h : OutP Z Rp φ H r Q) (g : Grow Z.K φ H φ' H') : OutP Z Rp φ' H' r Q := by
  cases r with
  | none => exact h
  | some p => exact fun φ2 H2 v g2 hr rp => h φ2 H2 v (g.trans g2) hr rp
end
/-- the readings: of an expression, a test, arguments -/
def Tv {α β : Type} (Z : Zn) (W : WX) (Rp : Fi → Hp → α → β → Prop) (m : M α) : St → Hp → (β → Hp → Prop) → Prop := fun σ H Q =>
  ∃ φ S σd, At Z φ S σd σ H ∧ Out Z W Rp φ H σ (m σd S) Q
abbrev eqB (_ : Fi) (_ : Hp) (b c : Bool) : Prop := c = b
abbrev tE (Z : Zn) (W : WX) (m : M D) : TE := Tv Z W (RepV Z.K) m
abbrev tT (Z : Zn) (W : WX) (m : M Bool) : TT := Tv Z W eqB m
abbrev tA (Z : Zn) (W : WX) (m : M (List D)) : TA := Tv Z W (RepL Z.K) m

theorem PE.imp {X : Cx} {e : Expr} {t t' : TE} (h : PE X e t) (i : ∀ σ H Q, t' σ H Q → t σ H Q) : PE X e t' := ⟨fun pins s σ H Q I q => h.run pins s σ H Q I (i σ H Q q)⟩
theorem PT.imp {X : Cx} {e : Expr} {t t' : TT} (h : PT X e t) (i : ∀ σ H Q, t' σ H Q → t σ H Q) : PT X e t' := ⟨fun pins s σ H Q I q => h.run pins s σ H Q I (i σ H Q q)⟩
theorem PW.imp {X : Cx} {e : Expr} {t t' : TT} (h : PW X e t) (i : ∀ σ H Q, t' σ H Q → t σ H Q) : PW X e t' := ⟨fun wh pins s σ H Q I q => h.run wh pins s σ H Q I (i σ H Q q)⟩
theorem PA.imp {X : Cx} {e : List Expr} {t t' : TA} (h : PA X e t) (i : ∀ σ H Q, t' σ H Q → t σ H Q) : PA X e t' := ⟨fun pos pins s σ H Q I q => h.run pos pins s σ H Q I (i σ H Q q)⟩
theorem PS.imp {X : Cx} {e : Stmt} {t t' : TS} (h : PS X e t) (i : ∀ D σ H, t' D σ H → t D σ H) : PS X e t' := ⟨fun pins s σ H D I q => h.run pins s σ H D I (i D σ H q)⟩
theorem PSs.imp {X : Cx} {e : List Stmt} {t t' : TS} (h : PSs X e t) (i : ∀ D σ H, t' D σ H → t D σ H) : PSs X e t' := ⟨fun pins s σ H D I q => h.run pins s σ H D I (i D σ H q)⟩

/-! ### operations by values -/
def RD1 (Z : Zn) (g : D → Store → Op D) : V → Hp → VK → Prop := fun x H Q => ∃ φ S d, HRep Z φ S H ∧ RepV Z.K φ H d x ∧ OutP Z (RepV Z.K) φ H (g d S) Q
def RD2 (Z : Zn) (g : D → D → Store → Op D) : R2 := fun x y H Q => ∃ φ S d e, HRep Z φ S H ∧ RepV Z.K φ H d x ∧ RepV Z.K φ H e y ∧ OutP Z (RepV Z.K) φ H (g d e S) Q
def RDL (Z : Zn) (g : List D → Store → Op D) : List V → Hp → VK → Prop := fun xs H Q => ∃ φ S ds, HRep Z φ S H ∧ RepL Z.K φ H ds xs ∧ OutP Z (RepV Z.K) φ H (g ds S) Q
def RDM (Z : Zn) (g : D → List D → Store → Op D) : V → List V → Hp → VK → Prop := fun x xs H Q => ∃ φ S d ds, HRep Z φ S H ∧ RepV Z.K φ H d x ∧ RepL Z.K φ H ds xs ∧ OutP Z (RepV Z.K) φ H (g d ds S) Q
def m1 (g : D → Store → Op D) (a : M D) : M D := fun σ S => (a σ S).bind fun d S1 => Rs.of (g d S1)
def m2 (g : D → D → Store → Op D) (a b : M D) : M D := fun σ S => (a σ S).bind fun d S1 => (b σ S1).bind fun e S2 => Rs.of (g d e S2)
def mL (g : List D → Store → Op D) (a : M (List D)) : M D := fun σ S => (a σ S).bind fun d S1 => Rs.of (g d S1)
def mM (g : D → List D → Store → Op D) (a : M D) (b : M (List D)) : M D := fun σ S => (a σ S).bind fun d S1 => (b σ S1).bind fun e S2 => Rs.of (g d e S2)
section
variable {Z : Zn} {W : WX}
theorem tE_op {ma mb : M D} {g : D → D → Store → Op D} {σ : St} {H : Hp} {Q : VK} (h : tE Z W (m2 g ma mb) σ H Q) : tOp (RD2 Z g) (tE Z W ma) (tE Z W mb) σ H Q := by
  obtain ⟨φ, S, σd, a, o⟩ := h
  refine ⟨φ, S, σd, a, o.bind.mono ?_⟩
  rintro x H1 ⟨φ1, S1, d, g1, h1, r1, o1⟩
  refine ⟨φ1, S1, σd, a.grow g1 h1, o1.bind.mono ?_⟩
  rintro y H2 ⟨φ2, S2, e, g2, h2, r2, o2⟩
  exact ⟨φ2, S2, d, e, h2, r1.grow g2, r2, o2.pure⟩
theorem tE_un {ma : M D} {g : D → Store → Op D} {σ : St} {H : Hp} {Q : VK} (h : tE Z W (m1 g ma) σ H Q) : tUn (RD1 Z g) (tE Z W ma) σ H Q := by
  obtain ⟨φ, S, σd, a, o⟩ := h
  refine ⟨φ, S, σd, a, o.bind.mono ?_⟩
  rintro x H1 ⟨φ1, S1, d, g1, h1, r1, o1⟩
  exact ⟨φ1, S1, d, h1, r1, o1.pure⟩
theorem tE_cb {ma : M (List D)} {g : List D → Store → Op D} {σ : St} {H : Hp} {Q : VK} (h : tE Z W (mL g ma) σ H Q) : tCB (RDL Z g) (tA Z W ma) σ H Q := by
  obtain ⟨φ, S, σd, a, o⟩ := h
  refine ⟨φ, S, σd, a, o.bind.mono ?_⟩
  rintro x H1 ⟨φ1, S1, d, g1, h1, r1, o1⟩
  exact ⟨φ1, S1, d, h1, r1, o1.pure⟩

/-! ### arguments -/
def mNil : M (List D) := fun _ S => .ok [] S
def mCons (a : M D) (r : M (List D)) : M (List D) := fun σ S => (a σ S).bind fun d S1 => (r σ S1).bind fun ds S2 => .ok (d :: ds) S2
theorem tA_nil {σ : St} {H : Hp} {Q : List V → Hp → Prop} (h : tA Z W mNil σ H Q) : tNil σ H Q := by
  obtain ⟨φ, S, σd, a, o⟩ := h
  exact o φ H [] Grow.refl a.hp RepL.nil
theorem tA_cons {ma : M D} {mr : M (List D)} {σ : St} {H : Hp} {Q : List V → Hp → Prop} (h : tA Z W (mCons ma mr) σ H Q) : tCons (tE Z W ma) (tA Z W mr) σ H Q := by
  obtain ⟨φ, S, σd, a, o⟩ := h
  refine ⟨φ, S, σd, a, o.bind.mono ?_⟩
  rintro x H1 ⟨φ1, S1, d, g1, h1, r1, o1⟩
  refine ⟨φ1, S1, σd, a.grow g1 h1, o1.bind.mono ?_⟩
  rintro xs H2 ⟨φ2, S2, ds, g2, h2, r2, o2⟩
  exact o2 φ2 H2 (x :: xs) Grow.refl h2 (RepL.cons (r1.grow g2) r2)
end
section
variable {X : Cx} {Z : Zn} {W : WX}
theorem ev_args_nil : PA X [] (tA Z W mNil) := PA.imp pa_nil fun _ _ _ h => tA_nil h
theorem ev_args_cons {e : Expr} {es : List Expr} {ma : M D} {mr : M (List D)} (ha : PE X e (tE Z W ma)) (hr : PA X es (tA Z W mr)) (hs : starEach (e :: es) X.env = (false, eval e X.env) :: starEach es X.env) : PA X (e :: es) (tA Z W (mCons ma mr)) :=
  PA.imp (pa_cons ha hr hs) fun _ _ _ h => tA_cons h
/-- rules by values, weakened and joined -/
theorem OpR.imp {f : Value → Value → Sem Value} {r r' : R2} (h : OpR X f r) (i : ∀ x y H Q, r' x y H Q → r x y H Q) : OpR X f r' := fun pins s σ H x y v u Q I rx ry q => h pins s σ H x y v u Q I rx ry (i _ _ _ _ q)
theorem OpR.or {f : Value → Value → Sem Value} {r r' : R2} (h : OpR X f r) (h' : OpR X f r') : OpR X f (fun x y H Q => r x y H Q ∨ r' x y H Q) := fun pins s σ H x y v u Q I rx ry q =>
  q.elim (h pins s σ H x y v u Q I rx ry) (h' pins s σ H x y v u Q I rx ry)
theorem CallR.imp {f : Value} {r r' : List V → Hp → VK → Prop} (h : CallR X f r) (i : ∀ xs H Q, r' xs H Q → r xs H Q) : CallR X f r' := fun pins s σ H xs us Q I rx q => h pins s σ H xs us Q I rx (i _ _ _ q)
theorem CallR.or {f : Value} {r r' : List V → Hp → VK → Prop} (h : CallR X f r) (h' : CallR X f r') : CallR X f (fun xs H Q => r xs H Q ∨ r' xs H Q) := fun pins s σ H xs us Q I rx q =>
  q.elim (h pins s σ H xs us Q I rx) (h' pins s σ H xs us Q I rx)
end
end KD

/-! KdC: the operations on plain data, each with its rule over the layer. -/
namespace KD
open PySem L2

/-- the items of a list of the store -/
def lstOf (S : Store) (n : Nat) : Option (List D) := match S[n]? with
  | some (.lst xs) => some xs
  | some (.ro xs) => some xs
  | _ => none
section
variable {Z : Zn} {φ : Fi} {S : Store} {H : Hp} {n : Nat} {xs : List D} {v : V} {Q : VK}
theorem HRep.addr (h : HRep Z φ S H) {o : O} (e : S[n]? = some o) : ∃ a, φ.ad n = some a := by
  have := (List.getElem?_eq_some_iff.mp e).1
  have hl := h.len
  exact ⟨_, Fi.ad_of (a := φ[n].1) (f := φ[n].2) (List.getElem?_eq_getElem (by omega))⟩
/-- a list of the store is read -/
theorem HRep.sq (h : HRep Z φ S H) (e : lstOf S n = some xs) (r : RepV Z.K φ H (.ref n) v) : ∃ a vs, v = .ref a ∧ φ.ad n = some a ∧ SqL Z.K H a vs ∧ RepL Z.K φ H xs vs := by
  simp only [RepV] at r
  obtain ⟨a, ea, rfl⟩ := r
  unfold lstOf at e
  split at e
  · rename_i ys he
    cases e
    obtain ⟨vs, q, r⟩ := h.obj n _ a he ea
    exact ⟨a, vs, rfl, ea, SqL.of q, r⟩
  · rename_i ys he
    cases e
    obtain ⟨vs, q, r⟩ := h.obj n _ a he ea
    refine ⟨a, vs, rfl, ea, ?_, r⟩
    rcases q with ⟨o, q⟩ | q
    · exact .inl (.inr ⟨o, q⟩)
    · exact .inr q
  · cases e
theorem HRep.lst (h : HRep Z φ S H) (e : S[n]? = some (.lst xs)) (r : RepV Z.K φ H (.ref n) v) : ∃ a vs, v = .ref a ∧ φ.ad n = some a ∧ H a = some (.lst vs) ∧ RepL Z.K φ H xs vs := by
  simp only [RepV] at r
  obtain ⟨a, ea, rfl⟩ := r
  obtain ⟨vs, q, r⟩ := h.obj n _ a e ea
  exact ⟨a, vs, rfl, ea, q, r⟩
/-- a new list answers -/
theorem new_list (h : HRep Z φ S H) {vs : List V} (r : RepL Z.K φ H xs vs) (o : OutP Z (RepV Z.K) φ H (some (.ref S.length, S ++ [.lst xs])) Q) : ∀ p, H p = none → Q (.ref p) (upd H p (.lst vs)) := fun p hp => by
  have g : Grow Z.K φ H (φ ++ [(p, true)]) (upd H p (.lst vs)) := Grow.obj hp
  refine o (φ ++ [(p, true)]) _ _ g (h.alloc (o := .lst xs) hp ⟨vs, upd_same, r.grow g⟩) ?_
  simp only [RepV]
  exact ⟨p, by rw [← h.len]; simp [Fi.ad], rfl⟩
/-- a new tuple answers -/
theorem new_tup (h : HRep Z φ S H) {vs : List V} (r : RepL Z.K φ H xs vs) (o : OutP Z (RepV Z.K) φ H (some (.tup xs, S)) Q) : ∀ p, H p = none → Q (.ref p) (upd H p (.tup vs)) := fun p hp => by
  refine o φ _ _ (Grow.new hp) (h.new hp) ?_
  simp only [RepV]
  exact ⟨p, vs, rfl, SqT.of upd_same, r.grow (Grow.new hp)⟩
/-- a list is changed in its place -/
theorem set_lst (h : HRep Z φ S H) {ys : List D} {us ws : List V} {a : Addr} {d : D} {u : V} (e : S[n]? = some (.lst xs)) (ea : φ.ad n = some a) (q : H a = some (.lst us)) (r : RepL Z.K φ H ys ws) (rd : RepV Z.K φ H d u)
    (o : OutP Z (RepV Z.K) φ H (some (d, S.set n (.lst ys))) Q) : Q u (upd H a (.lst ws)) := by
  have g : Grow Z.K φ H φ (upd H a (.lst ws)) := Grow.write (h.own e rfl ea) q trivial
  exact o φ _ _ g (h.write e rfl ea rfl ⟨ws, upd_same, r.grow g⟩) (rd.grow g)
end

/-! ### lists read in + -/
section
variable {X : Cx}
def rCatL (K : Frag) : R2 := fun x y H Q => ∃ l b xs zs, x = .ref l ∧ y = .ref b ∧ SqL K H l xs ∧ SqL K H b zs ∧ xs.length + zs.length ≤ sizeLine ∧ ∀ p, H p = none → Q (.ref p) (upd H p (.lst (xs ++ zs)))
theorem op_catL : OpR X (binaryOp .Add) (rCatL X.K) := by
  intro pins s σ H x y v u Q I rx ry h
  obtain ⟨l, b, xs, zs, rfl, rfl, h1, h2, hz, q⟩ := h
  cases rx
  cases ry
  obtain ⟨i1, r1, p1, _⟩ := I.list h1
  obtain ⟨i2, r2, p2, _⟩ := I.list h2
  obtain ⟨⟨c1, d1, t1, s1⟩, n1, g1, hc1, hd1, ht1⟩ := p1
  obtain ⟨⟨c2, d2, t2, s2⟩, n2, g2, hc2, hd2, ht2⟩ := p2
  simp only at hc1 hd1 ht1 hc2 hd2 ht2
  subst hc1 hd1 ht1 hc2 hd2 ht2
  have l1 := r1.length
  have l2 := r2.length
  refine concat_meets ⟨_, g1, rfl⟩ ⟨_, g2, rfl⟩ PySem.noFill_list_add PySem.seq_list_add PySem.F.slot_list_add PySem.F.entry_list_add (PySem.F.args_list_add_2 _ _)
    (PyProof.Rows.list_addW l b i1.toArray i2.toArray n1 n2 none none s1 s2 (by simp only [List.size_toArray]; omega)) ⟨g1, g2, ?_⟩
  have ea : i1.toArray ++ i2.toArray = (i1 ++ i2).toArray := by simp
  rw [ea]
  exact ⟨.ref _, _, I.lnew (t' := s.toks) (r1.append r2) (by rw [List.length_append]; omega), rfl, q _ I.fresh⟩
/-- a text times an int -/
def rMulS : R2 := fun x y H Q => ∃ z i, x = .str z ∧ y = .int i ∧ MulOk z i ∧ Q (.str (Txt.mul z i)) H
theorem op_mulS : OpR X (binaryOp .Mult) rMulS := by
  intro pins s σ H x y v u Q I rx ry h
  obtain ⟨z, i, rfl, rfl, ok, q⟩ := h
  obtain ⟨t, rfl⟩ := rx
  obtain ⟨t', rfl⟩ := ry
  exact SB.mul ok fun t2 k => ⟨.str _, H, I.tok _, ⟨_, rfl⟩, q⟩
theorem mulOk_small {z : Str} {i : Int} (h1 : z.length ≤ 1000) (h2 : -1000 ≤ i) (h3 : i ≤ 1000) : MulOk z i := by
  refine ⟨?_, fun h _ => ?_, fun h _ => ?_⟩
  · simp only [Bool.or_eq_false_iff, decide_eq_false_iff_not]; omega
  · have h0 : (0 : Int) < i := by omega
    have hm : (z.length : Int) * i ≤ 1000 * 1000 := Int.mul_le_mul (by omega) h3 (by omega) (by omega)
    intro hc
    have hle : (z.length : Int) ≤ (2 ^ 63 - 1) / i := (Int.le_ediv_iff_mul_le h0).mpr (by omega)
    omega
  · have hm : z.length * i.toNat ≤ 1000 * 1000 := Nat.mul_le_mul h1 (by omega)
    unfold Builtin.Str.tooLong
    refine decide_eq_false ?_
    rw [sizeLine_eq]
    omega
end

/-! ### == and in -/
mutual
/-- the data as the library's equality has it (a ref is nothing of it) -/
def pP : D → PyData
  | .non => .none
  | .bl b => .bool b
  | .int i => .int i
  | .str x => .str x
  | .tup xs => .tuple (pPL xs)
  | .ref _ => .none
def pPL : List D → List PyData
  | [] => []
  | d :: ds => pP d :: pPL ds
end
mutual
/-- no object of the store in it, texts of real signs, nested at most n deep -/
def okD : Nat → D → Bool
  | _, .non => true
  | _, .bl _ => true
  | _, .int _ => true
  | _, .str x => PyData.strOk x
  | 0, .tup _ => false
  | n + 1, .tup xs => okDL n xs
  | _, .ref _ => false
def okDL : Nat → List D → Bool
  | _, [] => true
  | n, d :: ds => okD n d && okDL n ds
end
/-- Python's == -/
def deq (d e : D) : Bool := PyData.eqv (pP d) (pP e)
def deqL (d e : List D) : Bool := PyData.eqvAll (pPL d) (pPL e)
section
variable {K : Frag} {φ : Fi} {H : Hp}
mutual
theorem okD.dp : ∀ {n : Nat} {d : D} {v : V}, okD n d = true → RepV K φ H d v → Dp K H v (pP d)
  | _, .non, _, _, r => by simp only [RepV] at r; subst r; exact .non
  | _, .bl b, _, _, r => by simp only [RepV] at r; subst r; exact .bl b
  | _, .int b, _, _, r => by simp only [RepV] at r; subst r; exact .int b
  | _, .str b, _, _, r => by simp only [RepV] at r; subst r; exact .str b
  | 0, .tup xs, _, h, _ => by simp [okD] at h
  | n + 1, .tup xs, _, h, r => by
    simp only [RepV] at r
    obtain ⟨a, vs, rfl, t, q⟩ := r
    simp only [okD] at h
    exact .tup t (okDL.dp h q)
  | _, .ref m, _, h, _ => by simp [okD] at h
theorem okDL.dp : ∀ {n : Nat} {ds : List D} {vs : List V}, okDL n ds = true → RepL K φ H ds vs → DpAll K H vs (pPL ds)
  | _, [], _, _, r => by rw [RepL.nil_inv r]; exact .nil
  | n, d :: ds, _, h, r => by
    obtain ⟨v, q, rfl, h1, h2⟩ := RepL.cons_inv r
    simp only [okDL, Bool.and_eq_true] at h
    exact .cons (okD.dp h.1 h1) (okDL.dp h.2 h2)
end
mutual
theorem okD.lay : ∀ {n : Nat} {d : D}, okD n d = true → (pP d).canLay0 = true ∧ (pP d).depth ≤ n + 1
  | _, .non, _ => by simp [pP, PyData.canLay0, PyData.depth]
  | _, .bl b, _ => by simp [pP, PyData.canLay0, PyData.depth]
  | _, .int b, _ => by simp [pP, PyData.canLay0, PyData.depth]
  | _, .str b, h => by simp only [okD] at h; simp [pP, PyData.canLay0, PyData.depth, h]
  | 0, .tup xs, h => by simp [okD] at h
  | n + 1, .tup xs, h => by
    simp only [okD] at h
    have q := okDL.lay h
    simp only [pP, PyData.canLay0, PyData.depth]
    exact ⟨q.1, by omega⟩
  | _, .ref m, h => by simp [okD] at h
theorem okDL.lay : ∀ {n : Nat} {ds : List D}, okDL n ds = true → PyData.canLayAll0 (pPL ds) = true ∧ PyData.depthAll (pPL ds) ≤ n + 1
  | _, [], _ => by simp [pPL, PyData.canLayAll0, PyData.depthAll]
  | n, d :: ds, h => by
    simp only [okDL, Bool.and_eq_true] at h
    have q1 := okD.lay h.1
    have q2 := okDL.lay h.2
    simp only [pPL, PyData.canLayAll0, PyData.depthAll, Bool.and_eq_true]
    exact ⟨⟨q1.1, q2.1⟩, by omega⟩
end
theorem okD.shaped {d : D} (h : okD 60 d = true) : SeqAt.shaped (pP d) = true := by
  have q := okD.lay h
  unfold SeqAt.shaped
  rw [q.1, decide_eq_true (by omega)]; rfl
theorem okDL.shapedL {ds : List D} (h : okDL 60 ds = true) : SeqAt.shaped (.list (pPL ds)) = true := by
  have q := okDL.lay h
  exact Bool.and_eq_true_iff.mpr ⟨by simp only [PyData.canLay0]; exact q.1, decide_eq_true (by simp only [PyData.depth]; omega)⟩
theorem okDL.shapedT {ds : List D} (h : okDL 60 ds = true) : SeqAt.shaped (.tuple (pPL ds)) = true := by
  have q := okDL.lay h
  exact Bool.and_eq_true_iff.mpr ⟨by simp only [PyData.canLay0]; exact q.1, decide_eq_true (by simp only [PyData.depth]; omega)⟩
theorem any_pP (ds : List D) (d : D) : ((pPL ds).any fun z => PyData.eqv z (pP d)) = ds.any fun z => deq z d := by
  induction ds with
  | nil => rfl
  | cons x r ih => simp only [pPL, List.any_cons, ih, deq]
end
/-- what == asks -/
def dEqB (d e : D) (S : Store) : Option Bool := match d, e with
  | .ref n, .ref m => match lstOf S n, lstOf S m with
    | some xs, some ys => if okDL 60 xs && okDL 60 ys then some (deqL xs ys) else none
    | _, _ => none
  | .ref n, e => match lstOf S n with
    | some xs => if okDL 60 xs && okD 60 e then some false else none
    | none => none
  | d, .ref m => match lstOf S m with
    | some ys => if okD 60 d && okDL 60 ys then some false else none
    | none => none
  | .str x, .str y => some (x == y)
  | d, e => if okD 60 d && okD 60 e then some (deq d e) else none
def dEq (d e : D) (S : Store) : Op D := (dEqB d e S).map fun b => (.bl b, S)
def dNe (d e : D) (S : Store) : Op D := (dEqB d e S).map fun b => (.bl (!b), S)
/-- what in asks -/
def dInB (d e : D) (S : Store) : Option Bool := match d, e with
  | .str a, .str b => some (!(Builtin.Str.occurrences b a 0 b.length 1).isEmpty)
  | d, .tup ys => if okD 60 d && okDL 60 ys then some (ys.any fun z => deq z d) else none
  | d, .ref m => match lstOf S m with
    | some ys => if okD 60 d && okDL 60 ys then some (ys.any fun z => deq z d) else none
    | none => none
  | _, _ => none
def dIn (d e : D) (S : Store) : Op D := (dInB d e S).map fun b => (.bl b, S)
def dNotIn (d e : D) (S : Store) : Op D := (dInB d e S).map fun b => (.bl (!b), S)
section
variable {X : Cx} {Z : Zn}
theorem eqv_lt (xs : List PyData) (d : D) : PyData.eqv (.list xs) (pP d) = false := by cases d <;> simp [pP, PyData.eqv]
theorem eqv_tl (xs : List PyData) (d : D) : PyData.eqv (pP d) (.list xs) = false := by cases d <;> simp [pP, PyData.eqv]
theorem dEqB_dp {φ : Fi} {S : Store} {H : Hp} {d e : D} {x y : V} {b : Bool} (h : HRep Z φ S H) (rd : RepV Z.K φ H d x) (re : RepV Z.K φ H e y) (q : dEqB d e S = some b) :
    (∃ p q, x = .str p ∧ y = .str q ∧ b = (p == q)) ∨ ∃ p q, Dp Z.K H x p ∧ Dp Z.K H y q ∧ SeqAt.shaped p = true ∧ SeqAt.shaped q = true ∧ b = PyData.eqv p q := by
  unfold dEqB at q
  split at q
  · split at q
    · split at q
      · rename_i n m xs ys e1 e2 hc
        cases q
        rw [Bool.and_eq_true] at hc
        obtain ⟨a, vs, rfl, _, s1, r1⟩ := h.sq e1 rd
        obtain ⟨c, ws, rfl, _, s2, r2⟩ := h.sq e2 re
        exact .inr ⟨_, _, .lst s1 (okDL.dp hc.1 r1), .lst s2 (okDL.dp hc.2 r2), okDL.shapedL hc.1, okDL.shapedL hc.2, by simp only [PyData.eqv, deqL]⟩
      · cases q
    · cases q
  · split at q
    · split at q
      · rename_i xs e1 hc
        cases q
        rw [Bool.and_eq_true] at hc
        obtain ⟨a, vs, rfl, _, s1, r1⟩ := h.sq e1 rd
        exact .inr ⟨_, _, .lst s1 (okDL.dp hc.1 r1), okD.dp hc.2 re, okDL.shapedL hc.1, okD.shaped hc.2, (eqv_lt _ _).symm⟩
      · cases q
    · cases q
  · split at q
    · split at q
      · rename_i ys e1 hc
        cases q
        rw [Bool.and_eq_true] at hc
        obtain ⟨a, vs, rfl, _, s1, r1⟩ := h.sq e1 re
        exact .inr ⟨_, _, okD.dp hc.1 rd, .lst s1 (okDL.dp hc.2 r1), okD.shaped hc.1, okDL.shapedL hc.2, (eqv_tl _ _).symm⟩
      · cases q
    · cases q
  · cases q
    simp only [RepV] at rd re
    exact .inl ⟨_, _, rd, re, rfl⟩
  · split at q
    · rename_i hc
      cases q
      rw [Bool.and_eq_true] at hc
      exact .inr ⟨_, _, okD.dp hc.1 rd, okD.dp hc.2 re, okD.shaped hc.1, okD.shaped hc.2, rfl⟩
    · cases q
theorem str_beq (a b : Str) : (a == b) = decide (V.str a = V.str b) := by
  by_cases h : a = b
  · subst h; simp
  · rw [beq_eq_false_iff_ne.mpr h, decide_eq_false (fun z => h (V.str.inj z))]
theorem od_eq (hZ : X.K = Z.K) (hu : X.A.units + 64 < cLine) : OpR X (compareOp .Eq) (RD2 Z dEq) := by
  refine OpR.imp (OpR.or op_eq (hZ ▸ op_eqD hu)) fun x y H Q ⟨φ, S, d, e, h, rd, re, o⟩ => ?_
  unfold dEq at o
  cases q : dEqB d e S with
  | none => rw [q] at o; exact o.elim
  | some b =>
    rw [q] at o
    have w : Q (.bl b) H := o φ H (.bl b) Grow.refl h (by simp only [RepV])
    rcases dEqB_dp h rd re q with ⟨p, t, rfl, rfl, rfl⟩ | ⟨p, t, h1, h2, h3, h4, rfl⟩
    · exact .inl ⟨rfl, by rw [← str_beq]; exact w⟩
    · exact .inr ⟨p, t, h1, h2, h3, h4, w⟩
theorem od_ne (hZ : X.K = Z.K) (hu : X.A.units + 64 < cLine) : OpR X (compareOp .NotEq) (RD2 Z dNe) := by
  refine OpR.imp (OpR.or op_ne (hZ ▸ op_neD hu)) fun x y H Q ⟨φ, S, d, e, h, rd, re, o⟩ => ?_
  unfold dNe at o
  cases q : dEqB d e S with
  | none => rw [q] at o; exact o.elim
  | some b =>
    rw [q] at o
    have w : Q (.bl (!b)) H := o φ H (.bl (!b)) Grow.refl h (by simp only [RepV])
    rcases dEqB_dp h rd re q with ⟨p, t, rfl, rfl, rfl⟩ | ⟨p, t, h1, h2, h3, h4, rfl⟩
    · exact .inl ⟨rfl, by rw [← str_beq]; exact w⟩
    · exact .inr ⟨p, t, h1, h2, h3, h4, w⟩
/-- in a tuple of data of any depth -/
def rInT (K : Frag) (neg : Bool) : R2 := fun x y H Q => ∃ d ds, Dp K H x d ∧ Dp K H y (.tuple ds) ∧ SeqAt.shaped d = true ∧ SeqAt.shaped (.tuple ds) = true ∧ Q (.bl (if neg then !ds.any fun z => PyData.eqv z d else ds.any fun z => PyData.eqv z d)) H
theorem op_inT (hu : X.A.units + 65 < cLine) : OpR X (compareOp .In) (rInT X.K false) := by
  intro pins s σ H x y v u Q I rx ry h
  obtain ⟨d, ds, h1, h2, k1, k2, q⟩ := h
  obtain ⟨as, r1⟩ := Dp.reads I d x v h1 rx
  obtain ⟨bs, r2⟩ := Dp.reads I (.tuple ds) y u h2 ry
  have k3 := SeqAt.depth_of_shaped k1
  exact SeqAt.in_tuple_reads r2 r1 (SeqAt.canLay_of_shaped k2) (SeqAt.canLay_of_shaped k1) (by omega) ⟨.bl _, H, I, rfl, q⟩
theorem op_notInT (hu : X.A.units + 65 < cLine) : OpR X (compareOp .NotIn) (rInT X.K true) := by
  intro pins s σ H x y v u Q I rx ry h
  obtain ⟨d, ds, h1, h2, k1, k2, q⟩ := h
  obtain ⟨as, r1⟩ := Dp.reads I d x v h1 rx
  obtain ⟨bs, r2⟩ := Dp.reads I (.tuple ds) y u h2 ry
  have k3 := SeqAt.depth_of_shaped k1
  exact SeqAt.notIn_tuple_reads r2 r1 (SeqAt.canLay_of_shaped k2) (SeqAt.canLay_of_shaped k1) (by omega) ⟨.bl _, H, I, rfl, q⟩
theorem dInB_dp {φ : Fi} {S : Store} {H : Hp} {d e : D} {x y : V} {b : Bool} (h : HRep Z φ S H) (rd : RepV Z.K φ H d x) (re : RepV Z.K φ H e y) (q : dInB d e S = some b) :
    (∃ p q, x = .str p ∧ y = .str q ∧ b = !(Builtin.Str.occurrences q p 0 q.length 1).isEmpty) ∨ (∃ p ds, Dp Z.K H x p ∧ Dp Z.K H y (.tuple ds) ∧ SeqAt.shaped p = true ∧ SeqAt.shaped (.tuple ds) = true ∧ b = ds.any fun z => PyData.eqv z p) ∨
      ∃ p ds, Dp Z.K H x p ∧ Dp Z.K H y (.list ds) ∧ SeqAt.shaped p = true ∧ SeqAt.shaped (.list ds) = true ∧ b = ds.any fun z => PyData.eqv z p := by
  unfold dInB at q
  split at q
  · cases q
    simp only [RepV] at rd re
    exact .inl ⟨_, _, rd, re, rfl⟩
  · split at q
    · rename_i hc
      cases q
      rw [Bool.and_eq_true] at hc
      simp only [RepV] at re
      obtain ⟨a, vs, rfl, t, r⟩ := re
      exact .inr (.inl ⟨_, _, okD.dp hc.1 rd, .tup t (okDL.dp hc.2 r), okD.shaped hc.1, okDL.shapedT hc.2, (any_pP _ _).symm⟩)
    · cases q
  · split at q
    · split at q
      · rename_i ys e1 hc
        cases q
        rw [Bool.and_eq_true] at hc
        obtain ⟨a, vs, rfl, _, s1, r1⟩ := h.sq e1 re
        exact .inr (.inr ⟨_, _, okD.dp hc.1 rd, .lst s1 (okDL.dp hc.2 r1), okD.shaped hc.1, okDL.shapedL hc.2, (any_pP _ _).symm⟩)
      · cases q
    · cases q
  · cases q
theorem od_in (hZ : X.K = Z.K) (hu : X.A.units + 65 < cLine) : OpR X (compareOp .In) (RD2 Z dIn) := by
  refine OpR.imp (OpR.or op_in_str (OpR.or (hZ ▸ op_inT hu) (hZ ▸ op_inD hu))) fun x y H Q ⟨φ, S, d, e, h, rd, re, o⟩ => ?_
  unfold dIn at o
  cases q : dInB d e S with
  | none => rw [q] at o; exact o.elim
  | some b =>
    rw [q] at o
    have w : Q (.bl b) H := o φ H (.bl b) Grow.refl h (by simp only [RepV])
    rcases dInB_dp h rd re q with ⟨p, t, rfl, rfl, rfl⟩ | ⟨p, t, h1, h2, h3, h4, rfl⟩ | ⟨p, t, h1, h2, h3, h4, rfl⟩
    · exact .inl ⟨_, _, rfl, rfl, w⟩
    · exact .inr (.inl ⟨p, t, h1, h2, h3, h4, w⟩)
    · exact .inr (.inr ⟨p, t, h1, h2, h3, h4, w⟩)
theorem od_notIn (hZ : X.K = Z.K) (hu : X.A.units + 65 < cLine) : OpR X (compareOp .NotIn) (RD2 Z dNotIn) := by
  refine OpR.imp (OpR.or op_notin_str (OpR.or (hZ ▸ op_notInT hu) (hZ ▸ op_notInD hu))) fun x y H Q ⟨φ, S, d, e, h, rd, re, o⟩ => ?_
  unfold dNotIn at o
  cases q : dInB d e S with
  | none => rw [q] at o; exact o.elim
  | some b =>
    rw [q] at o
    have w : Q (.bl (!b)) H := o φ H (.bl (!b)) Grow.refl h (by simp only [RepV])
    rcases dInB_dp h rd re q with ⟨p, t, rfl, rfl, rfl⟩ | ⟨p, t, h1, h2, h3, h4, rfl⟩ | ⟨p, t, h1, h2, h3, h4, rfl⟩
    · exact .inl ⟨_, _, rfl, rfl, w⟩
    · exact .inr (.inl ⟨p, t, h1, h2, h3, h4, w⟩)
    · exact .inr (.inr ⟨p, t, h1, h2, h3, h4, w⟩)
end
end KD

/-! KdD: arithmetic, order, subscripts, slices, truth, built-in calls and methods on plain data. -/
namespace KD
open PySem L2

def dAdd (d e : D) (S : Store) : Op D := match d, e with
  | .int i, .int j => some (.int (i + j), S)
  | .str a, .str b => if a.length + b.length ≤ sizeLine then some (.str (a ++ b), S) else none
  | .tup xs, .tup ys => if xs.length + ys.length ≤ sizeLine then some (.tup (xs ++ ys), S) else none
  | .ref n, .ref m => match lstOf S n, lstOf S m with
    | some xs, some ys => if xs.length + ys.length ≤ sizeLine then some (.ref S.length, S ++ [.lst (xs ++ ys)]) else none
    | _, _ => none
  | _, _ => none
def dSub (d e : D) (S : Store) : Op D := match d, e with
  | .int i, .int j => some (.int (i - j), S)
  | _, _ => none
def dMul (d e : D) (S : Store) : Op D := match d, e with
  | .int i, .int j => if (-(2 ^ 64) < i ∧ i < 2 ^ 64) ∨ (-(2 ^ 64) < j ∧ j < 2 ^ 64) then some (.int (i * j), S) else none
  | .str z, .int i => if z.length ≤ 1000 ∧ -1000 ≤ i ∧ i ≤ 1000 then some (.str (Txt.mul z i), S) else none
  | .ref n, .int k => match S[n]? with
    | some (.lst xs) => if -(2 ^ 63) ≤ k ∧ k < 2 ^ 63 ∧ xs.length * k.toNat ≤ sizeLine then some (.ref S.length, S ++ [.lst (List.replicate k.toNat xs).flatten]) else none
    | _ => none
  | _, _ => none
def dDiv (d e : D) (S : Store) : Op D := match d, e with
  | .int i, .int j => if 0 < j ∧ j < 2 ^ 100 then some (.int (i / j), S) else none
  | _, _ => none
def dMod (d e : D) (S : Store) : Op D := match d, e with
  | .int i, .int j => if 0 < j then some (.int (i % j), S) else none
  | _, _ => none
def dPow (d e : D) (S : Store) : Op D := match d, e with
  | .int i, .int j => if 0 ≤ j ∧ j ≤ 1000000 ∧ i.natAbs < 2 ^ 64 then some (.int (i ^ j.toNat), S) else none
  | _, _ => none
def dShl (d e : D) (S : Store) : Op D := match d, e with
  | .int i, .int j => if 0 ≤ j ∧ j ≤ 1000000 ∧ i.natAbs < 2 ^ 64 then some (.int (i * 2 ^ j.toNat), S) else none
  | _, _ => none
def dLt (d e : D) (S : Store) : Op D := match d, e with
  | .int i, .int j => some (.bl (decide (i < j)), S)
  | .str i, .str j => some (.bl (decide (i.cps.toList < j.cps.toList)), S)
  | _, _ => none
def dLe (d e : D) (S : Store) : Op D := match d, e with
  | .int i, .int j => some (.bl (decide (i ≤ j)), S)
  | .str i, .str j => some (.bl (!decide (j.cps.toList < i.cps.toList)), S)
  | _, _ => none
def dGt (d e : D) (S : Store) : Op D := match d, e with
  | .int i, .int j => some (.bl (decide (j < i)), S)
  | .str i, .str j => some (.bl (decide (j.cps.toList < i.cps.toList)), S)
  | _, _ => none
def dGe (d e : D) (S : Store) : Op D := match d, e with
  | .int i, .int j => some (.bl (decide (j ≤ i)), S)
  | .str i, .str j => some (.bl (!decide (i.cps.toList < j.cps.toList)), S)
  | _, _ => none
def isNon : D → Bool
  | .non => true
  | _ => false
def dIs (d e : D) (S : Store) : Op D := match e with
  | .non => some (.bl (isNon d), S)
  | _ => none
def dIsNot (d e : D) (S : Store) : Op D := match e with
  | .non => some (.bl (!isNon d), S)
  | _ => none
section
variable {X : Cx} {Z : Zn}
theorem OutP.here {Z : Zn} {φ : Fi} {H : Hp} {S : Store} {d : D} {v : V} {Q : VK} (o : OutP Z (RepV Z.K) φ H (some (d, S)) Q) (h : HRep Z φ S H) (r : RepV Z.K φ H d v) : Q v H := o φ H v Grow.refl h r
theorem rInt {K : Frag} {φ : Fi} {H : Hp} {i : Int} : RepV K φ H (.int i) (.int i) := by simp only [RepV]
theorem rStr {K : Frag} {φ : Fi} {H : Hp} {i : Str} : RepV K φ H (.str i) (.str i) := by simp only [RepV]
theorem rBl {K : Frag} {φ : Fi} {H : Hp} {i : Bool} : RepV K φ H (.bl i) (.bl i) := by simp only [RepV]
theorem rNon {K : Frag} {φ : Fi} {H : Hp} : RepV K φ H .non .non := by simp only [RepV]
theorem rTup {K : Frag} {φ : Fi} {H : Hp} {a : Addr} {ds : List D} {vs : List V} (t : SqT K H a vs) (r : RepL K φ H ds vs) : RepV K φ H (.tup ds) (.ref a) := by simp only [RepV]; exact ⟨a, vs, rfl, t, r⟩
theorem RepV.int_inv {K : Frag} {φ : Fi} {H : Hp} {i : Int} {v : V} (h : RepV K φ H (.int i) v) : v = .int i := by simpa only [RepV] using h
theorem RepV.str_inv {K : Frag} {φ : Fi} {H : Hp} {i : Str} {v : V} (h : RepV K φ H (.str i) v) : v = .str i := by simpa only [RepV] using h
theorem RepV.bl_inv {K : Frag} {φ : Fi} {H : Hp} {i : Bool} {v : V} (h : RepV K φ H (.bl i) v) : v = .bl i := by simpa only [RepV] using h
theorem RepV.non_inv {K : Frag} {φ : Fi} {H : Hp} {v : V} (h : RepV K φ H .non v) : v = .non := by simpa only [RepV] using h
theorem RepV.tup_inv {K : Frag} {φ : Fi} {H : Hp} {ds : List D} {v : V} (h : RepV K φ H (.tup ds) v) : ∃ a vs, v = .ref a ∧ SqT K H a vs ∧ RepL K φ H ds vs := by simpa only [RepV] using h
theorem RepV.ref_inv {K : Frag} {φ : Fi} {H : Hp} {n : Nat} {v : V} (h : RepV K φ H (.ref n) v) : ∃ a, φ.ad n = some a ∧ v = .ref a := by simpa only [RepV] using h
theorem RepV.isNon {K : Frag} {φ : Fi} {H : Hp} {d : D} {v : V} (h : RepV K φ H d v) : decide (v = .non) = KD.isNon d := by
  cases d with
  | non => rw [h.non_inv]; rfl
  | bl b => rw [h.bl_inv]; exact decide_eq_false (fun z => nomatch z)
  | int b => rw [h.int_inv]; exact decide_eq_false (fun z => nomatch z)
  | str b => rw [h.str_inv]; exact decide_eq_false (fun z => nomatch z)
  | tup b => obtain ⟨a, vs, rfl, _⟩ := h.tup_inv; exact decide_eq_false (fun z => nomatch z)
  | ref b => obtain ⟨a, _, rfl⟩ := h.ref_inv; exact decide_eq_false (fun z => nomatch z)
theorem od_add (hZ : X.K = Z.K) : OpR X (binaryOp .Add) (RD2 Z dAdd) := by
  refine OpR.imp (OpR.or op_add (OpR.or op_add_str (OpR.or (hZ ▸ op_catA) (hZ ▸ op_catL)))) fun x y H Q ⟨φ, S, d, e, h, rd, re, o⟩ => ?_
  unfold dAdd at o
  split at o
  · exact .inl ⟨_, _, rd.int_inv, re.int_inv, o.here h rInt⟩
  · split at o
    · exact .inr (.inl ⟨_, _, rd.str_inv, re.str_inv, by assumption, o.here h rStr⟩)
    · exact o.elim
  · split at o
    · obtain ⟨a, vs, rfl, t, r⟩ := rd.tup_inv
      obtain ⟨b, ws, rfl, t', r'⟩ := re.tup_inv
      have l1 := r.len
      have l2 := r'.len
      refine .inr (.inr (.inl ⟨a, b, vs, ws, rfl, rfl, t, t', by omega, fun z => ?_, fun _ z => ?_, fun _ _ => new_tup h (r.append r') o⟩))
      · subst z
        exact o.here h (rTup t' (by simpa using r.append r'))
      · subst z
        exact o.here h (rTup t (by simpa using r.append r'))
    · exact o.elim
  · split at o
    · split at o
      · rename_i e1 e2 hl
        obtain ⟨a, vs, rfl, _, s1, r1⟩ := h.sq e1 rd
        obtain ⟨c, ws, rfl, _, s2, r2⟩ := h.sq e2 re
        have l1 := r1.len
        have l2 := r2.len
        exact .inr (.inr (.inr ⟨a, c, vs, ws, rfl, rfl, s1, s2, by omega, new_list h (r1.append r2) o⟩))
      · exact o.elim
    · exact o.elim
  · exact o.elim
theorem od_sub : OpR X (binaryOp .Sub) (RD2 Z dSub) := by
  refine OpR.imp op_sub fun x y H Q ⟨φ, S, d, e, h, rd, re, o⟩ => ?_
  unfold dSub at o
  split at o
  · exact ⟨_, _, rd.int_inv, re.int_inv, o.here h rInt⟩
  · exact o.elim
theorem RepL.rep {K : Frag} {φ : Fi} {H : Hp} {xs : List D} {vs : List V} (r : RepL K φ H xs vs) : ∀ k : Nat, RepL K φ H (List.replicate k xs).flatten (List.replicate k vs).flatten
  | 0 => RepL.nil
  | k + 1 => by
    rw [List.replicate_succ, List.replicate_succ, List.flatten_cons, List.flatten_cons]
    exact r.append (RepL.rep r k)
theorem od_mul : OpR X (binaryOp .Mult) (RD2 Z dMul) := by
  refine OpR.imp (OpR.or op_mul (OpR.or op_mulS op_rep)) fun x y H Q ⟨φ, S, d, e, h, rd, re, o⟩ => ?_
  unfold dMul at o
  split at o
  · split at o
    · exact .inl ⟨_, _, rd.int_inv, re.int_inv, by assumption, o.here h rInt⟩
    · exact o.elim
  · split at o
    · rename_i hc
      exact .inr (.inl ⟨_, _, rd.str_inv, re.int_inv, mulOk_small hc.1 hc.2.1 hc.2.2, o.here h rStr⟩)
    · exact o.elim
  · split at o
    · split at o
      · rename_i e1 hc
        obtain ⟨a, vs, rfl, _, s1, r1⟩ := h.lst e1 rd
        have l1 := r1.len
        exact .inr (.inr ⟨a, _, vs, rfl, re.int_inv, s1, hc.1, hc.2.1, by rw [l1]; exact hc.2.2, new_list h (r1.rep _) o⟩)
      · exact o.elim
    · exact o.elim
  · exact o.elim
theorem od_div : OpR X (binaryOp .FloorDiv) (RD2 Z dDiv) := by
  refine OpR.imp op_fdivW fun x y H Q ⟨φ, S, d, e, h, rd, re, o⟩ => ?_
  unfold dDiv at o
  split at o
  · split at o
    · rename_i hj
      have hl : ∀ k : Int, 0 < k → k < 2 ^ 100 → k.natAbs.log2 < 9000 := fun k h1 h2 => Nat.lt_of_lt_of_le (PySem.Flt.log2_lt_of (k := 100) (by decide) (by omega)) (by decide)
      exact ⟨_, _, rd.int_inv, re.int_inv, ⟨hj.1, hl _ hj.1 hj.2⟩, o.here h rInt⟩
    · exact o.elim
  · exact o.elim
theorem od_mod : OpR X (binaryOp .Mod) (RD2 Z dMod) := by
  refine OpR.imp op_mod fun x y H Q ⟨φ, S, d, e, h, rd, re, o⟩ => ?_
  unfold dMod at o
  split at o
  · split at o
    · exact ⟨_, _, rd.int_inv, re.int_inv, by assumption, o.here h rInt⟩
    · exact o.elim
  · exact o.elim
theorem od_pow : OpR X (binaryOp .Pow) (RD2 Z dPow) := by
  refine OpR.imp op_pow fun x y H Q ⟨φ, S, d, e, h, rd, re, o⟩ => ?_
  unfold dPow at o
  split at o
  · split at o
    · exact ⟨_, _, rd.int_inv, re.int_inv, by assumption, o.here h rInt⟩
    · exact o.elim
  · exact o.elim
theorem od_shl : OpR X (binaryOp .LShift) (RD2 Z dShl) := by
  refine OpR.imp op_shl fun x y H Q ⟨φ, S, d, e, h, rd, re, o⟩ => ?_
  unfold dShl at o
  split at o
  · split at o
    · exact ⟨_, _, rd.int_inv, re.int_inv, by assumption, o.here h rInt⟩
    · exact o.elim
  · exact o.elim
theorem od_lt : OpR X (compareOp .Lt) (RD2 Z dLt) := by
  refine OpR.imp (OpR.or op_lt op_lt_str) fun x y H Q ⟨φ, S, d, e, h, rd, re, o⟩ => ?_
  unfold dLt at o
  split at o
  · exact .inl ⟨_, _, rd.int_inv, re.int_inv, o.here h rBl⟩
  · exact .inr ⟨_, _, rd.str_inv, re.str_inv, o.here h rBl⟩
  · exact o.elim
theorem od_le : OpR X (compareOp .LtE) (RD2 Z dLe) := by
  refine OpR.imp (OpR.or op_le op_le_str) fun x y H Q ⟨φ, S, d, e, h, rd, re, o⟩ => ?_
  unfold dLe at o
  split at o
  · exact .inl ⟨_, _, rd.int_inv, re.int_inv, o.here h rBl⟩
  · exact .inr ⟨_, _, rd.str_inv, re.str_inv, o.here h rBl⟩
  · exact o.elim
theorem od_gt : OpR X (compareOp .Gt) (RD2 Z dGt) := by
  refine OpR.imp (OpR.or op_gt op_gt_str) fun x y H Q ⟨φ, S, d, e, h, rd, re, o⟩ => ?_
  unfold dGt at o
  split at o
  · exact .inl ⟨_, _, rd.int_inv, re.int_inv, o.here h rBl⟩
  · exact .inr ⟨_, _, rd.str_inv, re.str_inv, o.here h rBl⟩
  · exact o.elim
theorem od_ge : OpR X (compareOp .GtE) (RD2 Z dGe) := by
  refine OpR.imp (OpR.or op_ge op_ge_str) fun x y H Q ⟨φ, S, d, e, h, rd, re, o⟩ => ?_
  unfold dGe at o
  split at o
  · exact .inl ⟨_, _, rd.int_inv, re.int_inv, o.here h rBl⟩
  · exact .inr ⟨_, _, rd.str_inv, re.str_inv, o.here h rBl⟩
  · exact o.elim
theorem od_is : OpR X (compareOp .Is) (RD2 Z dIs) := by
  refine OpR.imp op_isN fun x y H Q ⟨φ, S, d, e, h, rd, re, o⟩ => ?_
  unfold dIs at o
  split at o
  · exact ⟨re.non_inv, by rw [rd.isNon]; exact o.here h rBl⟩
  · exact o.elim
theorem od_isNot : OpR X (compareOp .IsNot) (RD2 Z dIsNot) := by
  refine OpR.imp op_notN fun x y H Q ⟨φ, S, d, e, h, rd, re, o⟩ => ?_
  unfold dIsNot at o
  split at o
  · exact ⟨re.non_inv, by rw [rd.isNon]; exact o.here h rBl⟩
  · exact o.elim
end

/-! ### subscripts, slices, truth -/
def dIx (d e : D) (S : Store) : Op D := match d, e with
  | .ref n, .int i => match lstOf S n with
    | some xs => (atI xs i).map fun v => (v, S)
    | none => none
  | .tup xs, .int i => (atI xs i).map fun v => (v, S)
  | .str z, .int i => if z.length ≤ sizeLine then (atI z.cps.toList i).map fun c => (.str ⟨#[c]⟩, S) else none
  | _, _ => none
def cutL {α : Type} (xs : List α) (lo hi : Option Int) : List α := (xs.drop (HT.sIx xs.length 0 lo)).take (HT.sIx xs.length xs.length hi - HT.sIx xs.length 0 lo)
def dSl (d : D) (lo hi : Option Int) (S : Store) : Op D := match d with
  | .ref n => match lstOf S n with
    | some xs => some (.ref S.length, S ++ [.lst (cutL xs lo hi)])
    | none => none
  | .tup xs => some (.tup (cutL xs lo hi), S)
  | .str z => if z.length ≤ sizeLine then some (.str (cutS z lo hi), S) else none
  | _ => none
def dTru (d : D) (S : Store) : Option Bool := match d with
  | .non => some false
  | .bl b => some b
  | .int i => some (i != 0)
  | .str y => if y.length ≤ sizeLine then some ((y.length : Int) != 0) else none
  | .tup xs => some (!xs.isEmpty)
  | .ref n => match S[n]? with
    | some (.lst xs) => some (!xs.isEmpty)
    | some (.ro xs) => some (!xs.isEmpty)
    | some (.dic kvs) => some (!kvs.isEmpty)
    | _ => none
section
variable {X : Cx} {Z : Zn}
theorem RepL.atI {K : Frag} {φ : Fi} {H : Hp} {xs : List D} {vs : List V} {i : Int} {d : D} (r : RepL K φ H xs vs) (e : L2.atI xs i = some d) : ∃ v, L2.atI vs i = some v ∧ RepV K φ H d v := by
  have hl := r.len
  unfold L2.atI at e ⊢
  rw [hl]
  cases q : ixN xs.length i with
  | none => rw [q] at e; cases e
  | some j =>
    rw [q] at e
    exact r.get e
theorem IxR.imp {r r' : R2} (h : IxR X r) (i : ∀ x y H Q, r' x y H Q → r x y H Q) : IxR X r' := fun a b pins s σ H x y v u Q I rx ry q hs => h a b pins s σ H x y v u Q I rx ry (i _ _ _ _ q) hs
theorem od_ix (hZ : X.K = Z.K) : IxR X (RD2 Z dIx) := by
  refine IxR.imp (hZ ▸ ix_seq) fun x y H Q ⟨φ, S, d, e, h, rd, re, o⟩ => ?_
  unfold dIx at o
  split at o
  · split at o
    · rename_i n i _ xs e1
      cases q : atI xs i with
      | none => rw [q] at o; exact o.elim
      | some v =>
        rw [q] at o
        obtain ⟨a, vs, rfl, _, s1, r1⟩ := h.sq e1 rd
        obtain ⟨u, e2, r2⟩ := r1.atI q
        exact .inl ⟨a, vs, _, u, rfl, re.int_inv, s1, e2, o.here h r2⟩
    · exact o.elim
  · rename_i xs i
    cases q : atI xs i with
    | none => rw [q] at o; exact o.elim
    | some v =>
      rw [q] at o
      obtain ⟨a, vs, rfl, t, r⟩ := rd.tup_inv
      obtain ⟨u, e2, r2⟩ := r.atI q
      exact .inr (.inl ⟨a, vs, _, u, rfl, re.int_inv, t, e2, o.here h r2⟩)
  · split at o
    · rename_i z i hl
      cases q : atI z.cps.toList i with
      | none => rw [q] at o; exact o.elim
      | some c =>
        rw [q] at o
        exact .inr (.inr ⟨_, _, c, rd.str_inv, re.int_inv, hl, q, o.here h rStr⟩)
    · exact o.elim
  · exact o.elim
def RDS (Z : Zn) (g : D → Option Int → Option Int → Store → Op D) : V → Option Int → Option Int → Hp → VK → Prop := fun x lo hi H Q => ∃ φ S d, HRep Z φ S H ∧ RepV Z.K φ H d x ∧ OutP Z (RepV Z.K) φ H (g d lo hi S) Q
theorem SlR.imp {r r' : V → Option Int → Option Int → Hp → VK → Prop} (h : SlR X r) (i : ∀ x lo hi H Q, r' x lo hi H Q → r x lo hi H Q) : SlR X r' := fun pins s σ H x v vl vu lo hi sl Q I rx hs pl pu q => h pins s σ H x v vl vu lo hi sl Q I rx hs pl pu (i _ _ _ _ _ q)
theorem RepL.cut {K : Frag} {φ : Fi} {H : Hp} {xs : List D} {vs : List V} (r : RepL K φ H xs vs) (lo hi : Option Int) : RepL K φ H (cutL xs lo hi) (cutV vs lo hi) := by
  unfold cutL cutV
  rw [r.len]
  exact (r.drop _).take _
theorem od_sl (hZ : X.K = Z.K) : SlR X (RDS Z dSl) := by
  refine SlR.imp (SlR.or (hZ ▸ sl_list) (SlR.or (hZ ▸ sl_tupA) sl_str)) fun x lo hi H Q ⟨φ, S, d, h, rd, o⟩ => ?_
  unfold dSl at o
  split at o
  · split at o
    · rename_i e1
      obtain ⟨a, vs, rfl, _, s1, r1⟩ := h.sq e1 rd
      exact .inl ⟨a, vs, rfl, s1, new_list h (r1.cut lo hi) o⟩
    · exact o.elim
  · rename_i xs
    obtain ⟨a, vs, rfl, t, r⟩ := rd.tup_inv
    refine .inr (.inl ⟨a, vs, rfl, t, fun w => ?_, fun _ => new_tup h (r.cut lo hi) o⟩)
    have hl := r.len
    have e : cutL xs lo hi = xs := by
      unfold cutL
      rw [← hl, w.1, w.2]
      simp [hl]
    rw [e] at o
    exact o.here h rd
  · split at o
    · exact .inr (.inr ⟨_, rd.str_inv, by assumption, o.here h rStr⟩)
    · exact o.elim
  · exact o.elim
theorem RepL.empty {K : Frag} {φ : Fi} {H : Hp} {xs : List D} {vs : List V} (r : RepL K φ H xs vs) : vs.isEmpty = xs.isEmpty := by
  have hl := r.len
  cases xs <;> cases vs <;> simp_all
theorem RepKV.empty {κ : Type} {K : Frag} {φ : Fi} {H : Hp} {xs : List (κ × D)} {vs : List (κ × V)} (r : RepKV K φ H xs vs) : vs.isEmpty = xs.isEmpty := by
  cases xs with
  | nil => cases (show vs = [] from r); rfl
  | cons p ps => obtain ⟨v, q, rfl, _⟩ := r; rfl
theorem dTru_ok {φ : Fi} {S : Store} {H : Hp} {d : D} {x : V} {b : Bool} (h : HRep Z φ S H) (rd : RepV Z.K φ H d x) (q : dTru d S = some b) : TruV Z.K x H b := by
  unfold dTru at q
  split at q
  · cases q; rw [rd.non_inv]; rfl
  · cases q; rw [rd.bl_inv]; rfl
  · cases q; rw [rd.int_inv]; rfl
  · split at q
    · cases q; rw [rd.str_inv]; exact ⟨by assumption, rfl⟩
    · cases q
  · cases q
    obtain ⟨a, vs, rfl, t, r⟩ := rd.tup_inv
    exact .inr (.inl ⟨vs, t, by rw [r.empty]⟩)
  · split at q
    · rename_i e1
      cases q
      obtain ⟨a, vs, rfl, _, s1, r1⟩ := h.sq (show lstOf S _ = some _ by unfold lstOf; rw [e1]) rd
      exact .inl ⟨vs, s1, by rw [r1.empty]⟩
    · rename_i e1
      cases q
      obtain ⟨a, vs, rfl, _, s1, r1⟩ := h.sq (show lstOf S _ = some _ by unfold lstOf; rw [e1]) rd
      exact .inl ⟨vs, s1, by rw [r1.empty]⟩
    · rename_i e1
      cases q
      obtain ⟨a, ea, rfl⟩ := rd.ref_inv
      obtain ⟨kvs, q, r⟩ := h.obj _ _ a e1 ea
      exact .inr (.inr ⟨kvs, q, by rw [r.empty]⟩)
    · cases q
end
end KD

/-! KdE: built-in calls and methods on plain data. -/
namespace KD
open PySem L2

def ints? : List D → Option (List Int)
  | [] => some []
  | .int i :: r => (ints? r).map (i :: ·)
  | _ => none
def strs? : List D → Option (List Str)
  | [] => some []
  | .str i :: r => (strs? r).map (i :: ·)
  | _ => none
def bls? : List D → Option (List Bool)
  | [] => some []
  | .bl i :: r => (bls? r).map (i :: ·)
  | _ => none
theorem ints?_map : ∀ {xs : List D} {ns : List Int}, ints? xs = some ns → xs = ns.map D.int
  | [], _, e => by cases e; rfl
  | .int i :: r, _, e => by
    simp only [ints?, Option.map_eq_some_iff] at e
    obtain ⟨ms, e1, rfl⟩ := e
    rw [ints?_map e1]; rfl
  | .non :: _, _, e => by cases e
  | .bl _ :: _, _, e => by cases e
  | .str _ :: _, _, e => by cases e
  | .tup _ :: _, _, e => by cases e
  | .ref _ :: _, _, e => by cases e
theorem strs?_map : ∀ {xs : List D} {ns : List Str}, strs? xs = some ns → xs = ns.map D.str
  | [], _, e => by cases e; rfl
  | .str i :: r, _, e => by
    simp only [strs?, Option.map_eq_some_iff] at e
    obtain ⟨ms, e1, rfl⟩ := e
    rw [strs?_map e1]; rfl
  | .non :: _, _, e => by cases e
  | .bl _ :: _, _, e => by cases e
  | .int _ :: _, _, e => by cases e
  | .tup _ :: _, _, e => by cases e
  | .ref _ :: _, _, e => by cases e
theorem bls?_map : ∀ {xs : List D} {ns : List Bool}, bls? xs = some ns → xs = ns.map D.bl
  | [], _, e => by cases e; rfl
  | .bl i :: r, _, e => by
    simp only [bls?, Option.map_eq_some_iff] at e
    obtain ⟨ms, e1, rfl⟩ := e
    rw [bls?_map e1]; rfl
  | .non :: _, _, e => by cases e
  | .str _ :: _, _, e => by cases e
  | .int _ :: _, _, e => by cases e
  | .tup _ :: _, _, e => by cases e
  | .ref _ :: _, _, e => by cases e
@[simp] theorem ints?_of (ns : List Int) : ints? (ns.map D.int) = some ns := by
  induction ns with
  | nil => rfl
  | cons n r ih => simp [ints?, ih]
@[simp] theorem strs?_of (ns : List Str) : strs? (ns.map D.str) = some ns := by
  induction ns with
  | nil => rfl
  | cons n r ih => simp [strs?, ih]
@[simp] theorem bls?_of (ns : List Bool) : bls? (ns.map D.bl) = some ns := by
  induction ns with
  | nil => rfl
  | cons n r ih => simp [bls?, ih]

/-- the built-in functions and classes that are called -/
inductive Bi where
  | len | list | tuple | sum | all | any | max | min | int | str
  deriving DecidableEq
def seqOf (S : Store) : D → Option (List D)
  | .ref n => lstOf S n
  | .tup xs => some xs
  | _ => none
def cLen (ds : List D) (S : Store) : Op D := match ds with
  | [.str z] => if z.length ≤ sizeLine then some (.int z.length, S) else none
  | [d] => (seqOf S d).map fun xs => (.int xs.length, S)
  | _ => none
def cList (ds : List D) (S : Store) : Op D := match ds with
  | [d] => (seqOf S d).map fun xs => (.ref S.length, S ++ [.lst xs])
  | _ => none
def cTuple (ds : List D) (S : Store) : Op D := match ds with
  | [d] => (seqOf S d).map fun xs => (.tup xs, S)
  | _ => none
def cSum (ds : List D) (S : Store) : Op D := match ds with
  | [.ref n] => ((lstOf S n).bind ints?).map fun ns => (.int ns.sum, S)
  | _ => none
def cAll (ds : List D) (S : Store) : Op D := match ds with
  | [.ref n] => ((lstOf S n).bind bls?).map fun ns => (.bl (ns.all id), S)
  | _ => none
def cAny (ds : List D) (S : Store) : Op D := match ds with
  | [.ref n] => ((lstOf S n).bind bls?).map fun ns => (.bl (ns.any id), S)
  | _ => none
def cMax (ds : List D) (S : Store) : Op D := match ds with
  | [.int i, .int j] => some (.int (if j > i then j else i), S)
  | _ => none
def cMin (ds : List D) (S : Store) : Op D := match ds with
  | [.int i, .int j] => some (.int (if j < i then j else i), S)
  | _ => none
def cInt (ds : List D) (S : Store) : Op D := match ds with
  | [.int i] => some (.int i, S)
  | [.bl k] => some (.int (if k then 1 else 0), S)
  | _ => none
def cStr (ds : List D) (S : Store) : Op D := match ds with
  | [.int i] => if i.natAbs.log2 < 1920 then some (.str (toString i), S) else none
  | _ => none
section
variable {X : Cx} {Z : Zn}
theorem HRep.seq {φ : Fi} {S : Store} {H : Hp} {d : D} {xs : List D} {v : V} (h : HRep Z φ S H) (e : seqOf S d = some xs) (r : RepV Z.K φ H d v) : ∃ a vs, v = .ref a ∧ (SqL Z.K H a vs ∨ (SqT Z.K H a vs ∧ d = .tup xs)) ∧ RepL Z.K φ H xs vs := by
  unfold seqOf at e
  split at e
  · obtain ⟨a, vs, rfl, _, s1, r1⟩ := h.sq e r
    exact ⟨a, vs, rfl, .inl s1, r1⟩
  · cases e
    obtain ⟨a, vs, rfl, t, r1⟩ := r.tup_inv
    exact ⟨a, vs, rfl, .inr ⟨t, rfl⟩, r1⟩
  · cases e
theorem cr_len (hZ : X.K = Z.K) : CallR X (.builtin "len") (RDL Z cLen) := by
  refine CallR.imp (hZ ▸ call_len) fun xs H Q ⟨φ, S, ds, h, r, o⟩ => ?_
  unfold cLen at o
  split at o
  · obtain ⟨v, q, rfl, r1, r2⟩ := r.cons_inv
    rw [r2.nil_inv]
    split at o
    · rename_i hl
      exact ⟨v, _, rfl, by rw [r1.str_inv]; exact ⟨hl, rfl⟩, o.here h rInt⟩
    · exact o.elim
  · rename_i d hne
    obtain ⟨v, q, rfl, r1, r2⟩ := r.cons_inv
    rw [r2.nil_inv]
    cases e : seqOf S d with
    | none => rw [e] at o; exact o.elim
    | some ys =>
      rw [e] at o
      obtain ⟨a, vs, rfl, hs, r3⟩ := h.seq e r1
      refine ⟨_, ys.length, rfl, ?_, o.here h rInt⟩
      have hl := r3.len
      rcases hs with hs | ⟨hs, _⟩
      · exact .inl ⟨vs, hs, hl.symm⟩
      · exact .inr ⟨vs, hs, hl.symm⟩
  · exact o.elim
theorem cr_list (hZ : X.K = Z.K) : CallR X (.type "list") (RDL Z cList) := by
  refine CallR.imp (hZ ▸ call_list_of) fun xs H Q ⟨φ, S, ds, h, r, o⟩ => ?_
  unfold cList at o
  split at o
  · rename_i d
    obtain ⟨v, q, rfl, r1, r2⟩ := r.cons_inv
    rw [r2.nil_inv]
    cases e : seqOf S d with
    | none => rw [e] at o; exact o.elim
    | some ys =>
      rw [e] at o
      obtain ⟨a, vs, rfl, hs, r3⟩ := h.seq e r1
      exact ⟨a, vs, rfl, hs.imp id (fun z => z.1), new_list h r3 o⟩
  · exact o.elim
theorem cr_tuple (hZ : X.K = Z.K) : CallR X (.type "tuple") (RDL Z cTuple) := by
  refine CallR.imp (hZ ▸ call_tuple_of) fun xs H Q ⟨φ, S, ds, h, r, o⟩ => ?_
  unfold cTuple at o
  split at o
  · rename_i d
    obtain ⟨v, q, rfl, r1, r2⟩ := r.cons_inv
    rw [r2.nil_inv]
    cases e : seqOf S d with
    | none => rw [e] at o; exact o.elim
    | some ys =>
      rw [e] at o
      obtain ⟨a, vs, rfl, hs, r3⟩ := h.seq e r1
      refine ⟨a, vs, rfl, ?_⟩
      rcases hs with hs | ⟨hs, _⟩
      · exact .inl ⟨hs, new_tup h r3 o⟩
      · exact .inr ⟨hs, o.here h (rTup hs r3)⟩
  · exact o.elim
theorem HRep.intsL {φ : Fi} {S : Store} {H : Hp} {n : Nat} {ns : List Int} {v : V} (h : HRep Z φ S H) (e : (lstOf S n).bind ints? = some ns) (r : RepV Z.K φ H (.ref n) v) : ∃ a, v = .ref a ∧ SqL Z.K H a (ns.map V.int) := by
  obtain ⟨xs, e1, e2⟩ := Option.bind_eq_some_iff.mp e
  obtain ⟨a, vs, rfl, _, s1, r1⟩ := h.sq e1 r
  rw [ints?_map e2] at r1
  rw [r1.ints_inv] at s1
  exact ⟨a, rfl, s1⟩
theorem HRep.blsL {φ : Fi} {S : Store} {H : Hp} {n : Nat} {ns : List Bool} {v : V} (h : HRep Z φ S H) (e : (lstOf S n).bind bls? = some ns) (r : RepV Z.K φ H (.ref n) v) : ∃ a, v = .ref a ∧ SqL Z.K H a (ns.map V.bl) := by
  obtain ⟨xs, e1, e2⟩ := Option.bind_eq_some_iff.mp e
  obtain ⟨a, vs, rfl, _, s1, r1⟩ := h.sq e1 r
  rw [bls?_map e2] at r1
  rw [r1.bls_inv] at s1
  exact ⟨a, rfl, s1⟩
theorem crD_sum (hZ : X.K = Z.K) (hc : X.calm = true) : CallR X (.builtin "sum") (RDL Z cSum) := by
  refine CallR.imp (hZ ▸ cr_sum hc) fun xs H Q ⟨φ, S, ds, h, r, o⟩ => ?_
  unfold cSum at o
  split at o
  · rename_i n
    obtain ⟨v, q, rfl, r1, r2⟩ := r.cons_inv
    rw [r2.nil_inv]
    cases e : (lstOf S n).bind ints? with
    | none => rw [e] at o; exact o.elim
    | some ns =>
      rw [e] at o
      obtain ⟨a, rfl, s1⟩ := h.intsL e r1
      exact ⟨a, ns, rfl, s1, o.here h rInt⟩
  · exact o.elim
theorem crD_all (hZ : X.K = Z.K) (hc : X.calm = true) : CallR X (.builtin "all") (RDL Z cAll) := by
  refine CallR.imp (hZ ▸ cr_all hc) fun xs H Q ⟨φ, S, ds, h, r, o⟩ => ?_
  unfold cAll at o
  split at o
  · rename_i n
    obtain ⟨v, q, rfl, r1, r2⟩ := r.cons_inv
    rw [r2.nil_inv]
    cases e : (lstOf S n).bind bls? with
    | none => rw [e] at o; exact o.elim
    | some ns =>
      rw [e] at o
      obtain ⟨a, rfl, s1⟩ := h.blsL e r1
      exact ⟨a, ns, rfl, s1, o.here h rBl⟩
  · exact o.elim
theorem crD_any (hZ : X.K = Z.K) (hc : X.calm = true) : CallR X (.builtin "any") (RDL Z cAny) := by
  refine CallR.imp (hZ ▸ cr_any hc) fun xs H Q ⟨φ, S, ds, h, r, o⟩ => ?_
  unfold cAny at o
  split at o
  · rename_i n
    obtain ⟨v, q, rfl, r1, r2⟩ := r.cons_inv
    rw [r2.nil_inv]
    cases e : (lstOf S n).bind bls? with
    | none => rw [e] at o; exact o.elim
    | some ns =>
      rw [e] at o
      obtain ⟨a, rfl, s1⟩ := h.blsL e r1
      exact ⟨a, ns, rfl, s1, o.here h rBl⟩
  · exact o.elim
theorem crD_max (hc : X.calm = true) : CallR X (.builtin "max") (RDL Z cMax) := by
  refine CallR.imp (call_max2 hc) fun xs H Q ⟨φ, S, ds, h, r, o⟩ => ?_
  unfold cMax at o
  split at o
  · obtain ⟨v, q, rfl, r1, r2⟩ := r.cons_inv
    obtain ⟨v2, q2, rfl, r3, r4⟩ := r2.cons_inv
    rw [r4.nil_inv, r1.int_inv, r3.int_inv]
    exact ⟨_, _, rfl, o.here h rInt⟩
  · exact o.elim
theorem crD_min (hc : X.calm = true) : CallR X (.builtin "min") (RDL Z cMin) := by
  refine CallR.imp (call_min2 hc) fun xs H Q ⟨φ, S, ds, h, r, o⟩ => ?_
  unfold cMin at o
  split at o
  · obtain ⟨v, q, rfl, r1, r2⟩ := r.cons_inv
    obtain ⟨v2, q2, rfl, r3, r4⟩ := r2.cons_inv
    rw [r4.nil_inv, r1.int_inv, r3.int_inv]
    exact ⟨_, _, rfl, o.here h rInt⟩
  · exact o.elim
theorem crD_int : CallR X (.type "int") (RDL Z cInt) := by
  refine CallR.imp call_int1 fun xs H Q ⟨φ, S, ds, h, r, o⟩ => ?_
  unfold cInt at o
  split at o
  · obtain ⟨v, q, rfl, r1, r2⟩ := r.cons_inv
    rw [r2.nil_inv, r1.int_inv]
    exact .inl ⟨_, rfl, o.here h rInt⟩
  · obtain ⟨v, q, rfl, r1, r2⟩ := r.cons_inv
    rw [r2.nil_inv, r1.bl_inv]
    exact .inr ⟨_, rfl, o.here h rInt⟩
  · exact o.elim
theorem crD_str : CallR X (.type "str") (RDL Z cStr) := by
  refine CallR.imp call_str_int fun xs H Q ⟨φ, S, ds, h, r, o⟩ => ?_
  unfold cStr at o
  split at o
  · obtain ⟨v, q, rfl, r1, r2⟩ := r.cons_inv
    rw [r2.nil_inv, r1.int_inv]
    split at o
    · exact ⟨_, rfl, by assumption, o.here h rStr⟩
    · exact o.elim
  · exact o.elim
end

/-! ### methods -/
inductive Me where
  | append | extend | pop | reverse | index | split | upper | join | sindex
  deriving DecidableEq
def mAppend (d : D) (es : List D) (S : Store) : Op D := match d, es with
  | .ref n, [e] => match S[n]? with
    | some (.lst xs) => if xs.length < sizeLine then some (.non, S.set n (.lst (xs ++ [e]))) else none
    | _ => none
  | _, _ => none
def mExtend (d : D) (es : List D) (S : Store) : Op D := match d, es with
  | .ref n, [.ref m] => match S[n]?, S[m]? with
    | some (.lst xs), some (.lst ys) => if xs.length + ys.length ≤ sizeLine then some (.non, S.set n (.lst (xs ++ ys))) else none
    | _, _ => none
  | _, _ => none
def mPop (d : D) (es : List D) (S : Store) : Op D := match d, es with
  | .ref n, [] => match S[n]? with
    | some (.lst xs) => (xs[xs.length - 1]?).map fun y => (y, S.set n (.lst xs.dropLast))
    | _ => none
  | .ref n, [.int i] => match S[n]? with
    | some (.lst xs) => if -(2 ^ 63) ≤ i ∧ i < 2 ^ 63 then (seqIndex? i xs.length).bind fun k => (xs[k]?).map fun y => (y, S.set n (.lst (xs.eraseIdx k))) else none
    | _ => none
  | _, _ => none
def mReverse (d : D) (es : List D) (S : Store) : Op D := match d, es with
  | .ref n, [] => match S[n]? with
    | some (.lst xs) => some (.non, S.set n (.lst xs.reverse))
    | _ => none
  | _, _ => none
def sSplit (d : D) (es : List D) (S : Store) : Op D := match d, es with
  | .str a, [.str b] => if (b.length == 0) = false ∧ a.length + 2 ≤ sizeLine then some (.ref S.length, S ++ [.lst ((Txt.split a b).map D.str)]) else none
  | _, _ => none
def sUpper (d : D) (es : List D) (S : Store) : Op D := match d, es with
  | .str a, [] => if a.length ≤ 5592405 then some (.str (Txt.upper a), S) else none
  | _, _ => none
def sJoin (d : D) (es : List D) (S : Store) : Op D := match d, es with
  | .str a, [e] => ((seqOf S e).bind strs?).bind fun ys => if (ys.map (·.length)).sum + ys.length * a.length ≤ 16777216 then some (.str (Txt.join a ys), S) else none
  | _, _ => none
def sIndex (d : D) (es : List D) (S : Store) : Op D := match d, es with
  | .str a, [.str b] => match Builtin.Str.occurrences a b 0 a.length 1 with
    | i :: _ => some (.int (i : Nat), S)
    | [] => none
  | _, _ => none
section
variable {X : Cx} {Z : Zn}
theorem MtR.imp {id : String} {r r' : V → List V → Hp → VK → Prop} (h : MtR X id r) (i : ∀ x xs H Q, r' x xs H Q → r x xs H Q) : MtR X id r' := fun pins s σ H x xs v us Q I rx rs q => h pins s σ H x xs v us Q I rx rs (i _ _ _ _ q)
theorem RepL.dropLast {K : Frag} {φ : Fi} {H : Hp} {xs : List D} {vs : List V} (r : RepL K φ H xs vs) : RepL K φ H xs.dropLast vs.dropLast := by
  rw [List.dropLast_eq_take, List.dropLast_eq_take, r.len]
  exact r.take _
theorem mr_append : MtR X "list.append" (RDM Z mAppend) := by
  refine MtR.imp mt_append fun x xs H Q ⟨φ, S, d, ds, h, rd, r, o⟩ => ?_
  unfold mAppend at o
  split at o
  · obtain ⟨v, q, rfl, r1, r2⟩ := r.cons_inv
    rw [r2.nil_inv]
    split at o
    · rename_i e1
      split at o
      · obtain ⟨a, vs, rfl, ea, hv, r3⟩ := h.lst e1 rd
        exact ⟨a, vs, v, rfl, rfl, hv, by rw [r3.len]; assumption, set_lst h e1 ea hv (r3.append (RepL.cons r1 RepL.nil)) rNon o⟩
      · exact o.elim
    · exact o.elim
  · exact o.elim
theorem mr_extend : MtR X "list.extend" (RDM Z mExtend) := by
  refine MtR.imp mt_extend fun x xs H Q ⟨φ, S, d, ds, h, rd, r, o⟩ => ?_
  unfold mExtend at o
  split at o
  · obtain ⟨v, q, rfl, r1, r2⟩ := r.cons_inv
    rw [r2.nil_inv]
    split at o
    · rename_i e1 e2
      split at o
      · obtain ⟨a, vs, rfl, ea, hv, r3⟩ := h.lst e1 rd
        obtain ⟨b, ws, rfl, eb, hw, r4⟩ := h.lst e2 r1
        exact ⟨a, b, vs, ws, rfl, rfl, hv, hw, by rw [r3.len, r4.len]; assumption, set_lst h e1 ea hv (r3.append r4) rNon o⟩
      · exact o.elim
    · exact o.elim
  · exact o.elim
theorem mr_pop : MtR X "list.pop" (RDM Z mPop) := by
  refine MtR.imp (MtR.or mt_pop mt_popAt) fun x xs H Q ⟨φ, S, d, ds, h, rd, r, o⟩ => ?_
  unfold mPop at o
  split at o
  · rw [r.nil_inv]
    split at o
    · rename_i ys e1
      cases q : ys[ys.length - 1]? with
      | none => rw [q] at o; exact o.elim
      | some y =>
        rw [q] at o
        obtain ⟨a, vs, rfl, ea, hv, r3⟩ := h.lst e1 rd
        obtain ⟨u, e4, r4⟩ := r3.get q
        exact .inl ⟨a, vs, u, rfl, rfl, hv, by rw [r3.len]; exact e4, set_lst h e1 ea hv r3.dropLast r4 o⟩
    · exact o.elim
  · obtain ⟨v, q, rfl, r1, r2⟩ := r.cons_inv
    rw [r2.nil_inv]
    split at o
    · rename_i ys e1
      split at o
      · rename_i hb
        cases q : seqIndex? _ ys.length with
        | none => rw [q] at o; exact o.elim
        | some k =>
          rw [q] at o
          cases q2 : ys[k]? with
          | none =>
            have o' : OutP Z (RepV Z.K) φ H ((ys[k]?).map fun y => (y, S.set _ (.lst (ys.eraseIdx k)))) Q := o
            rw [q2] at o'; exact o'.elim
          | some y =>
            have o' : OutP Z (RepV Z.K) φ H ((ys[k]?).map fun y => (y, S.set _ (.lst (ys.eraseIdx k)))) Q := o
            rw [q2] at o'
            obtain ⟨a, vs, rfl, ea, hv, r3⟩ := h.lst e1 rd
            obtain ⟨u, e4, r4⟩ := r3.get q2
            exact .inr ⟨a, vs, _, k, u, rfl, by rw [r1.int_inv], hv, hb.1, hb.2, by rw [r3.len]; exact q, e4, set_lst h e1 ea hv (r3.eraseIdx k) r4 o'⟩
      · exact o.elim
    · exact o.elim
  · exact o.elim
theorem mr_reverse : MtR X "list.reverse" (RDM Z mReverse) := by
  refine MtR.imp mt_reverse fun x xs H Q ⟨φ, S, d, ds, h, rd, r, o⟩ => ?_
  unfold mReverse at o
  split at o
  · rw [r.nil_inv]
    split at o
    · rename_i ys e1
      obtain ⟨a, vs, rfl, ea, hv, r3⟩ := h.lst e1 rd
      exact ⟨a, vs, rfl, rfl, hv, set_lst h e1 ea hv r3.reverse rNon o⟩
    · exact o.elim
  · exact o.elim
theorem mr_split : MtR X "str.split" (RDM Z sSplit) := by
  refine MtR.imp mt_split fun x xs H Q ⟨φ, S, d, ds, h, rd, r, o⟩ => ?_
  unfold sSplit at o
  split at o
  · obtain ⟨v, q, rfl, r1, r2⟩ := r.cons_inv
    rw [r2.nil_inv]
    split at o
    · rename_i hc
      exact ⟨_, _, rd.str_inv, by rw [r1.str_inv], hc.1, hc.2, new_list h (RepL.strs _) o⟩
    · exact o.elim
  · exact o.elim
theorem mr_upper : MtR X "str.upper" (RDM Z sUpper) := by
  refine MtR.imp mt_upper fun x xs H Q ⟨φ, S, d, ds, h, rd, r, o⟩ => ?_
  unfold sUpper at o
  split at o
  · rw [r.nil_inv]
    split at o
    · exact ⟨_, rd.str_inv, rfl, by assumption, o.here h rStr⟩
    · exact o.elim
  · exact o.elim
theorem mr_join (hZ : X.K = Z.K) : MtR X "str.join" (RDM Z sJoin) := by
  refine MtR.imp (hZ ▸ mt_join) fun x xs H Q ⟨φ, S, d, ds, h, rd, r, o⟩ => ?_
  unfold sJoin at o
  split at o
  · rename_i a e
    obtain ⟨v, q, rfl, r1, r2⟩ := r.cons_inv
    rw [r2.nil_inv]
    cases q1 : (seqOf S e).bind strs? with
    | none => rw [q1] at o; exact o.elim
    | some ys =>
      rw [q1] at o
      obtain ⟨zs, e1, e2⟩ := Option.bind_eq_some_iff.mp q1
      have o' : OutP Z (RepV Z.K) φ H (if (ys.map (·.length)).sum + ys.length * a.length ≤ 16777216 then some (.str (Txt.join a ys), S) else none) Q := o
      split at o'
      · rename_i hl
        obtain ⟨c, vs, rfl, hs, r3⟩ := h.seq e1 r1
        rw [strs?_map e2] at r3
        rw [r3.strs_inv] at hs
        exact ⟨_, c, ys, rd.str_inv, rfl, hs.imp id (fun z => z.1), hl, o'.here h rStr⟩
      · exact o'.elim
  · exact o.elim
theorem mr_sindex : MtR X "str.index" (RDM Z sIndex) := by
  refine MtR.imp mt_sindex fun x xs H Q ⟨φ, S, d, ds, h, rd, r, o⟩ => ?_
  unfold sIndex at o
  split at o
  · obtain ⟨v, q, rfl, r1, r2⟩ := r.cons_inv
    rw [r2.nil_inv]
    split at o
    · rename_i i rest e
      exact ⟨_, _, i, rest, rd.str_inv, by rw [r1.str_inv], e, o.here h rInt⟩
    · exact o.elim
  · exact o.elim
end
end KD

/-! KdX: dicts on plain data. -/
namespace KD
open PySem L2

def keyD : D → Option Key
  | .int i => some (.inl i)
  | .str x => some (.inr x)
  | _ => none
def keysD : List D → Option (List Key)
  | [] => some []
  | d :: r => (keyD d).bind fun k => (keysD r).map (k :: ·)
def keyT : D → Option (List Key)
  | .tup xs => keysD xs
  | _ => none
def dKey : Key → D
  | .inl i => .int i
  | .inr x => .str x
def valD {κ : Type} [DecidableEq κ] (kvs : List (κ × D)) (k : κ) : Option D := (kvs.find? fun kv => decide (kv.1 = k)).map (·.2)
def putD {κ : Type} [DecidableEq κ] (kvs : List (κ × D)) (k : κ) (v : D) : List (κ × D) :=
  if (kvs.any fun kv => decide (kv.1 = k)) = true then kvs.map fun kv => if kv.1 = k then (kv.1, v) else kv else kvs ++ [(k, v)]
section
variable {K : Frag} {φ : Fi} {H : Hp}
theorem keyD_rep {d : D} {k : Key} {v : V} (e : keyD d = some k) (r : RepV K φ H d v) : v = kV k := by
  cases d with
  | int i => cases e; exact r.int_inv
  | str x => cases e; exact r.str_inv
  | _ => cases e
theorem keysD_rep : ∀ {ds : List D} {ks : List Key} {vs : List V}, keysD ds = some ks → RepL K φ H ds vs → vs = ks.map kV
  | [], _, _, e, r => by cases e; exact r.nil_inv
  | d :: ds, _, _, e, r => by
    obtain ⟨v, q, rfl, r1, r2⟩ := r.cons_inv
    simp only [keysD, Option.bind_eq_some_iff, Option.map_eq_some_iff] at e
    obtain ⟨k, e1, ks, e2, rfl⟩ := e
    rw [keyD_rep e1 r1, keysD_rep e2 r2]; rfl
theorem RepKV.val {κ : Type} [DecidableEq κ] (k : κ) : ∀ {ps : List (κ × D)} {kvs : List (κ × V)}, RepKV K φ H ps kvs →
    (valD ps k = none ∧ valV kvs k = none) ∨ ∃ d v, valD ps k = some d ∧ valV kvs k = some v ∧ RepV K φ H d v
  | [], _, r => by cases (show _ = [] from r); exact .inl ⟨rfl, rfl⟩
  | p :: ps, _, ⟨v, r, e, h1, h2⟩ => by
    subst e
    by_cases hk : p.1 = k
    · exact .inr ⟨p.2, v, by simp [valD, hk], by simp [valV, hk], h1⟩
    · have := RepKV.val k h2
      simpa [valD, valV, hk] using this
theorem RepKV.any {κ : Type} [DecidableEq κ] (k : κ) : ∀ {ps : List (κ × D)} {kvs : List (κ × V)}, RepKV K φ H ps kvs → (kvs.any fun kv => decide (kv.1 = k)) = ps.any fun kv => decide (kv.1 = k)
  | [], _, r => by cases (show _ = [] from r); rfl
  | p :: ps, _, ⟨v, r, e, h1, h2⟩ => by
    subst e
    rw [List.any_cons, List.any_cons, RepKV.any k h2]
theorem RepKV.app {κ : Type} : ∀ {ps qs : List (κ × D)} {kvs mvs : List (κ × V)}, RepKV K φ H ps kvs → RepKV K φ H qs mvs → RepKV K φ H (ps ++ qs) (kvs ++ mvs)
  | [], _, _, _, r, q => by cases (show _ = [] from r); exact q
  | p :: ps, _, _, _, ⟨v, r, e, h1, h2⟩, q => by
    subst e
    exact ⟨v, _, rfl, h1, RepKV.app h2 q⟩
theorem RepKV.rep {κ : Type} [DecidableEq κ] (k : κ) {d : D} {v : V} (rd : RepV K φ H d v) : ∀ {ps : List (κ × D)} {kvs : List (κ × V)}, RepKV K φ H ps kvs →
    RepKV K φ H (ps.map fun kv => if kv.1 = k then (kv.1, d) else kv) (kvs.map fun kv => if kv.1 = k then (kv.1, v) else kv)
  | [], _, r => by cases (show _ = [] from r); exact (show _ = [] from rfl)
  | p :: ps, _, ⟨u, r, e, h1, h2⟩ => by
    subst e
    by_cases hk : p.1 = k
    · exact ⟨v, _, by simp [hk], by simp [hk]; exact rd, RepKV.rep k rd h2⟩
    · exact ⟨u, _, by simp [hk], by simp [hk]; exact h1, RepKV.rep k rd h2⟩
theorem RepKV.put {κ : Type} [DecidableEq κ] (k : κ) {d : D} {v : V} (rd : RepV K φ H d v) {ps : List (κ × D)} {kvs : List (κ × V)} (r : RepKV K φ H ps kvs) : RepKV K φ H (putD ps k d) (putK kvs k v) := by
  unfold putD putK
  rw [r.any k]
  split
  · exact r.rep k rd
  · exact r.app ⟨v, [], rfl, rd, rfl⟩
theorem RepKV.len {κ : Type} : ∀ {ps : List (κ × D)} {kvs : List (κ × V)}, RepKV K φ H ps kvs → kvs.length = ps.length
  | [], _, r => by cases (show _ = [] from r); rfl
  | p :: ps, _, ⟨u, r, e, h1, h2⟩ => by
    subst e
    simp [RepKV.len h2]
end
section
variable {Z : Zn} {φ : Fi} {S : Store} {H : Hp} {n : Nat} {v : V}
theorem HRep.dic (h : HRep Z φ S H) {ps : List (Key × D)} (e : S[n]? = some (.dic ps)) (r : RepV Z.K φ H (.ref n) v) : ∃ a kvs, v = .ref a ∧ φ.ad n = some a ∧ H a = some (.dK kvs) ∧ RepKV Z.K φ H ps kvs := by
  obtain ⟨a, ea, rfl⟩ := r.ref_inv
  obtain ⟨kvs, q, r⟩ := h.obj n _ a e ea
  exact ⟨a, kvs, rfl, ea, q, r⟩
theorem HRep.dicT (h : HRep Z φ S H) {ps : List (List Key × D)} (e : S[n]? = some (.dicT ps)) (r : RepV Z.K φ H (.ref n) v) : ∃ a kvs, v = .ref a ∧ φ.ad n = some a ∧ H a = some (.dT kvs) ∧ RepKV Z.K φ H ps kvs := by
  obtain ⟨a, ea, rfl⟩ := r.ref_inv
  obtain ⟨kvs, q, r⟩ := h.obj n _ a e ea
  exact ⟨a, kvs, rfl, ea, q, r⟩
end

/-! ### what a dict holds, the key a tuple that is read -/
section
variable {X : Cx} {pins : List (Addr × Obj)} {σ : St} {H : Hp} {s : Shared} {a b : Addr} {ks : List Key} {A : Around} {E : Value → Shared → Prop}
theorem key_sq (I : Inv X pins σ H s) (q : SqT X.K H b (ks.map kV)) : (tupleKind (mixKind X.prog X.w)).is s.heap ks b := by
  obtain ⟨us, rv, ⟨ob, g1, g2, m, g3⟩, _⟩ := I.tuple q
  exact ⟨ob, us.toArray, m, g1, g2, g3, by simpa using items_are rv⟩
/-- the dict at a holds o at the key y -/
def DHas (K : Frag) (H : Hp) (a : Addr) (y : V) (o : Option V) : Prop :=
  (∃ kvs k, H a = some (.dK kvs) ∧ y = kV k ∧ o = valV kvs k) ∨ ∃ kvs k b, H a = some (.dT kvs) ∧ y = .ref b ∧ SqT K H b (k.map kV) ∧ o = valV kvs k
theorem hasItem {y v : V} {u : Value} {Q : Value → Shared → Prop} (hu : A.units + 1 < cLine) (I : Inv X pins σ H s) (g : DHas X.K H a y (some v)) (ry : RelV y u) (fin : ∀ w' s', Inv X pins σ H s' → RelV v w' → Q w' s') :
    s.TypeIs (.ref a) "dict" ∧ wpAny (model X.prog X.w) A (getItem (.ref a) u) Q E s := by
  rcases g with ⟨kvs, k, e, ey, l⟩ | ⟨kvs, k, b, e, ey, eb, l⟩
  · have g' : DGet H a y (some v) := .inl ⟨kvs, k, .inl e, ey, l⟩
    exact ⟨dict_typeIs I g', d_getItem hu I g' ry fin⟩
  · subst ey
    obtain rfl : u = Value.ref b := ry
    obtain ⟨_, nm, ys, kt, dh⟩ := dt_of I.hok e
    have at1 := kt.val k
    rw [← l] at at1
    obtain ⟨w', hw, rw'⟩ := RelO.some_of (v := v) (o := (atKey ys k).map (·.2)) at1
    obtain ⟨pr, hp, hp2⟩ := Option.map_eq_some_iff.mp hw
    refine ⟨dh.typeIs, wpAny_getItem_heap (tupleKind_room_in1 hu) (key_sq I eb) dh hp ?_⟩
    rw [hp2]
    exact fin w' _ (I.tok _) rw'
theorem hasIn {y : V} {o : Option V} {u : Value} {Q : Value → Shared → Prop} (hu : A.units + 1 < cLine) (I : Inv X pins σ H s) (g : DHas X.K H a y o) (ry : RelV y u) (fin : ∀ s', Inv X pins σ H s' → Q (.bool o.isSome) s') :
    wpAny (model X.prog X.w) A (compareOp .In u (.ref a)) Q E s := by
  rcases g with ⟨kvs, k, e, ey, l⟩ | ⟨kvs, k, b, e, ey, eb, l⟩
  · exact d_in hu I (.inl ⟨kvs, k, .inl e, ey, l⟩) ry fin
  · subst ey
    obtain rfl : u = Value.ref b := ry
    obtain ⟨_, nm, ys, kt, dh⟩ := dt_of I.hok e
    refine wpAny_in_heap (tupleKind_room_in1 hu) (key_sq I eb) nm dh ?_
    have q := (kt.val k).isSome_eq
    rw [Option.isSome_map, ← l] at q
    rw [← q]
    exact fin _ (I.tok _)
theorem hasNotIn {y : V} {o : Option V} {u : Value} {Q : Value → Shared → Prop} (hu : A.units + 1 < cLine) (I : Inv X pins σ H s) (g : DHas X.K H a y o) (ry : RelV y u) (fin : ∀ s', Inv X pins σ H s' → Q (.bool (!o.isSome)) s') :
    wpAny (model X.prog X.w) A (compareOp .NotIn u (.ref a)) Q E s := by
  rcases g with ⟨kvs, k, e, ey, l⟩ | ⟨kvs, k, b, e, ey, eb, l⟩
  · exact d_notIn hu I (.inl ⟨kvs, k, .inl e, ey, l⟩) ry fin
  · subst ey
    obtain rfl : u = Value.ref b := ry
    obtain ⟨_, nm, ys, kt, dh⟩ := dt_of I.hok e
    refine PyProof.Rows.wpAny_notIn_heap (tupleKind_room_in1 hu) (key_sq I eb) nm dh ?_
    have q := (kt.val k).isSome_eq
    rw [Option.isSome_map, ← l] at q
    rw [← q]
    exact fin _ (I.tok _)
theorem hasGet1 {y : V} {o : Option V} {u : Value} {Q : Value → Shared → Prop} (hu : A.units + 1 < cLine) (I : Inv X pins σ H s) (g : DHas X.K H a y o) (ry : RelV y u) (fin : ∀ w' s', Inv X pins σ H s' → RelV (o.getD .non) w' → Q w' s') :
    wpAny (model X.prog X.w) A (call (.builtin "dict.get") [.ref a, u]) Q E s := by
  rcases g with ⟨kvs, k, e, ey, l⟩ | ⟨kvs, k, b, e, ey, eb, l⟩
  · exact d_get1 hu I (.inl ⟨kvs, k, .inl e, ey, l⟩) ry fin
  · subst ey
    obtain rfl : u = Value.ref b := ry
    obtain ⟨_, nm, ys, kt, dh⟩ := dt_of I.hok e
    refine call_meetsIn PySem.F.slot_dict_get dh.typeIs PySem.F.entry_dict_get (PySem.F.args_dict_get_2 _ _) (meetsH_dict_get (tupleKind (mixKind X.prog X.w)) a b nm) ⟨tupleKind_room_in1 hu, k, ys, key_sq I eb, dh, fin _ _ (I.tok _) ?_⟩
    rw [l]
    exact (kt.val k).getD rfl
theorem hasGet2 {y z : V} {o : Option V} {u r : Value} {Q : Value → Shared → Prop} (hu : A.units + 1 < cLine) (I : Inv X pins σ H s) (g : DHas X.K H a y o) (ry : RelV y u) (rz : RelV z r) (fin : ∀ w' s', Inv X pins σ H s' → RelV (o.getD z) w' → Q w' s') :
    wpAny (model X.prog X.w) A (call (.builtin "dict.get") [.ref a, u, r]) Q E s := by
  rcases g with ⟨kvs, k, e, ey, l⟩ | ⟨kvs, k, b, e, ey, eb, l⟩
  · exact d_get2 hu I (.inl ⟨kvs, k, .inl e, ey, l⟩) ry rz fin
  · subst ey
    obtain rfl : u = Value.ref b := ry
    obtain ⟨_, nm, ys, kt, dh⟩ := dt_of I.hok e
    refine call_meetsIn PySem.F.slot_dict_get dh.typeIs PySem.F.entry_dict_get (PySem.F.args_dict_get_3 _ _ _) (meetsH_dict_get_default (tupleKind (mixKind X.prog X.w)) a b nm r) ⟨tupleKind_room_in1 hu, k, ys, key_sq I eb, dh, fin _ _ (I.tok _) ?_⟩
    rw [l]
    exact (kt.val k).getD rz
end

/-- a dict of the store at a key of data: none: it is no dict or no key -/
def lookD (S : Store) (n : Nat) (d : D) : Option (Option D) := match S[n]? with
  | some (.dic ps) => (keyD d).map fun k => valD ps k
  | some (.dicT ps) => (keyT d).map fun k => valD ps k
  | _ => none
theorem HRep.look {Z : Zn} {φ : Fi} {S : Store} {H : Hp} {n : Nat} {x y : V} {d : D} {o : Option D} (h : HRep Z φ S H) (e : lookD S n d = some o) (rx : RepV Z.K φ H (.ref n) x) (ry : RepV Z.K φ H d y) :
    ∃ a o', x = .ref a ∧ DHas Z.K H a y o' ∧ ((o = none ∧ o' = none) ∨ ∃ z v, o = some z ∧ o' = some v ∧ RepV Z.K φ H z v) := by
  unfold lookD at e
  split at e
  · rename_i ps e1
    obtain ⟨k, e2, rfl⟩ := Option.map_eq_some_iff.mp e
    obtain ⟨a, kvs, rfl, _, q, r⟩ := h.dic e1 rx
    refine ⟨a, valV kvs k, rfl, .inl ⟨kvs, k, q, keyD_rep e2 ry, rfl⟩, r.val k⟩
  · rename_i ps e1
    obtain ⟨k, e2, rfl⟩ := Option.map_eq_some_iff.mp e
    obtain ⟨a, kvs, rfl, _, q, r⟩ := h.dicT e1 rx
    unfold keyT at e2
    split at e2
    · obtain ⟨b, vs, rfl, t, rl⟩ := ry.tup_inv
      rw [keysD_rep e2 rl] at t
      exact ⟨a, valV kvs k, rfl, .inr ⟨kvs, k, b, q, rfl, t, rfl⟩, r.val k⟩
    · cases e2
  · cases e

def xIn (d e : D) (S : Store) : Op D := match e with
  | .ref m => match lookD S m d with
    | some o => some (.bl o.isSome, S)
    | none => dIn d e S
  | _ => dIn d e S
def xNotIn (d e : D) (S : Store) : Op D := match e with
  | .ref m => match lookD S m d with
    | some o => some (.bl (!o.isSome), S)
    | none => dNotIn d e S
  | _ => dNotIn d e S
def xIx (d e : D) (S : Store) : Op D := match d with
  | .ref n => match lookD S n e with
    | some o => o.map fun z => (z, S)
    | none => dIx d e S
  | _ => dIx d e S
/-- d.get(k), d.get(k, x) -/
def mGet (d : D) (es : List D) (S : Store) : Op D := match d, es with
  | .ref n, [k] => (lookD S n k).map fun o => (o.getD .non, S)
  | .ref n, [k, x] => (lookD S n k).map fun o => (o.getD x, S)
  | _, _ => none
section
variable {X : Cx} {Z : Zn}
theorem ox_in (hZ : X.K = Z.K) (hu : X.A.units + 65 < cLine) : OpR X (compareOp .In) (RD2 Z xIn) := by
  intro pins s σ H x y v u Q I rx ry ⟨φ, S, d, e, h, rd, re, o⟩
  unfold xIn at o
  split at o
  · split at o
    · rename_i e1
      obtain ⟨a, o', rfl, hs, rel⟩ := h.look e1 re rd
      cases ry
      refine hasIn (by omega) I (hZ ▸ hs) rx fun s' I' => ⟨.bl _, H, I', rfl, ?_⟩
      rcases rel with ⟨rfl, rfl⟩ | ⟨z, w, rfl, rfl, _⟩
      · exact o.here h rBl
      · exact o.here h rBl
    · exact od_in hZ hu pins s σ H x y v u Q I rx ry ⟨φ, S, d, _, h, rd, re, o⟩
  · exact od_in hZ hu pins s σ H x y v u Q I rx ry ⟨φ, S, d, _, h, rd, re, o⟩
theorem ox_notIn (hZ : X.K = Z.K) (hu : X.A.units + 65 < cLine) : OpR X (compareOp .NotIn) (RD2 Z xNotIn) := by
  intro pins s σ H x y v u Q I rx ry ⟨φ, S, d, e, h, rd, re, o⟩
  unfold xNotIn at o
  split at o
  · split at o
    · rename_i e1
      obtain ⟨a, o', rfl, hs, rel⟩ := h.look e1 re rd
      cases ry
      refine hasNotIn (by omega) I (hZ ▸ hs) rx fun s' I' => ⟨.bl _, H, I', rfl, ?_⟩
      rcases rel with ⟨rfl, rfl⟩ | ⟨z, w, rfl, rfl, _⟩
      · exact o.here h rBl
      · exact o.here h rBl
    · exact od_notIn hZ hu pins s σ H x y v u Q I rx ry ⟨φ, S, d, _, h, rd, re, o⟩
  · exact od_notIn hZ hu pins s σ H x y v u Q I rx ry ⟨φ, S, d, _, h, rd, re, o⟩
theorem ox_ix (hZ : X.K = Z.K) (hu : X.A.units + 65 < cLine) : IxR X (RD2 Z xIx) := by
  intro va sl pins s σ H x y v u Q I rx ry ⟨φ, S, d, e, h, rd, re, o⟩ hs
  unfold xIx at o
  split at o
  · split at o
    · rename_i o1 e1
      obtain ⟨a, o', rfl, hd, rel⟩ := h.look e1 rd re
      cases rx
      rcases rel with ⟨rfl, rfl⟩ | ⟨z, w, rfl, rfl, rz⟩
      · exact o.elim
      · obtain ⟨ty, wp⟩ := hasItem (E := X.xe) (A := X.A) (Q := EP X pins σ Q) (by omega) I (hZ ▸ hd) ry fun w' s' I' rw' => ⟨w, H, I', rw', o.here h rz⟩
        exact PyProof.Rows.tail_any (ops := [.ref a, u]) ty PySem.F.slot_dict_getitem.lookup wp hs
    · exact od_ix hZ va sl pins s σ H x y v u Q I rx ry ⟨φ, S, _, e, h, rd, re, o⟩ hs
  · exact od_ix hZ va sl pins s σ H x y v u Q I rx ry ⟨φ, S, d, e, h, rd, re, o⟩ hs
theorem mr_get (hZ : X.K = Z.K) (hu : X.A.units + 65 < cLine) : MtR X "dict.get" (RDM Z mGet) := by
  intro pins s σ H x xs v us Q I rx rs ⟨φ, S, d, ds, h, rd, r, o⟩
  unfold mGet at o
  split at o
  · rename_i n k
    obtain ⟨y, q, rfl, r1, r2⟩ := r.cons_inv
    cases r2.nil_inv
    cases e1 : lookD S n k with
    | none => rw [e1] at o; exact o.elim
    | some o1 =>
      rw [e1] at o
      obtain ⟨a, o', rfl, hd, rel⟩ := h.look e1 rd r1
      cases rx
      obtain ⟨u, rfl, ru⟩ := Vals.one rs
      refine hasGet1 (by omega) I (hZ ▸ hd) ru fun w' s' I' rw' => ⟨o'.getD .non, H, I', rw', ?_⟩
      rcases rel with ⟨rfl, rfl⟩ | ⟨z, w, rfl, rfl, rz⟩
      · exact o.here h rNon
      · exact o.here h rz
  · rename_i n k z0
    obtain ⟨y, q, rfl, r1, r2⟩ := r.cons_inv
    obtain ⟨y2, q2, rfl, r3, r4⟩ := r2.cons_inv
    cases r4.nil_inv
    cases e1 : lookD S n k with
    | none => rw [e1] at o; exact o.elim
    | some o1 =>
      rw [e1] at o
      obtain ⟨a, o', rfl, hd, rel⟩ := h.look e1 rd r1
      cases rx
      obtain ⟨u, u2, rfl, ru, ru2⟩ := Vals.two rs
      refine hasGet2 (by omega) I (hZ ▸ hd) ru ru2 fun w' s' I' rw' => ⟨o'.getD y2, H, I', rw', ?_⟩
      rcases rel with ⟨rfl, rfl⟩ | ⟨z, w, rfl, rfl, rz⟩
      · exact o.here h r3
      · exact o.here h rz
  · exact o.elim
end
end KD

/-! KdF: an own small syntax of expressions, its plain runs, and the look that an expression of the text is it. -/
namespace KD
open PySem L2

inductive Bo where
  | add | sub | mul | div | mod | pow | shl
inductive Co where
  | eq | ne | lt | le | gt | ge | is | isNot | inn | notIn
def Bo.py : Bo → Operator
  | .add => .Add | .sub => .Sub | .mul => .Mult | .div => .FloorDiv | .mod => .Mod | .pow => .Pow | .shl => .LShift
def Bo.f : Bo → D → D → Store → Op D
  | .add => dAdd | .sub => dSub | .mul => dMul | .div => dDiv | .mod => dMod | .pow => dPow | .shl => dShl
def Co.py : Co → CmpOp
  | .eq => .Eq | .ne => .NotEq | .lt => .Lt | .le => .LtE | .gt => .Gt | .ge => .GtE | .is => .Is | .isNot => .IsNot | .inn => .In | .notIn => .NotIn
def Co.f : Co → D → D → Store → Op D
  | .eq => dEq | .ne => dNe | .lt => dLt | .le => dLe | .gt => dGt | .ge => dGe | .is => dIs | .isNot => dIsNot | .inn => xIn | .notIn => xNotIn
theorem Bo.rule {X : Cx} {Z : Zn} (hZ : X.K = Z.K) : ∀ o : Bo, OpR X (binaryOp o.py) (RD2 Z o.f)
  | .add => od_add hZ | .sub => od_sub | .mul => od_mul | .div => od_div | .mod => od_mod | .pow => od_pow | .shl => od_shl
theorem Co.rule {X : Cx} {Z : Zn} (hZ : X.K = Z.K) (hu : X.A.units + 65 < cLine) : ∀ o : Co, OpR X (compareOp o.py) (RD2 Z o.f)
  | .eq => od_eq hZ (by omega) | .ne => od_ne hZ (by omega) | .lt => od_lt | .le => od_le | .gt => od_gt | .ge => od_ge | .is => od_is | .isNot => od_isNot | .inn => ox_in hZ hu | .notIn => ox_notIn hZ hu
/-! ### built-ins by name -/
def Bi.name : Bi → Str
  | .len => "len" | .list => "list" | .tuple => "tuple" | .sum => "sum" | .all => "all" | .any => "any" | .max => "max" | .min => "min" | .int => "int" | .str => "str"
def Bi.ty : Bi → Option String
  | .list => some "list" | .tuple => some "tuple" | .int => some "int" | .str => some "str" | _ => none
def Bi.id : Bi → String
  | .len => "len" | .sum => "sum" | .all => "all" | .any => "any" | .max => "max" | .min => "min" | _ => ""
def Bi.f : Bi → List D → Store → Op D
  | .len => cLen | .list => cList | .tuple => cTuple | .sum => cSum | .all => cAll | .any => cAny | .max => cMax | .min => cMin | .int => cInt | .str => cStr
def Bi.val (b : Bi) : Value := match b.ty with
  | some t => .type t
  | none => .builtin b.id
theorem Bi.rule {X : Cx} {Z : Zn} (hZ : X.K = Z.K) (hc : X.calm = true) : ∀ b : Bi, CallR X b.val (RDL Z b.f)
  | .len => cr_len hZ | .list => cr_list hZ | .tuple => cr_tuple hZ | .sum => crD_sum hZ hc | .all => crD_all hZ hc | .any => crD_any hZ hc | .max => crD_max hc | .min => crD_min hc | .int => crD_int | .str => crD_str
theorem Bi.boot : ∀ b : Bi, bootBuiltins b.name = some b.val
  | .len => by decide +kernel | .list => by decide +kernel | .tuple => by decide +kernel | .sum => by decide +kernel | .all => by decide +kernel | .any => by decide +kernel | .max => by decide +kernel | .min => by decide +kernel | .int => by decide +kernel | .str => by decide +kernel
theorem Bi.n1 : ∀ b : Bi, b.name ≠ "__name__"
  | .len => by decide +kernel | .list => by decide +kernel | .tuple => by decide +kernel | .sum => by decide +kernel | .all => by decide +kernel | .any => by decide +kernel | .max => by decide +kernel | .min => by decide +kernel | .int => by decide +kernel | .str => by decide +kernel
theorem Bi.n2 : ∀ b : Bi, (b.name == ("__debug__" : Str)) = false
  | .len => by decide +kernel | .list => by decide +kernel | .tuple => by decide +kernel | .sum => by decide +kernel | .all => by decide +kernel | .any => by decide +kernel | .max => by decide +kernel | .min => by decide +kernel | .int => by decide +kernel | .str => by decide +kernel
/-! ### methods -/
inductive Mh where
  | append | extend | pop | reverse | split | upper | join | sindex | get
def Mh.name : Mh → Str
  | .append => "append" | .extend => "extend" | .pop => "pop" | .reverse => "reverse" | .split => "split" | .upper => "upper" | .join => "join" | .sindex => "index" | .get => "get"
def Mh.T : Mh → String
  | .append => "list" | .extend => "list" | .pop => "list" | .reverse => "list" | .split => "str" | .upper => "str" | .join => "str" | .sindex => "str" | .get => "dict"
def Mh.id : Mh → String
  | .append => "list.append" | .extend => "list.extend" | .pop => "list.pop" | .reverse => "list.reverse" | .split => "str.split" | .upper => "str.upper" | .join => "str.join" | .sindex => "str.index" | .get => "dict.get"
def Mh.f : Mh → D → List D → Store → Op D
  | .append => mAppend | .extend => mExtend | .pop => mPop | .reverse => mReverse | .split => sSplit | .upper => sUpper | .join => sJoin | .sindex => sIndex | .get => mGet
/-- the receiver is of the type that has the method -/
def tyOk (T : String) (d : D) (S : Store) : Bool := match d with
  | .str _ => T == "str"
  | .ref n => match S[n]? with
    | some (.lst _) => T == "list"
    | some (.ro _) => T == "list"
    | some (.dic _) => T == "dict"
    | some (.dicT _) => T == "dict"
    | _ => false
  | _ => false
theorem Mh.rule {X : Cx} {Z : Zn} (hZ : X.K = Z.K) (hu : X.A.units + 65 < cLine) : ∀ m : Mh, MtR X m.id (RDM Z m.f)
  | .append => mr_append | .extend => mr_extend | .pop => mr_pop | .reverse => mr_reverse | .split => mr_split | .upper => mr_upper | .join => mr_join hZ | .sindex => mr_sindex | .get => mr_get hZ hu
theorem Mh.attrs : ∀ m : Mh, PlainAttrs m.T
  | .append => PySem.F.plainAttrs_list | .extend => PySem.F.plainAttrs_list | .pop => PySem.F.plainAttrs_list | .reverse => PySem.F.plainAttrs_list | .split => PySem.F.plainAttrs_str | .upper => PySem.F.plainAttrs_str | .join => PySem.F.plainAttrs_str | .sindex => PySem.F.plainAttrs_str | .get => PySem.F.plainAttrs_dict
theorem Mh.slot : ∀ m : Mh, Slot m.T m.name m.id
  | .append => PySem.F.slot_list_append | .extend => PySem.F.slot_list_extend | .pop => PySem.F.slot_list_pop | .reverse => PySem.F.slot_list_reverse | .split => PySem.F.slot_str_split | .upper => PySem.F.slot_str_upper | .join => PySem.F.slot_str_join | .sindex => PySem.F.slot_str_index | .get => PySem.F.slot_dict_get
theorem Mh.type : ∀ m : Mh, typeOf (.builtin m.id) = pure (.type "method_descriptor")
  | .append => PySem.F.type_list_append | .extend => PySem.F.type_list_extend | .pop => PySem.F.type_list_pop | .reverse => PySem.F.type_list_reverse | .split => PySem.F.type_str_split | .upper => PySem.F.type_str_upper | .join => PySem.F.type_str_join | .sindex => PySem.F.type_str_index | .get => PySem.F.type_dict_get
theorem tyOk_rep {Z : Zn} {φ : Fi} {S : Store} {H : Hp} {d : D} {v : V} {T : String} (h : HRep Z φ S H) (r : RepV Z.K φ H d v) (e : tyOk T d S = true) : tyV Z.K T v H := by
  unfold tyOk at e
  split at e
  · rw [r.str_inv]; exact eq_of_beq e
  · rename_i n
    obtain ⟨a, ea, rfl⟩ := r.ref_inv
    split at e
    · rename_i e1
      obtain ⟨vs, q, _⟩ := h.obj _ _ a e1 ea
      exact .inl ⟨eq_of_beq e, vs, SqL.of q⟩
    · rename_i e1
      obtain ⟨b, vs, e2, _, s1, _⟩ := h.sq (show lstOf S n = some _ by unfold lstOf; rw [e1]) r
      cases e2
      exact .inl ⟨eq_of_beq e, vs, s1⟩
    · rename_i e1
      obtain ⟨kvs, q, _⟩ := h.obj _ _ a e1 ea
      exact .inr (.inr (.inl ⟨eq_of_beq e, .inl ⟨kvs, q⟩⟩))
    · rename_i e1
      obtain ⟨kvs, q, _⟩ := h.obj _ _ a e1 ea
      exact .inr (.inr (.inl ⟨eq_of_beq e, .inr ⟨kvs, q⟩⟩))
    · cases e
  · cases e
/-! ### isinstance -/
def tyD (S : Store) : D → Option String
  | .non => some "NoneType"
  | .bl _ => some "bool"
  | .int _ => some "int"
  | .str _ => some "str"
  | .tup _ => some "tuple"
  | .ref n => match S[n]? with
    | some (.lst _) => some "list"
    | some (.ro _) => some "list"
    | some (.dic _) => some "dict"
    | some (.dicT _) => some "dict"
    | _ => none
theorem tyD_rep {Z : Zn} {φ : Fi} {S : Store} {H : Hp} {d : D} {v : V} {T : String} (h : HRep Z φ S H) (r : RepV Z.K φ H d v) (e : tyD S d = some T) : TyX Z.K H v (.type T) := by
  cases d with
  | non => cases e; rw [r.non_inv]; exact .base .non
  | bl b => cases e; rw [r.bl_inv]; exact .base (.bl b)
  | int b => cases e; rw [r.int_inv]; exact .base (.int b)
  | str b => cases e; rw [r.str_inv]; exact .base (.str b)
  | tup b =>
    cases e
    obtain ⟨a, vs, rfl, t, _⟩ := r.tup_inv
    rcases t with (t | ⟨o, t⟩) | ⟨o, its, n, k1, k2, _⟩
    · exact .base (.tup t)
    · exact .fTuple t
    · exact .kTuple k1 k2
  | ref n =>
    obtain ⟨a, ea, rfl⟩ := r.ref_inv
    simp only [tyD] at e
    split at e
    · rename_i e1
      cases e
      obtain ⟨vs, q, _⟩ := h.obj _ _ a e1 ea
      exact .base (.lst q)
    · rename_i e1
      cases e
      obtain ⟨vs, q, _⟩ := h.obj _ _ a e1 ea
      rcases q with ⟨o, q⟩ | ⟨o, its, n, k1, k2, _⟩
      · exact .base (.frz q)
      · exact .kList k1 k2
    · rename_i e1
      cases e
      obtain ⟨kvs, q, _⟩ := h.obj _ _ a e1 ea
      exact .base (.dK q)
    · rename_i e1
      cases e
      obtain ⟨kvs, q, _⟩ := h.obj _ _ a e1 ea
      exact .base (.dT q)
    · cases e
/-- the built-in classes that are asked for -/
inductive Ty where
  | str | int | bool | list | tuple | dict
def Ty.s : Ty → String
  | .str => "str" | .int => "int" | .bool => "bool" | .list => "list" | .tuple => "tuple" | .dict => "dict"
def Ty.name : Ty → Str
  | .str => "str" | .int => "int" | .bool => "bool" | .list => "list" | .tuple => "tuple" | .dict => "dict"
/-- whether something of the type T is one of U -/
def isiB (T : String) (U : Ty) : Bool := T == U.s || (T == "bool" && U.s == "int")
theorem Ty.boot : ∀ t : Ty, bootBuiltins t.name = some (.type t.s)
  | .str => by decide +kernel | .int => by decide +kernel | .bool => by decide +kernel | .list => by decide +kernel | .tuple => by decide +kernel | .dict => by decide +kernel
theorem Ty.n1 : ∀ t : Ty, t.name ≠ "__name__"
  | .str => by decide +kernel | .int => by decide +kernel | .bool => by decide +kernel | .list => by decide +kernel | .tuple => by decide +kernel | .dict => by decide +kernel
theorem Ty.n2 : ∀ t : Ty, (t.name == ("__debug__" : Str)) = false
  | .str => by decide +kernel | .int => by decide +kernel | .bool => by decide +kernel | .list => by decide +kernel | .tuple => by decide +kernel | .dict => by decide +kernel
def tyNames : List String := ["NoneType", "bool", "int", "str", "tuple", "list", "dict"]
theorem tyD_mem {S : Store} {d : D} {T : String} (e : tyD S d = some T) : T ∈ tyNames := by
  cases d with
  | ref n => simp only [tyD] at e; split at e <;> cases e <;> decide
  | _ => cases e; decide
theorem kitB_all : ∀ T ∈ tyNames, ∀ U : Ty, kitB T U.s = some (isiB T U) := by
  intro T hT U
  have h : (tyNames.all fun T => [Ty.str, Ty.int, Ty.bool, Ty.list, Ty.tuple, Ty.dict].all fun U => decide (kitB T U.s = some (isiB T U))) = true := by decide +kernel
  have h1 := List.all_eq_true.mp h T hT
  have hU : U ∈ [Ty.str, Ty.int, Ty.bool, Ty.list, Ty.tuple, Ty.dict] := by cases U <;> simp
  exact of_decide_eq_true (List.all_eq_true.mp h1 U hU)

/-! ### syntax -/
/-- a target: a name's slot, or a tuple of these -/
inductive Tg where
  | n (i : Nat) | t (is : List Nat)
mutual
inductive E where
  | v (i : Nat) | k (c : D) | g (i : Nat)
  | tup (es : Es) | lst (es : Es)
  | op (o : Bo) (a b : E) | cmp (o : Co) (a b : E) | chain (o p : Co) (a b c : E)
  | neg (a : E) | not (a : E) | and (es : Es) | or (es : Es) | ite (t a b : E)
  | ix (a b : E) | sl (a : E) (lo hi : Eo)
  | call (f : Nat) (es : Es) | bi (b : Bi) (es : Es) | me (m : Mh) (o : E) (es : Es) | isi (a : E) (t : Ty)
  | lc (elt : E) (tg : Tg) (it : Ig) (c : Eo) (own : List (Str × Nat))
  | dnew | dnewT
  | stop | fld (c : Nat) (x : Str) (o : E) | meth (i c f : Nat) (m : Str) (o : E) (es : Es) | make (i c f : Nat) (es : Es) | isiC (i : Nat) (us : List Nat) (a : E)
inductive Es where
  | nil | cons (e : E) (es : Es)
inductive Eo where
  | no | so (e : E)
inductive Ig where
  | e (e : E) | rng (a : E) | rng2 (a b : E) | enum (e : E) | zip (a b : E)
end
def Es.len : Es → Nat
  | .nil => 0
  | .cons _ r => r.len + 1

/-- what is walked: the items, and the lists that have to stay as they are -/
structure Src where
  items : List D
  deps : List (Nat × List D)
def Src.live (s : Src) (S : Store) : Prop := ∀ p ∈ s.deps, lstOf S p.1 = some p.2
/-- a target takes a value -/
def setAll : List Nat → List D → Lc → Option Lc
  | [], [], σ => some σ
  | i :: is, d :: ds, σ => setAll is ds (σ.set i (some d))
  | _, _, _ => none
def asg : Tg → D → Lc → Option Lc
  | .n i, d, σ => some (σ.set i (some d))
  | .t is, .tup ds, σ => setAll is ds σ
  | .t _, _, _ => none
def wipeD (σ : Lc) : List Nat → Lc
  | [] => σ
  | v :: vs => (wipeD σ vs).set v none
/-- no exception is let out -/
def Rs.calm {α : Type} : Rs α → Rs α
  | .exc _ _ => .no
  | r => r
@[simp] theorem Rs.calm_ok {α : Type} {a : α} {S : Store} : (Rs.ok a S).calm = .ok a S := rfl
@[simp] theorem Rs.calm_no {α : Type} : (Rs.no : Rs α).calm = .no := rfl
@[simp] theorem Rs.calm_exc {α : Type} {x : Xc} {S : Store} : (Rs.exc x S : Rs α).calm = .no := rfl
open Classical in
/-- a comprehension's turns -/
noncomputable def lcGo (live : Store → Prop) (turn : D → Store → Rs (Option D)) : List D → Store → Rs (List D)
  | [], S => if live S then .ok [] S else .no
  | x :: r, S => if live S then (turn x S).calm.bind fun o S1 => (lcGo live turn r S1).bind fun ds S2 => .ok (o.toList ++ ds) S2 else .no
/-- truth of a value, as a run -/
def truRs (d : D) (S : Store) : Rs Bool := match dTru d S with
  | some b => .ok b S
  | none => .no
def blRs (d : D) (S : Store) : Rs Bool := match d with
  | .bl b => .ok b S
  | _ => .no
def cNeg (d : D) (S : Store) : Op D := match d with
  | .int i => some (.int (-i), S)
  | _ => none
def mV (i : Nat) : M D := fun σ S => match σ[i]? with
  | some (some d) => .ok d S
  | _ => .no
def mG (G : List D) (i : Nat) : M D := fun _ S => match G[i]? with
  | some d => .ok d S
  | none => .no
def intRs (d : D) (S : Store) : Rs (Option Int) := match d with
  | .int i => .ok (some i) S
  | _ => .no
def srcE (d : D) (S : Store) : Rs Src := match d with
  | .ref n => match lstOf S n with
    | some xs => .ok ⟨xs, [(n, xs)]⟩ S
    | none => .no
  | .tup xs => .ok ⟨xs, []⟩ S
  | .str x => if x.length ≤ sizeLine then .ok ⟨x.cps.toList.map fun c => .str ⟨#[c]⟩, []⟩ S else .no
  | _ => .no
def rngItems (lo hi : Int) : List D := (List.range (hi - lo).toNat).map fun k => .int (lo + (k : Nat))
def srcR (lo hi : D) (S : Store) : Rs Src := match lo, hi with
  | .int i, .int j => if -(2 ^ 62) ≤ i ∧ i < 2 ^ 62 ∧ -(2 ^ 62) ≤ j ∧ j < 2 ^ 62 ∧ (j - i).toNat ≤ sizeLine then .ok ⟨rngItems i j, []⟩ S else .no
  | _, _ => .no
def enumItems (xs : List D) : List D := xs.zipIdx.map fun p => .tup [.int (p.2 : Nat), p.1]
def srcEn (d : D) (S : Store) : Rs Src := match d with
  | .ref n => match lstOf S n with
    | some xs => .ok ⟨enumItems xs, [(n, xs)]⟩ S
    | none => .no
  | _ => .no
def zipItems (xs ys : List D) : List D := (xs.zip ys).map fun p => .tup [p.1, p.2]
def srcZ (d e : D) (S : Store) : Rs Src := match d, e with
  | .ref n, .ref m => match lstOf S n, lstOf S m with
    | some xs, some ys => .ok ⟨zipItems xs ys, [(n, xs), (m, ys)]⟩ S
    | _, _ => .no
  | .tup xs, .tup ys => .ok ⟨zipItems xs ys, []⟩ S
  | _, _ => .no
/-- isinstance -/
def cIsi (t : Ty) (d : D) (S : Store) : Op D := (tyD S d).map fun T => (.bl (isiB T t), S)

/-- isinstance of an own class: us: the classes that are it or below it -/
def cIsiC (us : List Nat) (d : D) (S : Store) : Op D := match tyD S d with
  | some _ => some (.bl false, S)
  | none => match d with
    | .ref n => match S[n]? with
      | some (.ins c _) => some (.bl (us.any fun u => u == c), S)
      | _ => none
    | _ => none
/-- a field of an instance of the c-th class -/
def cFld (c : Nat) (x : Str) (d : D) (S : Store) : Op D := match d with
  | .ref n => match S[n]? with
    | some (.ins c' fs) => if c' = c then (fs.lookup x).map fun v => (v, S) else none
    | _ => none
  | _ => none
/-- an instance of the c-th class without the name among its fields -/
def insOk (c : Nat) (m : Str) (d : D) (S : Store) : Bool := match d with
  | .ref n => match S[n]? with
    | some (.ins c' fs) => c' == c && (fs.lookup m).isNone
    | _ => false
  | _ => false
def nonRs (r : D) (d : D) (S : Store) : Rs D := match d with
  | .non => .ok r S
  | _ => .no
/-- a turn of a comprehension -/
noncomputable def lcTurn (tg : Tg) (mC : M Bool) (mE : M D) (σ : Lc) (x : D) (S : Store) : Rs (Option D) := match asg tg x σ with
  | some σ2 => (mC σ2 S).bind fun b S3 => if b then (mE σ2 S3).bind fun d S4 => .ok (some d) S4 else .ok none S3
  | none => .no
noncomputable def mLc (tg : Tg) (mI : M Src) (mC : M Bool) (mE : M D) (vs : List Nat) : M D := fun σ S => (mI σ S).bind fun s S1 =>
  (lcGo s.live (lcTurn tg mC mE (wipeD σ vs)) s.items S1).bind fun ds S5 => .ok (.ref S5.length) (S5 ++ [.lst ds])

mutual
/-- the value of an expression: F: the defs, G: the module's constants -/
noncomputable def den (F : Nat → List D → Store → Rs D) (G : List D) : E → M D
  | .stop => fun _ _ => .no
  | .fld c x o => m1 (cFld c x) (den F G o)
  | .meth _ c f m o es => fun σ S => (den F G o σ S).bind fun x S1 => if insOk c m x S1 then (denL F G es σ S1).bind fun ds S2 => F f (x :: ds) S2 else .no
  | .make _ c f es => fun σ S => (denL F G es σ S).bind fun ds S1 => (F f (.ref S1.length :: ds) (S1 ++ [.ins c []])).calm.bind (nonRs (.ref S1.length))
  | .isiC _ us a => m1 (cIsiC us) (den F G a)
  | .v i => mV i
  | .k c => fun _ S => .ok c S
  | .g i => mG G i
  | .tup es => fun σ S => (denL F G es σ S).bind fun ds S1 => .ok (.tup ds) S1
  | .lst es => fun σ S => (denL F G es σ S).bind fun ds S1 => .ok (.ref S1.length) (S1 ++ [.lst ds])
  | .op o a b => m2 o.f (den F G a) (den F G b)
  | .cmp o a b => m2 o.f (den F G a) (den F G b)
  | .chain o p a b c => fun σ S => (den F G a σ S).bind fun x S1 => (den F G b σ S1).bind fun y S2 => (Rs.of (o.f x y S2)).bind fun z S3 => (blRs z S3).bind fun t S4 =>
      if t then (den F G c σ S4).bind fun w S5 => Rs.of (p.f y w S5) else .ok (.bl false) S4
  | .neg a => m1 cNeg (den F G a)
  | .not a => fun σ S => (den F G a σ S).bind fun x S1 => (blRs x S1).bind fun t S2 => .ok (.bl (!t)) S2
  | .and es => denAnd F G es
  | .or es => denOr F G es
  | .ite t a b => fun σ S => (denT F G t σ S).bind fun c S1 => if c then den F G a σ S1 else den F G b σ S1
  | .ix a b => m2 xIx (den F G a) (den F G b)
  | .sl a lo hi => fun σ S => (den F G a σ S).bind fun x S1 => (denO F G lo σ S1).bind fun l S2 => (denO F G hi σ S2).bind fun h S3 => Rs.of (dSl x l h S3)
  | .call f es => fun σ S => (denL F G es σ S).bind fun ds S1 => F f ds S1
  | .bi b es => mL b.f (denL F G es)
  | .me m o es => fun σ S => (den F G o σ S).bind fun x S1 => if tyOk m.T x S1 then (denL F G es σ S1).bind fun ds S2 => Rs.of (m.f x ds S2) else .no
  | .isi a t => m1 (cIsi t) (den F G a)
  | .lc elt tg it c own => mLc tg (denI F G it) (denC F G c) (den F G elt) (own.map (·.2))
  | .dnew => fun _ S => .ok (.ref S.length) (S ++ [.dic []])
  | .dnewT => fun _ S => .ok (.ref S.length) (S ++ [.dicT []])
/-- the truth of an expression as a test -/
noncomputable def denT (F : Nat → List D → Store → Rs D) (G : List D) : E → M Bool
  | .not a => fun σ S => (denT F G a σ S).bind fun t S1 => .ok (!t) S1
  | .and es => denTA F G es
  | .or es => denTO F G es
  | .cmp o a b => fun σ S => (m2 o.f (den F G a) (den F G b) σ S).bind blRs
  | .chain o p a b c => fun σ S => ((den F G a σ S).bind fun x S1 => (den F G b σ S1).bind fun y S2 => (Rs.of (o.f x y S2)).bind fun z S3 => (blRs z S3).bind fun t S4 =>
      if t then (den F G c σ S4).bind fun w S5 => Rs.of (p.f y w S5) else .ok (.bl false) S4).bind blRs
  | .v i => fun σ S => (mV i σ S).bind truRs
  | .k c => fun σ S => truRs c S
  | .g i => fun σ S => (mG G i σ S).bind truRs
  | .ix a b => fun σ S => (m2 xIx (den F G a) (den F G b) σ S).bind truRs
  | .call f es => fun σ S => ((denL F G es σ S).bind fun ds S1 => F f ds S1).bind truRs
  | .bi b es => fun σ S => (mL b.f (denL F G es) σ S).bind truRs
  | .isi a t => fun σ S => (m1 (cIsi t) (den F G a) σ S).bind truRs
  | .isiC _ us a => fun σ S => (m1 (cIsiC us) (den F G a) σ S).bind truRs
  | .fld c x o => fun σ S => (m1 (cFld c x) (den F G o) σ S).bind truRs
  | .meth _ c f m o es => fun σ S => ((den F G o σ S).bind fun x S1 => if insOk c m x S1 then (denL F G es σ S1).bind fun ds S2 => F f (x :: ds) S2 else .no).bind truRs
  | _ => fun _ _ => .no
noncomputable def denL (F : Nat → List D → Store → Rs D) (G : List D) : Es → M (List D)
  | .nil => mNil
  | .cons e es => mCons (den F G e) (denL F G es)
noncomputable def denO (F : Nat → List D → Store → Rs D) (G : List D) : Eo → M (Option Int)
  | .no => fun _ S => .ok none S
  | .so e => fun σ S => (den F G e σ S).bind intRs
noncomputable def denC (F : Nat → List D → Store → Rs D) (G : List D) : Eo → M Bool
  | .no => fun _ S => .ok true S
  | .so e => denT F G e
noncomputable def denI (F : Nat → List D → Store → Rs D) (G : List D) : Ig → M Src
  | .e e => fun σ S => (den F G e σ S).bind srcE
  | .rng a => fun σ S => (den F G a σ S).bind fun x S1 => srcR (.int 0) x S1
  | .rng2 a b => fun σ S => (den F G a σ S).bind fun x S1 => (den F G b σ S1).bind fun y S2 => srcR x y S2
  | .enum e => fun σ S => (den F G e σ S).bind srcEn
  | .zip a b => fun σ S => (den F G a σ S).bind fun x S1 => (den F G b σ S1).bind fun y S2 => srcZ x y S2
noncomputable def denAnd (F : Nat → List D → Store → Rs D) (G : List D) : Es → M D
  | .nil => fun _ _ => .no
  | .cons e .nil => den F G e
  | .cons e (.cons e2 es) => fun σ S => (den F G e σ S).bind fun x S1 => (blRs x S1).bind fun t S2 => if t then denAnd F G (.cons e2 es) σ S2 else .ok (.bl false) S2
noncomputable def denOr (F : Nat → List D → Store → Rs D) (G : List D) : Es → M D
  | .nil => fun _ _ => .no
  | .cons e .nil => den F G e
  | .cons e (.cons e2 es) => fun σ S => (den F G e σ S).bind fun x S1 => (blRs x S1).bind fun t S2 => if t then .ok (.bl true) S2 else denOr F G (.cons e2 es) σ S2
noncomputable def denTA (F : Nat → List D → Store → Rs D) (G : List D) : Es → M Bool
  | .nil => fun _ _ => .no
  | .cons e .nil => denT F G e
  | .cons e (.cons e2 es) => fun σ S => (denT F G e σ S).bind fun t S1 => if t then denTA F G (.cons e2 es) σ S1 else .ok false S1
noncomputable def denTO (F : Nat → List D → Store → Rs D) (G : List D) : Es → M Bool
  | .nil => fun _ _ => .no
  | .cons e .nil => denT F G e
  | .cons e (.cons e2 es) => fun σ S => (denT F G e σ S).bind fun t S1 => if t then .ok true S1 else denTO F G (.cons e2 es) σ S1
end
end KD

/-! KdG: each form of expression by its parts. -/
namespace KD
open PySem L2

/-! ### looks at the text's forms -/
def notStar : Expr → Bool
  | .Starred _ _ => false
  | _ => true
def notSet : Expr → Bool
  | .Set _ _ _ => false
  | _ => true
def notSlice : Expr → Bool
  | .Slice _ _ _ _ => false
  | _ => true
def noSuper : Expr → Bool
  | .Call (.Name id _) [] [] _ => !(id == ("super" : Str))
  | _ => true
def plainTest : Expr → Bool
  | .UnaryOp .Not _ _ => false
  | .BoolOp _ _ _ => false
  | .IfExp _ _ _ _ => false
  | .Compare _ _ _ _ => false
  | _ => true
theorem starEach_cons {e : Expr} {es : List Expr} {env : Env} (h : notStar e = true) : starEach (e :: es) env = (false, eval e env) :: starEach es env := by
  cases e <;> first | rfl | cases h
theorem starEach_any {pos : Pos} {env : Env} : ∀ {es : List Expr}, es.all notStar = true → (backTo pos (starEach es env)).any (·.1) = false
  | [], _ => rfl
  | e :: es, h => by
    rw [List.all_cons, Bool.and_eq_true] at h
    rw [starEach_cons h.1]
    show (false || (backTo pos (starEach es env)).any (·.1)) = false
    rw [starEach_any h.2]; rfl
theorem starEach_all {pos : Pos} {env : Env} : ∀ {es : List Expr}, es.all notStar = true → (backTo pos (starEach es env)).all (fun x => !x.1) = true
  | [], _ => rfl
  | e :: es, h => by
    rw [List.all_cons, Bool.and_eq_true] at h
    rw [starEach_cons h.1]
    show (true && (backTo pos (starEach es env)).all (fun x => !x.1)) = true
    rw [starEach_all h.2]; rfl
theorem attributeBase_of {o : Expr} {attr : Str} {env : Env} {w : Sem Value} (h : noSuper o = true) : attributeBase o attr env w = w := by
  unfold attributeBase
  split
  · rename_i id p pos
    have h1 : (!(id == ("super" : Str))) = true := h
    have h2 : (id != ("super" : Str)) = true := h1
    simp [h2]
  · rfl
theorem plainIx_of {b : Expr} (h : notSlice b = true) : PlainIx b := fun o i => by
  cases b <;> first | rfl | cases h
theorem marks_of {b : Expr} {op : CmpOp} (h : notSet b = true) : behindInMarks op b = false := by
  cases b <;> first | rfl | cases h
theorem fold_of {b : Expr} {env : Env} (h : notSet b = true) : ∀ x, foldedSetIterable b env x = pure x := fun x => by
  cases b <;> first | rfl | cases h
theorem isTrue_of {a : Expr} {env : Env} (h : plainTest a = true) : ∀ whole, isTrue a env whole = (do let v ← whole; standAt a.pos; holding [v] (truthy v)) := fun whole => by
  cases a with
  | UnaryOp op x pos => cases op <;> first | rfl | cases h
  | BoolOp _ _ _ => cases h
  | IfExp _ _ _ _ => cases h
  | Compare _ _ _ _ => cases h
  | _ => rfl

/-! ### the context -/
structure Sees (X : Cx) (sc : Scope) : Prop where
  vis : ∀ x, (sc.names.lookup x = some .local ∨ sc.names.lookup x = some .cell ∨ sc.names.lookup x = some .free) → Vis X.env.scope x
  loc : ∀ x, (sc.names.lookup x = some .local ∨ sc.names.lookup x = some .cell) → Loc X.env.scope x ∧ (X.fn x = true ∨ X.env.scope.names.lookup x = some .local)
  gl : ∀ x, sc.names.lookup x = some .globalImplicit → Gl X x
  cf : ∀ x, (sc.names.lookup x = some .cell ∨ sc.names.lookup x = some .free) → X.env.scope.names.lookup x = some .cell ∨ X.env.scope.names.lookup x = some .free
/-- names: the defs with their numbers of parameters, the built-ins that the module leaves as they are, its constants -/
structure Nm where
  fns : List (Str × Nat)
  free : List Str
  glo : List Str
  /-- fields of the classes -/
  fld : List (Nat × Str) := []
  /-- methods: the class, the name, the def, its parameters -/
  mth : List (Nat × Str × Nat × Nat) := []
  /-- classes that are called: the name, the class, the def of __init__, its parameters -/
  mks : List (Str × Nat × Nat × Nat) := []
  /-- classes that isinstance is asked of: the name, the classes that are it or below -/
  isi : List (Str × List Nat) := []
def spD (Z : Zn) (n : Nat) (g : List D → Store → Rs D) : Sp := fun vs H Q E => ∃ φ S ds, HRep Z φ S H ∧ RepL Z.K φ H ds vs ∧ ds.length = n ∧ Out Z (fun c d _ H' => E c d H') (RepV Z.K) φ H [] (g ds S) Q
structure Gd (X : Cx) (Z : Zn) (W : WX) (P : Nm) (F : Nat → List D → Store → Rs D) (G : List D) (k : Nat) (N : List Str) (sc : Scope) : Prop where
  K : X.K = Z.K
  nm : X.N = N
  nd : N.Nodup
  calm : X.calm = true
  room : Room (k + 1) X.A
  sees : Sees X sc
  free : ∀ x, x ∈ P.free → X.mg x = none
  glo : ∀ (i : Nat) (x : Str), P.glo[i]? = some x → ∃ d u v, G[i]? = some d ∧ X.mg x = some u ∧ RelV v u ∧ RepV Z.K [] (fun _ => none) d v
  fns : ∀ (f : Nat) (x : Str) (n : Nat), P.fns[f]? = some (x, n) → ∃ fa fd ps, ps.length = n ∧ X.mg x = some (.ref fa) ∧ PySem.W.keepIn X.K (.ref fa) = true ∧ Binds X.K fd ps [] ∧
    FnOk X.prog X.w X.K X.mg X.base (L2.CX X.prog X.w) k fa fd ps (spD Z n (F f))
  fld : ∀ (c : Nat) (x : Str), (c, x) ∈ P.fld → ∀ C, Z.cls[c]? = some C → Cls X.K C ∧ NoAttr X.K C x
  mth : ∀ (i c : Nat) (m : Str) (f n : Nat), P.mth[i]? = some (c, m, f, n) → ∃ C fa fd ps, Z.cls[c]? = some C ∧ Cls X.K C ∧ Meth X.K C m fa ∧ ps.length = n ∧ Binds X.K fd ps [] ∧
    FnOk X.prog X.w X.K X.mg X.base (L2.CX X.prog X.w) k fa fd ps (spD Z n (F f))
  mks : ∀ (i : Nat) (x : Str) (c f n : Nat), P.mks[i]? = some (x, c, f, n) → ∃ C fa fd ps, Z.cls[c]? = some C ∧ X.mg x = some (.ref C) ∧ Mk X.K C fa ∧ ps.length = n ∧ Binds X.K fd ps [] ∧
    FnOk X.prog X.w X.K X.mg X.base (L2.CX X.prog X.w) k fa fd ps (spD Z n (F f))
  isi : ∀ (i : Nat) (x : Str) (us : List Nat), P.isi[i]? = some (x, us) → ∃ C, X.mg x = some (.ref C) ∧ (∀ T ∈ tyNames, PySem.W.kitOne X.K (.type T) (.ref C) = some false) ∧
    ∀ (c : Nat) (C' : Addr), Z.cls[c]? = some C' → ∀ H a dx fs, H a = some (.ins C' dx fs) → TyOf X.K H (.ref a) (.ref C') ∧ PySem.W.kitOne X.K (.ref C') (.ref C) = some (us.any fun u => u == c)
  tk : Takes X W
section
variable {X : Cx} {Z : Zn} {W : WX} {P : Nm} {F : Nat → List D → Store → Rs D} {G : List D} {k : Nat} {N : List Str} {sc : Scope} {pos : Pos}
theorem Gd.units (g : Gd X Z W P F G k N sc) : X.A.units + 65 < cLine := by have := g.room.un; omega

theorem Tv_mono {α β : Type} {Z : Zn} {W : WX} {Rp : Fi → Hp → α → β → Prop} {m : M α} {σ : St} {H : Hp} {Q Q' : β → Hp → Prop} (h : Tv Z W Rp m σ H Q) (q : ∀ v H', Q v H' → Q' v H') : Tv Z W Rp m σ H Q' := by
  obtain ⟨φ, S, σd, a, o⟩ := h
  exact ⟨φ, S, σd, a, o.mono q⟩
/-! ### names, constants, displays -/
theorem ev_v {i : Nat} {x : Str} (g : Gd X Z W P F G k N sc) (hi : N[i]? = some x) (hv : sc.names.lookup x = some .local ∨ sc.names.lookup x = some .cell ∨ sc.names.lookup x = some .free)
    (h1 : (x == ("__debug__" : Str)) = false) (h2 : (x == ("__classdict__" : Str)) = false) : PE X (.Name x pos) (tE Z W (mV i)) := by
  refine PE.imp (pe_var (i := i) (by rw [g.nm]; exact hi) (g.sees.vis x hv) h1 h2) fun σ H Q ⟨φ, S, σd, a, o⟩ => ?_
  unfold mV at o
  split at o
  · rename_i d e
    obtain ⟨v, e1, r⟩ := a.lc i d e
    exact ⟨v, e1, o φ H v Grow.refl a.hp r⟩
  · exact o.elim
theorem ev_int {i : Int} {j : Nat} : PE X (.Constant (.int i) j pos) (tE Z W fun _ S => .ok (.int i) S) := PE.imp pe_int fun σ H Q ⟨φ, S, σd, a, o⟩ => o φ H _ Grow.refl a.hp rInt
theorem ev_str {i : Str} {j : Nat} : PE X (.Constant (.str i) j pos) (tE Z W fun _ S => .ok (.str i) S) := PE.imp pe_str fun σ H Q ⟨φ, S, σd, a, o⟩ => o φ H _ Grow.refl a.hp rStr
theorem ev_bl {i : Bool} {j : Nat} : PE X (.Constant (.bool i) j pos) (tE Z W fun _ S => .ok (.bl i) S) := PE.imp pe_bl fun σ H Q ⟨φ, S, σd, a, o⟩ => o φ H _ Grow.refl a.hp rBl
theorem ev_non {j : Nat} : PE X (.Constant .none j pos) (tE Z W fun _ S => .ok .non S) := PE.imp pe_non fun σ H Q ⟨φ, S, σd, a, o⟩ => o φ H _ Grow.refl a.hp rNon
theorem grow_nil {K : Frag} {φ : Fi} {H : Hp} : Grow K [] (fun _ => none) φ H :=
  ⟨fun n a h => by simp at h, fun a xs h => by
    rcases h with (h | ⟨o, h⟩) | h
    · cases h
    · cases h
    · exact .inr h, fun b o h => by cases h⟩
theorem ev_g {i : Nat} {x : Str} (g : Gd X Z W P F G k N sc) (hi : P.glo[i]? = some x) (hv : sc.names.lookup x = some .globalImplicit) (h1 : (x == ("__debug__" : Str)) = false) : PE X (.Name x pos) (tE Z W (mG G i)) := by
  obtain ⟨d, u, v, e1, e2, e3, e4⟩ := g.glo i x hi
  refine PE.imp (pe_glob (g.sees.gl x hv) e2 e3 h1) fun σ H Q ⟨φ, S, σd, a, o⟩ => ?_
  have o' : Out Z W (RepV Z.K) φ H σ (.ok d S) Q := by
    have e5 : mG G i σd S = .ok d S := by unfold mG; rw [e1]
    rw [← e5]; exact o
  exact o' φ H v Grow.refl a.hp (e4.grow grow_nil)
theorem ev_tup {as : List Expr} {j : Nat} {m : M (List D)} (h : PA X as (tA Z W m)) (hm : ∀ σ S ds S', m σ S = .ok ds S' → ds.length ≤ 1000) : PE X (.Tuple as j pos) (tE Z W fun σ S => (m σ S).bind fun ds S1 => .ok (.tup ds) S1) := by
  refine PE.imp (pe_tup h) fun σ H Q ⟨φ, S, σd, a, o⟩ => ⟨φ, S, σd, a, ?_⟩
  dsimp only at o
  cases e : m σd S with
  | no => rw [e] at o; exact o
  | exc x S' => rw [e] at o; exact o
  | ok ds S1 =>
    rw [e] at o
    intro φ1 H1 vs g1 h1 r1
    refine ⟨?_, new_tup h1 r1 (OutP.grow (φ := φ) (H := H) (show OutP Z (RepV Z.K) φ H (some (.tup ds, S1)) Q from o) g1)⟩
    have := hm _ _ _ _ e
    rw [r1.len, sizeLine_eq]; omega
theorem ev_lst {as : List Expr} {m : M (List D)} (h : PA X as (tA Z W m)) (hm : ∀ σ S ds S', m σ S = .ok ds S' → ds.length ≤ 1000) : PE X (.List as pos) (tE Z W fun σ S => (m σ S).bind fun ds S1 => .ok (.ref S1.length) (S1 ++ [.lst ds])) := by
  refine PE.imp (pe_lst h) fun σ H Q ⟨φ, S, σd, a, o⟩ => ⟨φ, S, σd, a, ?_⟩
  dsimp only at o
  cases e : m σd S with
  | no => rw [e] at o; exact o
  | exc x S' => rw [e] at o; exact o
  | ok ds S1 =>
    rw [e] at o
    intro φ1 H1 vs g1 h1 r1
    refine ⟨?_, new_list h1 r1 (OutP.grow (φ := φ) (H := H) (show OutP Z (RepV Z.K) φ H (some (.ref S1.length, S1 ++ [.lst ds])) Q from o) g1)⟩
    have := hm _ _ _ _ e
    rw [r1.len, sizeLine_eq]; omega
theorem ev_dnew : PE X (.Dict [] [] pos) (tE Z W fun _ S => .ok (.ref S.length) (S ++ [.dic []])) := by
  refine PE.imp pe_dnewK fun σ H Q ⟨φ, S, σd, a, o⟩ p hp => ?_
  have g : Grow Z.K φ H (φ ++ [(p, true)]) (upd H p (.dK [])) := Grow.obj hp
  refine o (φ ++ [(p, true)]) _ _ g (a.hp.alloc (o := .dic []) hp ⟨[], upd_same, rfl⟩) ?_
  simp only [RepV]
  exact ⟨p, by rw [← a.hp.len]; simp [Fi.ad], rfl⟩
theorem ev_dnewT : PE X (.Dict [] [] pos) (tE Z W fun _ S => .ok (.ref S.length) (S ++ [.dicT []])) := by
  refine PE.imp pe_dnewT fun σ H Q ⟨φ, S, σd, a, o⟩ p hp => ?_
  have g : Grow Z.K φ H (φ ++ [(p, true)]) (upd H p (.dT [])) := Grow.obj hp
  refine o (φ ++ [(p, true)]) _ _ g (a.hp.alloc (o := .dicT []) hp ⟨[], upd_same, rfl⟩) ?_
  simp only [RepV]
  exact ⟨p, by rw [← a.hp.len]; simp [Fi.ad], rfl⟩

/-! ### operators -/
theorem ev_op {a b : Expr} {ma mb : M D} (g : Gd X Z W P F G k N sc) (o : Bo) (ha : PE X a (tE Z W ma)) (hb : PE X b (tE Z W mb)) : PE X (.BinOp a o.py b pos) (tE Z W (m2 o.f ma mb)) :=
  PE.imp (pe_op (o.rule g.K) ha hb) fun _ _ _ h => tE_op h
theorem ev_cmp {a b : Expr} {ma mb : M D} (g : Gd X Z W P F G k N sc) (o : Co) (ha : PE X a (tE Z W ma)) (hb : PE X b (tE Z W mb)) (hs : notSet b = true) : PE X (.Compare a [o.py] [b] pos) (tE Z W (m2 o.f ma mb)) :=
  PE.imp (pe_cmpR (o.rule g.K g.units) ha hb (marks_of hs)) fun _ _ _ h => tE_op h
theorem ev_cmpT {a b : Expr} {ma mb : M D} (g : Gd X Z W P F G k N sc) (o : Co) (ha : PE X a (tE Z W ma)) (hb : PE X b (tE Z W mb)) (hs : notSet b = true) : PT X (.Compare a [o.py] [b] pos) (tT Z W fun σ S => (m2 o.f ma mb σ S).bind blRs) := by
  refine PT.imp (pt_cmpR (o.rule g.K g.units) ha hb (marks_of hs)) fun σ H Q h => ?_
  refine tE_op ?_
  obtain ⟨φ, S, σd, a, o⟩ := h
  refine ⟨φ, S, σd, a, ?_⟩
  refine (o.bind (Rp := RepV Z.K)).mono fun v H1 ⟨φ1, S1, d, g1, h1, r1, o1⟩ => ?_
  unfold blRs at o1
  split at o1
  · rename_i b
    exact ⟨b, r1.bl_inv, o1 φ1 H1 b Grow.refl h1 rfl⟩
  · exact o1.elim
theorem ev_neg {a : Expr} {ma : M D} (ha : PE X a (tE Z W ma)) : PE X (.UnaryOp .USub a pos) (tE Z W (m1 cNeg ma)) := by
  refine PE.imp (pe_un un_neg ha) fun σ H Q h => ?_
  refine Tv_mono (tE_un h) ?_
  rintro x H1 ⟨φ, S, d, h1, r1, o⟩
  unfold cNeg at o
  split at o
  · exact ⟨_, r1.int_inv, o.here h1 rInt⟩
  · exact o.elim
end
end KD

/-! KdH: more forms of expressions by their parts. -/
namespace KD
open PySem L2
section
variable {X : Cx} {Z : Zn} {W : WX} {P : Nm} {F : Nat → List D → Store → Rs D} {G : List D} {k : Nat} {N : List Str} {sc : Scope} {pos : Pos}
/-- one expression, then what follows -/
theorem Tv.then {α β γ δ : Type} {Rp : Fi → Hp → α → β → Prop} {Rq : Fi → Hp → γ → δ → Prop} {m : M α} {f : α → M γ} {σ : St} {H : Hp} {Q : δ → Hp → Prop} {R : β → Hp → Prop}
    (h : Tv Z W Rq (fun σ S => (m σ S).bind fun a S1 => f a σ S1) σ H Q)
    (q : ∀ v H1 φ1 S1 σd d, At Z φ1 S1 σd σ H1 → Rp φ1 H1 d v → Out Z W Rq φ1 H1 σ (f d σd S1) Q → R v H1) : Tv Z W Rp m σ H R := by
  obtain ⟨φ, S, σd, a, o⟩ := h
  refine ⟨φ, S, σd, a, (o.bind (Rp := Rp)).mono fun v H1 ⟨φ1, S1, d, g1, h1, r1, o1⟩ => ?_⟩
  exact q v H1 φ1 S1 σd d (a.grow g1 h1) r1 o1
theorem Out.bl {φ : Fi} {H : Hp} {σ : St} {d : D} {S : Store} {v : V} {γ δ : Type} {Rq : Fi → Hp → γ → δ → Prop} {f : Bool → Store → Rs γ} {Q : δ → Hp → Prop} (r : RepV Z.K φ H d v) (o : Out Z W Rq φ H σ ((blRs d S).bind f) Q) :
    ∃ c, v = .bl c ∧ Out Z W Rq φ H σ (f c S) Q := by
  unfold blRs at o
  split at o
  · exact ⟨_, r.bl_inv, o⟩
  · exact o.elim
theorem ev_chain {a b c : Expr} {ma mb mc : M D} (g : Gd X Z W P F G k N sc) (o p : Co) (ha : PE X a (tE Z W ma)) (hb : PE X b (tE Z W mb)) (hc : PE X c (tE Z W mc)) (hs' : notSet c = true) :
    PE X (.Compare a [o.py, p.py] [b, c] pos) (tE Z W fun σ S => (ma σ S).bind fun x S1 => (mb σ S1).bind fun y S2 => (Rs.of (o.f x y S2)).bind fun z S3 => (blRs z S3).bind fun t S4 =>
      if t then (mc σ S4).bind fun w S5 => Rs.of (p.f y w S5) else .ok (.bl false) S4) := by
  refine PE.imp (pe_chain (o.rule g.K g.units) (p.rule g.K g.units) ha hb hc (marks_of hs')) fun σ H Q h => ?_
  refine Tv.then (Rp := RepV Z.K) (m := ma) (f := fun x σ S1 => (mb σ S1).bind fun y S2 => (Rs.of (o.f x y S2)).bind fun z S3 => (blRs z S3).bind fun t S4 =>
      if t then (mc σ S4).bind fun w S5 => Rs.of (p.f y w S5) else .ok (.bl false) S4) h fun v H1 φ1 S1 σd x a1 r1 o1 => ?_
  refine ⟨φ1, S1, σd, a1, (o1.bind (Rp := RepV Z.K)).mono ?_⟩
  rintro w H2 ⟨φ2, S2, y, g2, h2, r2, o2⟩
  have a2 := a1.grow g2 h2
  refine ⟨φ2, S2, x, y, h2, r1.grow g2, r2, (o2.bind (Rp := RepV Z.K)).pure.mono ?_⟩
  rintro z H3 ⟨φ3, S3, zd, g3, h3, r3, o3⟩
  obtain ⟨t, rfl, o4⟩ := Out.bl r3 o3
  refine ⟨t, rfl, ?_⟩
  cases t with
  | false =>
    simp only [Bool.false_eq_true, if_false] at o4 ⊢
    exact o4 φ3 H3 _ Grow.refl h3 rBl
  | true =>
    simp only [if_true] at o4 ⊢
    refine ⟨φ3, S3, σd, a2.grow g3 h3, (o4.bind (Rp := RepV Z.K)).mono ?_⟩
    rintro u H5 ⟨φ5, S5, wd, g5, h5, r5, o5⟩
    exact ⟨φ5, S5, y, wd, h5, (r2.grow g3).grow g5, r5, o5.pure⟩
theorem ev_chainT {a b c : Expr} {ma mb mc : M D} (g : Gd X Z W P F G k N sc) (o p : Co) (ha : PE X a (tE Z W ma)) (hb : PE X b (tE Z W mb)) (hc : PE X c (tE Z W mc)) (hs' : notSet c = true) :
    PT X (.Compare a [o.py, p.py] [b, c] pos) (tT Z W fun σ S => ((ma σ S).bind fun x S1 => (mb σ S1).bind fun y S2 => (Rs.of (o.f x y S2)).bind fun z S3 => (blRs z S3).bind fun t S4 =>
      if t then (mc σ S4).bind fun w S5 => Rs.of (p.f y w S5) else .ok (.bl false) S4).bind blRs) := by
  refine PT.imp (pt_chain (o.rule g.K g.units) (p.rule g.K g.units) ha hb hc (marks_of hs')) fun σ H Q h => ?_
  obtain ⟨φ, S, σd, a0, o0⟩ := h
  -- the value's reading with the test behind it
  have h' : tE Z W (fun σ S => (ma σ S).bind fun x S1 => (mb σ S1).bind fun y S2 => (Rs.of (o.f x y S2)).bind fun z S3 => (blRs z S3).bind fun t S4 =>
      if t then (mc σ S4).bind fun w S5 => Rs.of (p.f y w S5) else .ok (.bl false) S4) σ H (fun x H' => ∃ k, x = .bl k ∧ Q k H') := by
    refine ⟨φ, S, σd, a0, (o0.bind (Rp := RepV Z.K)).mono ?_⟩
    rintro v H1 ⟨φ1, S1, d, g1, h1, r1, o1⟩
    unfold blRs at o1
    split at o1
    · rename_i b
      exact ⟨b, r1.bl_inv, o1 φ1 H1 b Grow.refl h1 rfl⟩
    · exact o1.elim
  clear o0
  refine Tv.then (Rp := RepV Z.K) (m := ma) (f := fun x σ S1 => (mb σ S1).bind fun y S2 => (Rs.of (o.f x y S2)).bind fun z S3 => (blRs z S3).bind fun t S4 =>
      if t then (mc σ S4).bind fun w S5 => Rs.of (p.f y w S5) else .ok (.bl false) S4) h' fun v H1 φ1 S1 σd x a1 r1 o1 => ?_
  refine ⟨φ1, S1, σd, a1, (o1.bind (Rp := RepV Z.K)).mono ?_⟩
  rintro w H2 ⟨φ2, S2, y, g2, h2, r2, o2⟩
  have a2 := a1.grow g2 h2
  refine ⟨φ2, S2, x, y, h2, r1.grow g2, r2, (o2.bind (Rp := RepV Z.K)).pure.mono ?_⟩
  rintro z H3 ⟨φ3, S3, zd, g3, h3, r3, o3⟩
  obtain ⟨t, rfl, o4⟩ := Out.bl r3 o3
  refine ⟨t, rfl, ?_⟩
  cases t with
  | false =>
    simp only [Bool.false_eq_true, if_false] at o4 ⊢
    exact o4 φ3 H3 _ Grow.refl h3 rBl
  | true =>
    simp only [if_true] at o4 ⊢
    refine ⟨φ3, S3, σd, a2.grow g3 h3, (o4.bind (Rp := RepV Z.K)).mono ?_⟩
    rintro u H5 ⟨φ5, S5, wd, g5, h5, r5, o5⟩
    exact ⟨φ5, S5, y, wd, h5, (r2.grow g3).grow g5, r5, o5.pure⟩

/-! ### truth -/
theorem ev_truth {a : Expr} {ma : M D} (g : Gd X Z W P F G k N sc) (ha : PE X a (tE Z W ma)) (hp : plainTest a = true) : PT X a (tT Z W fun σ S => (ma σ S).bind truRs) := by
  refine PT.imp (pt_truth ha (isTrue_of hp)) fun σ H Q h => ?_
  obtain ⟨φ, S, σd, a0, o0⟩ := h
  refine ⟨φ, S, σd, a0, (o0.bind (Rp := RepV Z.K)).mono ?_⟩
  rintro v H1 ⟨φ1, S1, d, g1, h1, r1, o1⟩
  unfold truRs at o1
  split at o1
  · rename_i b e
    refine ⟨b, ?_, o1 φ1 H1 b Grow.refl h1 rfl⟩
    rw [g.K]
    exact dTru_ok h1 r1 e
  · exact o1.elim
theorem ev_notT {a : Expr} {ma : M Bool} (ha : PT X a (tT Z W ma)) : PT X (.UnaryOp .Not a pos) (tT Z W fun σ S => (ma σ S).bind fun t S1 => .ok (!t) S1) := by
  refine PT.imp (pt_not ha) fun σ H Q h => ?_
  obtain ⟨φ, S, σd, a0, o0⟩ := h
  refine ⟨φ, S, σd, a0, (o0.bind (Rp := eqB)).mono ?_⟩
  rintro c H1 ⟨φ1, S1, d, g1, h1, r1, o1⟩
  cases (show c = d from r1)
  exact o1 φ1 H1 _ Grow.refl h1 rfl
theorem ev_not {a : Expr} {ma : M D} (ha : PE X a (tE Z W ma)) : PE X (.UnaryOp .Not a pos) (tE Z W fun σ S => (ma σ S).bind fun x S1 => (blRs x S1).bind fun t S2 => .ok (.bl (!t)) S2) := by
  refine PE.imp (pe_not ha) fun σ H Q h => ?_
  obtain ⟨φ, S, σd, a0, o0⟩ := h
  refine ⟨φ, S, σd, a0, (o0.bind (Rp := RepV Z.K)).mono ?_⟩
  rintro v H1 ⟨φ1, S1, d, g1, h1, r1, o1⟩
  obtain ⟨c, rfl, o2⟩ := Out.bl r1 o1
  exact ⟨c, rfl, o2 φ1 H1 _ Grow.refl h1 rBl⟩
theorem ev_and1 {a : Expr} {ma : M D} (ha : PE X a (tE Z W ma)) : PE X (.BoolOp .And [a] pos) (tE Z W ma) := pe_one ha
theorem ev_or1 {a : Expr} {ma : M D} (ha : PE X a (tE Z W ma)) : PE X (.BoolOp .Or [a] pos) (tE Z W ma) := pe_one ha
theorem ev_and2 {a b : Expr} {rest : List Expr} {ma mb : M D} (ha : PE X a (tE Z W ma)) (hb : PE X (.BoolOp .And (b :: rest) pos) (tE Z W mb)) :
    PE X (.BoolOp .And (a :: b :: rest) pos) (tE Z W fun σ S => (ma σ S).bind fun x S1 => (blRs x S1).bind fun t S2 => if t then mb σ S2 else .ok (.bl false) S2) := by
  refine PE.imp (pe_and ha hb) fun σ H Q h => ?_
  obtain ⟨φ, S, σd, a0, o0⟩ := h
  refine ⟨φ, S, σd, a0, (o0.bind (Rp := RepV Z.K)).mono ?_⟩
  rintro v H1 ⟨φ1, S1, d, g1, h1, r1, o1⟩
  obtain ⟨c, rfl, o2⟩ := Out.bl r1 o1
  refine ⟨c, rfl, ?_⟩
  cases c with
  | false =>
    simp only [Bool.false_eq_true, if_false] at o2 ⊢
    exact o2 φ1 H1 _ Grow.refl h1 rBl
  | true =>
    simp only [if_true] at o2 ⊢
    exact ⟨φ1, S1, σd, a0.grow g1 h1, o2⟩
theorem ev_or2 {a b : Expr} {rest : List Expr} {ma mb : M D} (ha : PE X a (tE Z W ma)) (hb : PE X (.BoolOp .Or (b :: rest) pos) (tE Z W mb)) :
    PE X (.BoolOp .Or (a :: b :: rest) pos) (tE Z W fun σ S => (ma σ S).bind fun x S1 => (blRs x S1).bind fun t S2 => if t then .ok (.bl true) S2 else mb σ S2) := by
  refine PE.imp (pe_or ha hb) fun σ H Q h => ?_
  obtain ⟨φ, S, σd, a0, o0⟩ := h
  refine ⟨φ, S, σd, a0, (o0.bind (Rp := RepV Z.K)).mono ?_⟩
  rintro v H1 ⟨φ1, S1, d, g1, h1, r1, o1⟩
  obtain ⟨c, rfl, o2⟩ := Out.bl r1 o1
  refine ⟨c, rfl, ?_⟩
  cases c with
  | true =>
    simp only [if_true] at o2 ⊢
    exact o2 φ1 H1 _ Grow.refl h1 rBl
  | false =>
    simp only [Bool.false_eq_true, if_false] at o2 ⊢
    exact ⟨φ1, S1, σd, a0.grow g1 h1, o2⟩
theorem ev_and2T {a b : Expr} {rest : List Expr} {ma mb : M Bool} (ha : PT X a (tT Z W ma)) (hb : PW X (.BoolOp .And (b :: rest) pos) (tT Z W mb)) :
    PW X (.BoolOp .And (a :: b :: rest) pos) (tT Z W fun σ S => (ma σ S).bind fun t S1 => if t then mb σ S1 else .ok false S1) := by
  refine PW.imp (pw_and ha hb) fun σ H Q h => ?_
  obtain ⟨φ, S, σd, a0, o0⟩ := h
  refine ⟨φ, S, σd, a0, (o0.bind (Rp := eqB)).mono ?_⟩
  rintro c H1 ⟨φ1, S1, d, g1, h1, r1, o1⟩
  cases (show c = d from r1)
  cases c with
  | false =>
    simp only [Bool.false_eq_true, if_false] at o1 ⊢
    exact o1 φ1 H1 _ Grow.refl h1 rfl
  | true =>
    simp only [if_true] at o1 ⊢
    exact ⟨φ1, S1, σd, a0.grow g1 h1, o1⟩
theorem ev_or2T {a b : Expr} {rest : List Expr} {ma mb : M Bool} (ha : PT X a (tT Z W ma)) (hb : PW X (.BoolOp .Or (b :: rest) pos) (tT Z W mb)) :
    PW X (.BoolOp .Or (a :: b :: rest) pos) (tT Z W fun σ S => (ma σ S).bind fun t S1 => if t then .ok true S1 else mb σ S1) := by
  refine PW.imp (pw_or ha hb) fun σ H Q h => ?_
  obtain ⟨φ, S, σd, a0, o0⟩ := h
  refine ⟨φ, S, σd, a0, (o0.bind (Rp := eqB)).mono ?_⟩
  rintro c H1 ⟨φ1, S1, d, g1, h1, r1, o1⟩
  cases (show c = d from r1)
  cases c with
  | true =>
    simp only [if_true] at o1 ⊢
    exact o1 φ1 H1 _ Grow.refl h1 rfl
  | false =>
    simp only [Bool.false_eq_true, if_false] at o1 ⊢
    exact ⟨φ1, S1, σd, a0.grow g1 h1, o1⟩
theorem ev_ite {t a b : Expr} {mt : M Bool} {ma mb : M D} (ht : PT X t (tT Z W mt)) (ha : PE X a (tE Z W ma)) (hb : PE X b (tE Z W mb)) :
    PE X (.IfExp t a b pos) (tE Z W fun σ S => (mt σ S).bind fun c S1 => if c then ma σ S1 else mb σ S1) := by
  refine PE.imp (pe_ifExp ht ha hb) fun σ H Q h => ?_
  obtain ⟨φ, S, σd, a0, o0⟩ := h
  refine ⟨φ, S, σd, a0, (o0.bind (Rp := eqB)).mono ?_⟩
  rintro c H1 ⟨φ1, S1, d, g1, h1, r1, o1⟩
  cases (show c = d from r1)
  cases c with
  | true =>
    simp only [if_true] at o1 ⊢
    exact ⟨φ1, S1, σd, a0.grow g1 h1, o1⟩
  | false =>
    simp only [Bool.false_eq_true, if_false] at o1 ⊢
    exact ⟨φ1, S1, σd, a0.grow g1 h1, o1⟩

/-! ### subscripts, slices -/
theorem ev_ix {a b : Expr} {ma mb : M D} (g : Gd X Z W P F G k N sc) (ha : PE X a (tE Z W ma)) (hb : PE X b (tE Z W mb)) (hs : notSlice b = true) : PE X (.Subscript a b pos) (tE Z W (m2 xIx ma mb)) :=
  PE.imp (pe_ix (ox_ix g.K g.units) ha hb (plainIx_of hs)) fun _ _ _ h => tE_op h
abbrev eqO (_ : Fi) (_ : Hp) (b c : Option Int) : Prop := c = b
theorem PO.imp {X : Cx} {e : Option Expr} {t t' : TO} (h : PO X e t) (i : ∀ σ H Q, t' σ H Q → t σ H Q) : PO X e t' := ⟨fun pins s σ H Q I q => h.run pins s σ H Q I (i σ H Q q)⟩
theorem ev_o0 : PO X none (Tv Z W eqO fun _ S => .ok none S) := by
  refine PO.imp po_none fun σ H Q ⟨φ, S, σd, a, o⟩ => ?_
  exact o φ H _ Grow.refl a.hp rfl
theorem ev_o1 {a : Expr} {ma : M D} (ha : PE X a (tE Z W ma)) : PO X (some a) (Tv Z W eqO fun σ S => (ma σ S).bind intRs) := by
  refine PO.imp (po_some ha) fun σ H Q ⟨φ, S, σd, a, o⟩ => ?_
  refine ⟨φ, S, σd, a, (o.bind (Rp := RepV Z.K)).mono ?_⟩
  rintro v H1 ⟨φ1, S1, d, g1, h1, r1, o1⟩
  unfold intRs at o1
  split at o1
  · exact ⟨_, r1.int_inv, o1 φ1 H1 _ Grow.refl h1 rfl⟩
  · exact o1.elim
theorem ev_sl {a : Expr} {lo hi : Option Expr} {p2 : Pos} {ma : M D} {ml mh : M (Option Int)} (g : Gd X Z W P F G k N sc) (ha : PE X a (tE Z W ma)) (hl : PO X lo (Tv Z W eqO ml)) (hh : PO X hi (Tv Z W eqO mh)) :
    PE X (.Subscript a (.Slice lo hi none p2) pos) (tE Z W fun σ S => (ma σ S).bind fun x S1 => (ml σ S1).bind fun l S2 => (mh σ S2).bind fun h S3 => Rs.of (dSl x l h S3)) := by
  refine PE.imp (pe_slice (od_sl g.K) ha hl hh) fun σ H Q ⟨φ, S, σd, a, o⟩ => ?_
  refine ⟨φ, S, σd, a, (o.bind (Rp := RepV Z.K)).mono ?_⟩
  rintro v H1 ⟨φ1, S1, d, g1, h1, r1, o1⟩
  have a1 := a.grow g1 h1
  refine ⟨φ1, S1, σd, a1, (o1.bind (Rp := eqO)).mono ?_⟩
  rintro l H2 ⟨φ2, S2, l', g2, h2, e2, o2⟩
  cases (show l = l' from e2)
  refine ⟨φ2, S2, σd, a1.grow g2 h2, (o2.bind (Rp := eqO)).mono ?_⟩
  rintro u H3 ⟨φ3, S3, u', g3, h3, e3, o3⟩
  cases (show u = u' from e3)
  exact ⟨φ3, S3, d, h3, (r1.grow g2).grow g3, o3.pure⟩

/-! ### calls -/
theorem pe_callS0 {CX : CXT} {f : Addr} {fd : FuncData} {ps : List Str} {sp : Sp} {Ex : St → XK} {x : Str} {p : Pos} (Fn : FnOk X.prog X.w X.K X.mg X.base CX k f fd ps sp) (hr : Room k X.A) (hg : Gl X x) (hm : X.mg x = some (.ref f)) (hk : PySem.W.keepIn X.K (.ref f) = true) (hb : Binds X.K fd ps []) (hx : ∀ σ, PassesAt CX X σ (Ex σ))
    (hdb : (x == ("__debug__" : Str)) = false) : PE X (.Call (.Name x p) [] [] pos) (tCallS sp Ex tNil) := by
  refine ⟨fun pins s σ H Q I h => ?_⟩
  refine wpAny_Call_Name_kw (ld_glob I hg hm ?_ hdb)
  exact PySem.W.callWith_K0 I.kIn hk (run_fnS (us := []) Fn hr hb (hx σ) I .nil h)
theorem out_call {φ : Fi} {H : Hp} {σ : St} {f : List D → Store → Rs D} {ds : List D} {S : Store} {vs : List V} {Q : VK} {n : Nat} (h : HRep Z φ S H) (r : RepL Z.K φ H ds vs) (hl : ds.length = n) (o : Out Z W (RepV Z.K) φ H σ (f ds S) Q) : spD Z n f vs H Q (WE W σ) := by
  refine ⟨φ, S, ds, h, r, hl, ?_⟩
  revert o
  cases f ds S with
  | ok d S' => exact fun o => o
  | exc x S' => exact fun o => o
  | no => exact fun o => o
theorem ev_call {x : Str} {n f : Nat} {p : Pos} {as : List Expr} {m : M (List D)} (g : Gd X Z W P F G k N sc) (hf : P.fns[f]? = some (x, n)) (hv : sc.names.lookup x = some .globalImplicit) (h1 : (x == ("__debug__" : Str)) = false)
    (ha : PA X as (tA Z W m)) (hs : as.all notStar = true) (hm : ∀ σ S ds S', m σ S = .ok ds S' → ds.length = n) (h0 : as = [] → m = mNil) : PE X (.Call (.Name x p) as [] pos) (tE Z W fun σ S => (m σ S).bind fun ds S1 => F f ds S1) := by
  obtain ⟨fa, fd, ps, hl, e1, e2, e3, e4⟩ := g.fns f x n hf
  have fin : ∀ (t : TA), PA X as t → (∀ σ H Q, tA Z W m σ H Q → t σ H Q) → ∀ σ H Q, tE Z W (fun σ S => (m σ S).bind fun ds S1 => F f ds S1) σ H Q → tCallS (spD Z n (F f)) (WE W) t σ H Q := fun t _ ht σ H Q ⟨φ, S, σd, a, o⟩ => by
    refine ht σ H _ ⟨φ, S, σd, a, ?_⟩
    dsimp only at o
    cases e : m σd S with
    | no => rw [e] at o; exact o
    | exc x S' => rw [e] at o; exact o
    | ok ds S1 =>
      rw [e] at o
      exact fun φ1 H1 vs g1 h1 r1 => out_call h1 r1 (hm _ _ _ _ e) (Out.grow (φ := φ) (H := H) (show Out Z W (RepV Z.K) φ H σ (F f ds S1) Q from o) g1)
  cases as with
  | nil =>
    refine PE.imp (pe_callS0 e4 (g.room.mono (Nat.le_succ k)) (g.sees.gl x hv) e1 e2 e3 (fun σ => passAt g.tk σ) h1) (fin tNil pa_nil fun σ H Q h => ?_)
    rw [h0 rfl] at h
    exact tA_nil h
  | cons a as =>
    rw [List.all_cons, Bool.and_eq_true] at hs
    exact PE.imp (pe_callS e4 (g.room.mono (Nat.le_succ k)) (g.sees.gl x hv) e1 e2 e3 (fun σ => passAt g.tk σ) ha h1 (starEach_cons hs.1) (starEach_any hs.2)) (fin _ ha fun _ _ _ h => h)
theorem ev_bi {as : List Expr} {p : Pos} {m : M (List D)} (g : Gd X Z W P F G k N sc) (b : Bi) (hv : sc.names.lookup b.name = some .globalImplicit) (hf : b.name ∈ P.free) (ha : PA X as (tA Z W m)) (hs : as.all notStar = true) (hn : as ≠ []) :
    PE X (.Call (.Name b.name p) as [] pos) (tE Z W (mL b.f m)) := by
  cases as with
  | nil => exact absurd rfl hn
  | cons a as =>
    rw [List.all_cons, Bool.and_eq_true] at hs
    have hb := b.boot
    have hr := b.rule (X := X) (Z := Z) g.K g.calm
    unfold Bi.val at hb hr
    cases e : b.ty with
    | none =>
      rw [e] at hb hr
      exact PE.imp (pe_callB hr (g.sees.gl _ hv) (g.free _ hf) hb ha b.n1 b.n2 (starEach_cons hs.1) (starEach_any hs.2)) fun _ _ _ h => tE_cb h
    | some t =>
      rw [e] at hb hr
      exact PE.imp (pe_callTy hr (g.sees.gl _ hv) (g.free _ hf) hb ha b.n1 b.n2 (starEach_cons hs.1) (starEach_any hs.2)) fun _ _ _ h => tE_cb h
theorem ev_me {o : Expr} {as : List Expr} {apos : Pos} {mo : M D} {m : M (List D)} (g : Gd X Z W P F G k N sc) (q : Mh) (ho : PE X o (tE Z W mo)) (ha : PA X as (tA Z W m)) (hs : as.all notStar = true) (hb : noSuper o = true) (hl : (apos.endLine == pos.line) = true)
    (hn : as.length < 30) (h0 : as = [] → m = mNil) : PE X (.Call (.Attribute o q.name apos) as [] pos) (tE Z W fun σ S => (mo σ S).bind fun x S1 => if tyOk q.T x S1 then (m σ S1).bind fun ds S2 => Rs.of (q.f x ds S2) else .no) := by
  cases as with
  | nil =>
    rw [h0 rfl]
    refine PE.imp (pe_bm0 q.attrs q.slot q.type (q.rule g.K g.units) ho (attributeBase_of hb) hl) fun σ H Q ⟨φ, S, σd, a, o⟩ => ?_
    refine ⟨φ, S, σd, a, (o.bind (Rp := RepV Z.K)).mono ?_⟩
    rintro v H1 ⟨φ1, S1, d, g1, h1, r1, o1⟩
    split at o1
    · rename_i ht
      refine ⟨by rw [g.K]; exact tyOk_rep h1 r1 ht, φ1, S1, d, [], h1, r1, RepL.nil, ?_⟩
      exact Out.pure (show Out Z W (RepV Z.K) φ1 H1 σ (Rs.of (q.f d [] S1)) Q from o1)
    · exact o1.elim
  | cons a as =>
    have hs' := hs
    rw [List.all_cons, Bool.and_eq_true] at hs'
    refine PE.imp (pe_bm q.attrs q.slot q.type (q.rule g.K g.units) ho ha (attributeBase_of hb) ?_ hl (starEach_cons hs'.1) (starEach_any hs'.2)) fun σ H Q ⟨φ, S, σd, a, o⟩ => ?_
    · rw [starEach_all hs]
      have e : decide ((a :: as).length + ([] : List Keyword).length + (if ([] : List Keyword).isEmpty then 0 else 1) < 30) = true := decide_eq_true (by simpa using hn)
      rw [e]; rfl
    · refine ⟨φ, S, σd, a, (o.bind (Rp := RepV Z.K)).mono ?_⟩
      rintro v H1 ⟨φ1, S1, d, g1, h1, r1, o1⟩
      split at o1
      · rename_i ht
        refine ⟨by rw [g.K]; exact tyOk_rep h1 r1 ht, φ1, S1, σd, a.grow g1 h1, (o1.bind (Rp := RepL Z.K)).mono ?_⟩
        rintro vs H2 ⟨φ2, S2, ds, g2, h2, r2, o2⟩
        exact ⟨φ2, S2, d, ds, h2, r1.grow g2, r2, o2.pure⟩
      · exact o1.elim
theorem ev_isi {a : Expr} {p p2 : Pos} {ma : M D} (g : Gd X Z W P F G k N sc) (t : Ty) (ha : PE X a (tE Z W ma)) (hs : notStar a = true) (hv : sc.names.lookup ("isinstance" : Str) = some .globalImplicit) (hf : ("isinstance" : Str) ∈ P.free)
    (hv2 : sc.names.lookup t.name = some .globalImplicit) (hf2 : t.name ∈ P.free) : PE X (.Call (.Name "isinstance" p) [a, .Name t.name p2] [] pos) (tE Z W (m1 (cIsi t) ma)) := by
  have h2 : PE X (.Name t.name p2) (tC (.ty t.s)) := pe_bltn (g.sees.gl _ hv2) (g.free _ hf2) t.boot rfl t.n1 t.n2
  refine PE.imp (pe_callB call_isi (g.sees.gl _ hv) (g.free _ hf) PyProof.Rows.boot_isinstance (pa_cons ha (pa_cons h2 pa_nil) (starEach_cons hs)) (by decide) (by decide) (starEach_cons hs) rfl) fun σ H Q ⟨φ, S, σd, a, o⟩ => ?_
  refine ⟨φ, S, σd, a, (o.bind (Rp := RepV Z.K)).mono ?_⟩
  rintro v H1 ⟨φ1, S1, d, g1, h1, r1, o1⟩
  have o2 := Out.pure (Z := Z) o1
  unfold cIsi at o2
  cases e : tyD S1 d with
  | none => rw [e] at o2; exact o2.elim
  | some T =>
    rw [e] at o2
    refine ⟨v, .ty t.s, .type T, .type t.s, isiB T t, rfl, .ty _, ?_, kit_ty (kitB_all T (tyD_mem e) t), o2.here h1 rBl⟩
    rw [g.K]
    exact tyD_rep h1 r1 e
end
end KD

/-! KdHa: instances: fields, methods, making, isinstance of an own class. -/
namespace KD
open PySem L2
section
variable {X : Cx} {Z : Zn} {W : WX} {P : Nm} {F : Nat → List D → Store → Rs D} {G : List D} {k : Nat} {N : List Str} {sc : Scope} {pos : Pos}
theorem ev_stop {e : Expr} : PE X e (tE Z W fun _ _ => .no) := ⟨fun pins s σ H Q I ⟨φ, S, σd, a, o⟩ => (show False from o).elim⟩
theorem RepKV.look {K : Frag} {φ : Fi} {H : Hp} {x : Str} : ∀ {fs : List (Str × D)} {fvs : List (Str × V)} {d : D}, RepKV K φ H fs fvs → fs.lookup x = some d → ∃ v, fvs.lookup x = some v ∧ RepV K φ H d v
  | [], _, _, _, e => by simp at e
  | p :: ps, _, d, ⟨v, r, rfl, h1, h2⟩, e => by
    obtain ⟨y, d0⟩ := p
    rw [List.lookup_cons] at e ⊢
    cases q : (x == y) with
    | true => rw [q] at e; cases e; exact ⟨v, rfl, h1⟩
    | false => rw [q] at e; exact RepKV.look h2 e
theorem RepKV.lookN {K : Frag} {φ : Fi} {H : Hp} {x : Str} : ∀ {fs : List (Str × D)} {fvs : List (Str × V)}, RepKV K φ H fs fvs → fs.lookup x = none → fvs.lookup x = none
  | [], _, e, _ => by cases (show _ = [] from e); rfl
  | p :: ps, _, ⟨v, r, rfl, h1, h2⟩, e => by
    obtain ⟨y, d0⟩ := p
    rw [List.lookup_cons] at e ⊢
    cases q : (x == y) with
    | true => rw [q] at e; cases e
    | false => rw [q] at e; exact RepKV.lookN h2 e
theorem HRep.ins {φ : Fi} {S : Store} {H : Hp} {n c : Nat} {fs : List (Str × D)} {v : V} (h : HRep Z φ S H) (e : S[n]? = some (.ins c fs)) (r : RepV Z.K φ H (.ref n) v) : ∃ a C dx fvs, v = .ref a ∧ φ.ad n = some a ∧ Z.cls[c]? = some C ∧ H a = some (.ins C dx fvs) ∧ RepKV Z.K φ H fs fvs := by
  obtain ⟨a, ea, rfl⟩ := r.ref_inv
  obtain ⟨C, dx, fvs, q1, q2, q3⟩ := h.obj _ _ a e ea
  exact ⟨a, C, dx, fvs, rfl, ea, q1, q2, q3⟩
theorem ev_fld {o : Expr} {c : Nat} {x : Str} {mo : M D} (g : Gd X Z W P F G k N sc) (hf : (c, x) ∈ P.fld) (ho : PE X o (tE Z W mo)) (hb : noSuper o = true) : PE X (.Attribute o x pos) (tE Z W (m1 (cFld c x) mo)) := by
  refine PE.imp (pe_fld ho (attributeBase_of hb)) fun σ H Q ⟨φ, S, σd, a, o⟩ => ⟨φ, S, σd, a, (o.bind (Rp := RepV Z.K)).mono ?_⟩
  rintro v H1 ⟨φ1, S1, d, g1, h1, r1, o1⟩
  have o2 := Out.pure (Z := Z) o1
  unfold cFld at o2
  split at o2
  · split at o2
    · rename_i e1
      split at o2
      · rename_i ec
        cases ec
        rename_i fs
        cases e2 : fs.lookup x with
        | none => rw [e2] at o2; exact o2.elim
        | some u =>
          rw [e2] at o2
          obtain ⟨b, C, dx, fvs, rfl, eb, q1, q2, q3⟩ := h1.ins e1 r1
          obtain ⟨y, l1, l2⟩ := q3.look e2
          obtain ⟨f1, f2⟩ := g.fld c x hf C q1
          exact ⟨b, C, dx, fvs, y, rfl, q2, f1, f2, l1, o2.here h1 l2⟩
      · exact o2.elim
    · exact o2.elim
  · exact o2.elim
/-! ### methods -/
def tMethW (C : Addr) (m : Str) (sp : Sp) (Ex : St → XK) (ta : TE) (t : TA) : TE := fun σ H Q => ta σ H fun x H1 => ∃ a dx fs, x = .ref a ∧ H1 a = some (.ins C dx fs) ∧ fs.lookup m = none ∧
  t σ H1 fun vs H2 => sp (x :: vs) H2 Q (Ex σ)
theorem callee_form {as : List Expr} {apos cp : Pos} {o : Expr} {m : Str} {env : Env} (hb : noSuper o = true) (hl : (apos.endLine == cp.line) = true) (hs : as.all notStar = true) (hn : as.length < 30) :
    eval (.Call (.Attribute o m apos) as [] cp) env = (do
      let ov ← eval o env
      standAt apos.atName
      let (f, first) ← holding [ov] (getMethod ov m (do return (← importBound o env).getD true))
      callWith cp f first (backTo cp (starEach as env)) (backToKw cp (keywordEach [] env))) := by
  have e0 : methodCallForm (as.length + ([] : List Keyword).length) (backTo cp (starEach as env)) (backToKw cp (keywordEach [] env)) = true := by
    show ((backTo cp (starEach as env)).all (fun x => !x.1) && true && decide (as.length + 0 + 0 < 30)) = true
    rw [starEach_all hs, decide_eq_true (by omega)]; rfl
  rw [PySem.arm_eval_Call, attributeBase_of hb]
  unfold methodCall
  rw [e0]
  unfold methodCallPos calleeOf
  rw [hl]
  rfl
theorem ev_meth {o : Expr} {as : List Expr} {apos : Pos} {mo : M D} {i c f n : Nat} {x : Str} {m : M (List D)} (g : Gd X Z W P F G k N sc) (hf : P.mth[i]? = some (c, x, f, n + 1)) (ho : PE X o (tE Z W mo)) (ha : PA X as (tA Z W m)) (hs : as.all notStar = true) (hb : noSuper o = true)
    (hl : (apos.endLine == pos.line) = true) (hn : as.length < 30) (hm : ∀ σ S ds S', m σ S = .ok ds S' → ds.length = n) (h0 : as = [] → m = mNil) :
    PE X (.Call (.Attribute o x apos) as [] pos) (tE Z W fun σ S => (mo σ S).bind fun y S1 => if insOk c x y S1 then (m σ S1).bind fun ds S2 => F f (y :: ds) S2 else .no) := by
  obtain ⟨C, fa, fd, ps, e1, e2, e3, e4, e5, e6⟩ := g.mth i c x f (n + 1) hf
  have hr := g.room.mono (Nat.le_succ k)
  have key : ∀ (t : TA), (∀ σ H Q, tA Z W m σ H Q → t σ H Q) → ∀ σ H Q, tE Z W (fun σ S => (mo σ S).bind fun y S1 => if insOk c x y S1 then (m σ S1).bind fun ds S2 => F f (y :: ds) S2 else .no) σ H Q → tMethW C x (spD Z (n + 1) (F f)) (WE W) (tE Z W mo) t σ H Q := fun t ht σ H Q ⟨φ, S, σd, a, o⟩ => by
    refine ⟨φ, S, σd, a, (o.bind (Rp := RepV Z.K)).mono ?_⟩
    rintro v H1 ⟨φ1, S1, d, g1, h1, r1, o1⟩
    split at o1
    · rename_i hi
      unfold insOk at hi
      split at hi
      · split at hi
        · rename_i e7
          rw [Bool.and_eq_true] at hi
          obtain rfl := eq_of_beq hi.1
          obtain ⟨b, C', dx, fvs, rfl, eb, q1, q2, q3⟩ := h1.ins e7 r1
          rw [e1] at q1
          cases q1
          refine ⟨b, dx, fvs, rfl, q2, q3.lookN (Option.isNone_iff_eq_none.mp hi.2), ht σ H1 _ ⟨φ1, S1, σd, a.grow g1 h1, ?_⟩⟩
          cases e : m σd S1 with
          | no => rw [e] at o1; exact o1
          | exc x S' => rw [e] at o1; exact o1
          | ok ds S2 =>
            rw [e] at o1
            exact fun φ2 H2 vs g2 h2 r2 => out_call h2 (RepL.cons (r1.grow g2) r2) (by simp [hm _ _ _ _ e]) (Out.grow (φ := φ1) (H := H1) o1 g2)
        · cases hi
      · cases hi
    · exact o1.elim
  cases as with
  | nil =>
    refine PE.imp (t := tMethW C x (spD Z (n + 1) (F f)) (WE W) (tE Z W mo) tNil) ⟨fun pins s σ H Q I h => ?_⟩ (key tNil fun σ H Q h => by rw [h0 rfl] at h; exact tA_nil h)
    refine PySem.W.methodCall_KW (thn (ho.run pins s σ H _ I h) fun u s1 ⟨y, H1, I1, rx, b, dx, fs, ex, eb, l, q⟩ => ?_) (callee_form hb hl hs hn)
    subst ex
    obtain rfl : u = Value.ref b := rx
    refine getmeth_ok I1 eb e2 e3 l ?_
    exact PySem.W.callWith_K0 (first := [.ref b]) I1.kIn e3.kp (run_fnS (us := [.ref b]) (vs := [.ref b]) e6 hr e5 (passAt g.tk σ) I1 (.cons rfl .nil) q)
  | cons a as =>
    have hs' := hs
    rw [List.all_cons, Bool.and_eq_true] at hs'
    refine PE.imp (t := tMethW C x (spD Z (n + 1) (F f)) (WE W) (tE Z W mo) (tA Z W m)) ⟨fun pins s σ H Q I h => ?_⟩ (key _ fun σ H Q h => h)
    refine PySem.W.methodCall_KW (thn (ho.run pins s σ H _ I h) fun u s1 ⟨y, H1, I1, rx, b, dx, fs, ex, eb, l, q⟩ => ?_) (callee_form hb hl hs hn)
    subst ex
    obtain rfl : u = Value.ref b := rx
    refine getmeth_ok I1 eb e2 e3 l ?_
    refine PySem.W.callWith_K (first := [.ref b]) (h₀ := X.base) I.ok.mod.kin e3.kp (thn (ha.run pos pins s1 σ H1 _ I1 q) fun us s2 ⟨vs, H2, I2, r, q2⟩ => ⟨I2.kIn, ?_⟩) (starEach_cons hs'.1) (starEach_any hs'.2)
    exact run_fnS (us := .ref b :: us) (vs := .ref b :: vs) e6 hr e5 (passAt g.tk σ) I2 (.cons rfl r) q2
/-! ### making -/
theorem pass_non {X : Cx} : Passes (L2.CX X.prog X.w) X (fun _ _ _ => False) := fun pins σ H s e s' I c => passAt (W := fun _ _ _ _ => False) takes0 σ pins H s e s' I c
theorem ev_make {as : List Expr} {p : Pos} {i c f n : Nat} {x : Str} {m : M (List D)} (g : Gd X Z W P F G k N sc) (hf : P.mks[i]? = some (x, c, f, n + 1)) (hv : sc.names.lookup x = some .globalImplicit) (hd : (x == ("__debug__" : Str)) = false) (ha : PA X as (tA Z W m)) (hs : as.all notStar = true)
    (hm : ∀ σ S ds S', m σ S = .ok ds S' → ds.length = n) (h0 : as = [] → m = mNil) :
    PE X (.Call (.Name x p) as [] pos) (tE Z W fun σ S => (m σ S).bind fun ds S1 => (F f (.ref S1.length :: ds) (S1 ++ [.ins c []])).calm.bind (nonRs (.ref S1.length))) := by
  obtain ⟨C, fa, fd, ps, e1, e2, e3, e4, e5, e6⟩ := g.mks i x c f (n + 1) hf
  have key : ∀ (t : TA), (∀ σ H Q, tA Z W m σ H Q → t σ H Q) → ∀ σ H Q, tE Z W (fun σ S => (m σ S).bind fun ds S1 => (F f (.ref S1.length :: ds) (S1 ++ [.ins c []])).calm.bind (nonRs (.ref S1.length))) σ H Q → tMake C (spD Z (n + 1) (F f)) [] (fun _ _ _ => False) t σ H Q := fun t ht σ H Q ⟨φ, S, σd, a, o⟩ => by
    refine ht σ H _ ⟨φ, S, σd, a, ?_⟩
    dsimp only at o
    cases e : m σd S with
    | no => rw [e] at o; exact o
    | exc x S' => rw [e] at o; exact o
    | ok ds S1 =>
      rw [e] at o
      intro φ1 H1 vs g1 h1 r1 y dx hy hdx ne
      have o1 := Out.grow (φ := φ) (H := H) (show Out Z W (RepV Z.K) φ H σ ((F f (.ref S1.length :: ds) (S1 ++ [.ins c []])).calm.bind (nonRs (.ref S1.length))) Q from o) g1
      have hn1 := h1.new (u := .own y) hdx
      have gn1 : Grow Z.K φ1 H1 φ1 (upd H1 dx (.own y)) := Grow.new hdx
      have hy' : upd H1 dx (.own y) y = none := by rw [upd_ne (Ne.symm ne)]; exact hy
      have h2 : HRep Z (φ1 ++ [(y, true)]) (S1 ++ [.ins c []]) (upd (upd H1 dx (.own y)) y (.ins C dx [])) := hn1.alloc (o := .ins c []) hy' ⟨C, dx, [], e1, upd_same, rfl⟩
      have g2 : Grow Z.K φ1 H1 (φ1 ++ [(y, true)]) (upd (upd H1 dx (.own y)) y (.ins C dx [])) := gn1.trans (Grow.obj hy')
      have ey : Fi.ad (φ1 ++ [(y, true)]) S1.length = some y := by
        refine Fi.ad_of (f := true) ?_
        rw [← h1.len, List.getElem?_append_right (Nat.le_refl _)]; simp
      have ry : RepV Z.K (φ1 ++ [(y, true)]) (upd (upd H1 dx (.own y)) y (.ins C dx [])) (.ref S1.length) (.ref y) := by
        simp only [RepV]; exact ⟨y, ey, rfl⟩
      rw [List.append_nil]
      refine ⟨_, _, .ref S1.length :: ds, h2, RepL.cons ry (r1.grow g2), by simp [hm _ _ _ _ e], ?_⟩
      have o3 := Out.grow o1 g2
      cases e7 : F f (.ref S1.length :: ds) (S1 ++ [.ins c []]) with
      | no => rw [e7] at o3; exact o3
      | exc x S' => rw [e7] at o3; exact o3.elim
      | ok d S2 =>
        rw [e7, Rs.calm_ok, Rs.bind_ok] at o3
        unfold nonRs at o3
        split at o3
        · exact fun φ3 H3 v g3 h3 r3 => ⟨r3.non_inv, o3 φ3 H3 _ g3 h3 (ry.grow g3)⟩
        · exact o3.elim
  cases as with
  | nil => exact PE.imp (pe_make0 e3 e6 g.room (g.sees.gl x hv) e2 e5 .nil pass_non hd) (key tNil fun σ H Q h => by rw [h0 rfl] at h; exact tA_nil h)
  | cons a as =>
    rw [List.all_cons, Bool.and_eq_true] at hs
    exact PE.imp (pe_make e3 e6 g.room (g.sees.gl x hv) e2 e5 .nil pass_non ha hd (starEach_cons hs.1) (starEach_any hs.2)) (key _ fun σ H Q h => h)
theorem ev_isiC {a : Expr} {p p2 : Pos} {i : Nat} {x : Str} {us : List Nat} {ma : M D} (g : Gd X Z W P F G k N sc) (hi : P.isi[i]? = some (x, us)) (ha : PE X a (tE Z W ma)) (hs : notStar a = true) (hv : sc.names.lookup ("isinstance" : Str) = some .globalImplicit) (hf : ("isinstance" : Str) ∈ P.free)
    (hv2 : sc.names.lookup x = some .globalImplicit) (hd : (x == ("__debug__" : Str)) = false) : PE X (.Call (.Name "isinstance" p) [a, .Name x p2] [] pos) (tE Z W (m1 (cIsiC us) ma)) := by
  obtain ⟨C, e1, e2, e3⟩ := g.isi i x us hi
  have h2 : PE X (.Name x p2) (tC (.ref C)) := pe_glob (g.sees.gl _ hv2) e1 rfl hd
  refine PE.imp (pe_callB call_isi (g.sees.gl _ hv) (g.free _ hf) PyProof.Rows.boot_isinstance (pa_cons ha (pa_cons h2 pa_nil) (starEach_cons hs)) (by decide) (by decide) (starEach_cons hs) rfl) fun σ H Q ⟨φ, S, σd, a, o⟩ => ?_
  refine ⟨φ, S, σd, a, (o.bind (Rp := RepV Z.K)).mono ?_⟩
  rintro v H1 ⟨φ1, S1, d, g1, h1, r1, o1⟩
  have o2 := Out.pure (Z := Z) o1
  unfold cIsiC at o2
  split at o2
  · rename_i T e
    refine ⟨v, .ref C, .type T, .ref C, false, rfl, .own _, ?_, e2 T (tyD_mem e), o2.here h1 rBl⟩
    rw [g.K]
    exact tyD_rep h1 r1 e
  · split at o2
    · split at o2
      · rename_i e5
        obtain ⟨b, C', dx, fvs, rfl, eb, q1, q2, q3⟩ := h1.ins e5 r1
        obtain ⟨t1, t2⟩ := e3 _ _ q1 H1 b dx fvs q2
        exact ⟨.ref b, .ref C, .ref C', .ref C, _, rfl, .own _, .base t1, t2, o2.here h1 rBl⟩
      · exact o2.elim
    · exact o2.elim
end
end KD

/-! KdI: what is walked, targets, comprehensions. -/
namespace KD
open PySem L2

structure SrcOk (Z : Zn) (φ : Fi) (H : Hp) (s : Src) (J : It) : Prop where
  len : s.items.length ≤ sizeLine
  go : ∀ (i : Nat) (d : D) (φ1 : Fi) (H1 : Hp) (S1 : Store), Grow Z.K φ H φ1 H1 → HRep Z φ1 S1 H1 → s.live S1 → s.items[i]? = some d →
    J.go i H1 ∧ ∀ x H2, J.yld i H1 x H2 → Grow Z.K φ1 H1 φ1 H2 ∧ HRep Z φ1 S1 H2 ∧ RepV Z.K φ1 H2 d x
  stop : ∀ (i : Nat) (φ1 : Fi) (H1 : Hp) (S1 : Store), Grow Z.K φ H φ1 H1 → HRep Z φ1 S1 H1 → s.live S1 → s.items.length ≤ i → J.stop i H1
abbrev tI (Z : Zn) (W : WX) (m : M Src) : TI := Tv Z W (SrcOk Z) m
section
variable {X : Cx} {Z : Zn} {W : WX} {P : Nm} {F : Nat → List D → Store → Rs D} {G : List D} {k : Nat} {N : List Str} {sc : Scope} {pos : Pos}
theorem PI.imp {tg it : Expr} {t t' : TI} (h : PI X tg it t) (i : ∀ σ H R, t' σ H R → t σ H R) : PI X tg it t' := ⟨fun pins s σ H R I q => h.run pins s σ H R I (i σ H R q)⟩
/-- the invariant is at hand where the iterator has come -/
theorem PI.inv {tg it : Expr} {t : TI} (h : PI X tg it t) : PI X tg it (fun σ H R => t σ H fun J H1 => ∀ pins s, Inv X pins σ H1 s → R J H1) :=
  ⟨fun pins s σ H R I q => thn (h.run pins s σ H _ I q) fun v s1 h1 => thn h1 fun itv s2 ⟨it, fp, tn, J, H', e, I2, T, st, f, r⟩ => ⟨it, fp, tn, J, H', e, I2, T, st, f, r pins s2 I2⟩⟩
theorem SrcOk.list {φ : Fi} {H : Hp} {S : Store} {n : Nat} {xs : List D} {a : Addr} (h : HRep Z φ S H) (e : lstOf S n = some xs) (ea : φ.ad n = some a) (hl : xs.length ≤ sizeLine) : SrcOk Z φ H ⟨xs, [(n, xs)]⟩ (Itl Z.K a) := by
  have key : ∀ (φ1 : Fi) (H1 : Hp) (S1 : Store), Grow Z.K φ H φ1 H1 → HRep Z φ1 S1 H1 → Src.live ⟨xs, [(n, xs)]⟩ S1 → ∃ vs, SqL Z.K H1 a vs ∧ RepL Z.K φ1 H1 xs vs := fun φ1 H1 S1 g h1 lv => by
    obtain ⟨b, vs, e1, e2, s1, r1⟩ := h1.sq (lv _ (List.mem_singleton.mpr rfl)) (v := .ref a) (by simp only [RepV]; exact ⟨a, g.pre n a ea, rfl⟩)
    cases e1
    exact ⟨vs, s1, r1⟩
  refine ⟨hl, fun i d φ1 H1 S1 g h1 lv ed => ?_, fun i φ1 H1 S1 g h1 lv hi => ?_⟩
  · obtain ⟨vs, s1, r1⟩ := key φ1 H1 S1 g h1 lv
    obtain ⟨v, e3, r3⟩ := r1.get ed
    refine ⟨⟨vs, v, s1, e3⟩, fun x H2 ⟨e4, y⟩ => ?_⟩
    subst e4
    have e5 := y vs s1
    rw [e3] at e5
    cases e5
    exact ⟨Grow.refl, h1, r3⟩
  · obtain ⟨vs, s1, r1⟩ := key φ1 H1 S1 g h1 lv
    exact ⟨vs, s1, by rw [r1.len]; exact hi⟩
theorem SrcOk.tup {φ : Fi} {H : Hp} {xs : List D} {vs : List V} {a : Addr} (t : SqT Z.K H a vs) (r : RepL Z.K φ H xs vs) (hl : xs.length ≤ sizeLine) : SrcOk Z φ H ⟨xs, []⟩ (Itt Z.K a) := by
  refine ⟨hl, fun i d φ1 H1 S1 g h1 lv ed => ?_, fun i φ1 H1 S1 g h1 lv hi => ?_⟩
  · obtain ⟨v, e3, r3⟩ := (r.grow g).get ed
    refine ⟨⟨vs, v, g.tup a vs t, e3⟩, fun x H2 ⟨e4, y⟩ => ?_⟩
    subst e4
    have e5 := y vs (g.tup a vs t)
    rw [e3] at e5
    cases e5
    exact ⟨Grow.refl, h1, r3⟩
  · exact ⟨vs, g.tup a vs t, by rw [r.len]; exact hi⟩
theorem SrcOk.text {φ : Fi} {H : Hp} {x : Str} (hl : x.cps.size ≤ sizeLine) : SrcOk Z φ H ⟨x.cps.toList.map fun c => .str ⟨#[c]⟩, []⟩ (Its x) := by
  refine ⟨by simpa using hl, fun i d φ1 H1 S1 g h1 lv ed => ?_, fun i φ1 H1 S1 g h1 lv hi => ?_⟩
  · simp only [List.getElem?_map, Option.map_eq_some_iff] at ed
    obtain ⟨c, e1, rfl⟩ := ed
    have e2 : x.cps[i]? = some c := by simpa using e1
    refine ⟨(Array.getElem?_eq_some_iff.mp e2).1, fun y H2 ⟨e4, c', e5, e6⟩ => ?_⟩
    subst e4
    rw [e2] at e5
    cases e5
    subst e6
    exact ⟨Grow.refl, h1, rStr⟩
  · exact show x.cps.size ≤ i by simpa using hi
theorem SrcOk.rng {φ : Fi} {H : Hp} {i j : Int} (hl : (j - i).toNat ≤ sizeLine) : SrcOk Z φ H ⟨rngItems i j, []⟩ (Itr i (j - i).toNat) := by
  refine ⟨by simpa [rngItems] using hl, fun m d φ1 H1 S1 g h1 lv ed => ?_, fun m φ1 H1 S1 g h1 lv hi => ?_⟩
  · simp only [rngItems, List.getElem?_map, Option.map_eq_some_iff] at ed
    obtain ⟨c, e1, rfl⟩ := ed
    have hm : m < (j - i).toNat := by have := (List.getElem?_eq_some_iff.mp e1).1; simpa using this
    have hc : c = m := by rw [List.getElem?_range hm] at e1; cases e1; rfl
    subst hc
    refine ⟨hm, fun y H2 ⟨e4, e5⟩ => ?_⟩
    subst e4 e5
    exact ⟨Grow.refl, h1, rInt⟩
  · exact show (j - i).toNat ≤ m by simpa only [rngItems, List.length_map, List.length_range] using hi
theorem ev_itE {tg e : Expr} {m : M D} (g : Gd X Z W P F G k N sc) (he : PE X e (tE Z W m)) : PI X tg e (tI Z W fun σ S => (m σ S).bind srcE) := by
  refine ⟨fun pins s σ H R I ⟨φ, S, σd, a, o⟩ => ?_⟩
  refine thn (he.run pins s σ H _ I ⟨φ, S, σd, a, o.bind (Rp := RepV Z.K)⟩) fun v s1 ⟨x, H1, I1, rx, φ1, S1, d, g1, h1, r1, o1⟩ => ?_
  unfold srcE at o1
  split at o1
  · split at o1
    · rename_i n xs e1
      obtain ⟨b, vs, rfl, eb, sq, rl⟩ := h1.sq e1 r1
      cases rx
      obtain ⟨us, rv, pl, hz⟩ := I1.list (by rw [g.K]; exact sq)
      refine wpAny_pyIter_list pl.isList ?_
      refine pi_one (tk := s1.toks) I1 _ (turn_list b _) ⟨_, Heap.get?_push_size _ rfl, rfl, rfl⟩ ?_
      rw [g.K]
      exact o1 φ1 H1 _ Grow.refl h1 (SrcOk.list h1 e1 eb (by rw [← rl.len]; exact hz))
    · exact o1.elim
  · rename_i xs
    obtain ⟨b, vs, rfl, t, rl⟩ := r1.tup_inv
    cases rx
    obtain ⟨us, rv, pl, hz⟩ := I1.tuple (by rw [g.K]; exact t)
    refine wpAny_pyIter_tuple (show s1.heap.IsTuple b us.toArray from pl) ?_
    refine pi_one (tk := s1.toks) I1 _ (turn_tuple b _) ⟨_, Heap.get?_push_size _ rfl, rfl, rfl⟩ ?_
    rw [g.K]
    exact o1 φ1 H1 _ Grow.refl h1 (SrcOk.tup t rl (by rw [← rl.len]; exact hz))
  · split at o1
    · rename_i x hl
      rw [r1.str_inv] at rx
      obtain ⟨t, rfl⟩ := rx
      have fin : R (Its x) H1 := o1 φ1 H1 _ Grow.refl h1 (SrcOk.text hl)
      cases ha : x.cps.all (· < 128) with
      | false => exact wpAny_pyIter_wide ha (pi_one (tk := s1.toks) I1 _ (turn_str _ x t "str_iterator" (.inr rfl)) ⟨_, Heap.get?_push_size _ rfl, rfl, rfl⟩ fin)
      | true => exact wpAny_pyIter_ascii ha (pi_one (tk := s1.toks) I1 _ (turn_str _ x t "str_ascii_iterator" (.inl rfl)) ⟨_, Heap.get?_push_size _ rfl, rfl, rfl⟩ fin)
    · exact o1.elim
  · exact o1.elim
theorem ev_rng {tg e : Expr} {p : Pos} {m : M D} (g : Gd X Z W P F G k N sc) (he : PE X e (tE Z W m)) (hs : notStar e = true) (hv : sc.names.lookup ("range" : Str) = some .globalImplicit) (hf : ("range" : Str) ∈ P.free) :
    PI X tg (.Call (.Name "range" p) [e] [] pos) (tI Z W fun σ S => (m σ S).bind fun x S1 => srcR (.int 0) x S1) := by
  refine PI.imp (pi_range1 (g.sees.gl _ hv) (g.free _ hf) (pa_cons he pa_nil (starEach_cons hs)) (starEach_cons hs)) fun σ H R ⟨φ, S, σd, a, o⟩ => ?_
  refine ⟨φ, S, σd, a, (o.bind (Rp := RepV Z.K)).mono ?_⟩
  rintro v H1 ⟨φ1, S1, d, g1, h1, r1, o1⟩
  unfold srcR at o1
  split at o1
  · rename_i i j e1
    cases e1
    split at o1
    · rename_i hc
      refine ⟨j, by rw [r1.int_inv], hc.2.2.1, hc.2.2.2.1, ?_⟩
      have e0 : (j - 0).toNat = j.toNat := by simp
      have q := o1 φ1 H1 _ Grow.refl h1 (SrcOk.rng (i := 0) (j := j) hc.2.2.2.2)
      rw [e0] at q
      exact q
    · exact o1.elim
  · exact o1.elim
theorem ev_rng2 {tg e e2 : Expr} {p : Pos} {m mb : M D} (g : Gd X Z W P F G k N sc) (he : PE X e (tE Z W m)) (he2 : PE X e2 (tE Z W mb)) (hs : notStar e = true) (hs2 : notStar e2 = true) (hv : sc.names.lookup ("range" : Str) = some .globalImplicit) (hf : ("range" : Str) ∈ P.free) :
    PI X tg (.Call (.Name "range" p) [e, e2] [] pos) (tI Z W fun σ S => (m σ S).bind fun x S1 => (mb σ S1).bind fun y S2 => srcR x y S2) := by
  refine PI.imp (pi_range2 (g.sees.gl _ hv) (g.free _ hf) (pa_cons he (pa_cons he2 pa_nil (starEach_cons hs2)) (starEach_cons hs)) (by rw [starEach_cons hs, starEach_cons hs2]; rfl) (starEach_cons hs2)) fun σ H R ⟨φ, S, σd, a, o⟩ => ?_
  refine ⟨φ, S, σd, a, (o.bind (Rp := RepV Z.K)).mono ?_⟩
  rintro v H1 ⟨φ1, S1, d, g1, h1, r1, o1⟩
  refine ⟨φ1, S1, σd, a.grow g1 h1, (o1.bind (Rp := RepV Z.K)).mono ?_⟩
  rintro v2 H2 ⟨φ2, S2, d2, g2, h2, r2, o2⟩
  unfold srcR at o2
  split at o2
  · split at o2
    · rename_i i j hc
      exact ⟨i, j, by rw [r1.int_inv, r2.int_inv], ⟨hc.1, hc.2.1, hc.2.2.1, hc.2.2.2.1⟩, o2 φ2 H2 _ Grow.refl h2 (SrcOk.rng hc.2.2.2.2)⟩
    · exact o2.elim
  · exact o2.elim
theorem enum_get {xs : List D} {i : Nat} {d : D} (h : (enumItems xs)[i]? = some d) : ∃ x, xs[i]? = some x ∧ d = .tup [.int (i : Nat), x] := by
  simp only [enumItems, List.getElem?_map, List.getElem?_zipIdx, Option.map_eq_some_iff] at h
  obtain ⟨p, ⟨x, e1, rfl⟩, rfl⟩ := h
  exact ⟨x, e1, by simp⟩
theorem SrcOk.enum {φ : Fi} {H : Hp} {S : Store} {n : Nat} {xs : List D} {a : Addr} (h : HRep Z φ S H) (e : lstOf S n = some xs) (ea : φ.ad n = some a) (hl : xs.length ≤ sizeLine) : SrcOk Z φ H ⟨enumItems xs, [(n, xs)]⟩ (Ite Z.K a) := by
  have key : ∀ (φ1 : Fi) (H1 : Hp) (S1 : Store), Grow Z.K φ H φ1 H1 → HRep Z φ1 S1 H1 → Src.live ⟨enumItems xs, [(n, xs)]⟩ S1 → ∃ vs, SqL Z.K H1 a vs ∧ RepL Z.K φ1 H1 xs vs := fun φ1 H1 S1 g h1 lv => by
    obtain ⟨b, vs, e1, e2, s1, r1⟩ := h1.sq (lv _ (List.mem_singleton.mpr rfl)) (v := .ref a) (by simp only [RepV]; exact ⟨a, g.pre n a ea, rfl⟩)
    cases e1
    exact ⟨vs, s1, r1⟩
  refine ⟨by simpa [enumItems] using hl, fun i d φ1 H1 S1 g h1 lv ed => ?_, fun i φ1 H1 S1 g h1 lv hi => ?_⟩
  · obtain ⟨vs, s1, r1⟩ := key φ1 H1 S1 g h1 lv
    obtain ⟨x, e2, rfl⟩ := enum_get ed
    obtain ⟨v, e3, r3⟩ := r1.get e2
    refine ⟨⟨vs, v, s1, e3⟩, fun y H2 ⟨T, u, e4, nT, e5, yy⟩ => ?_⟩
    subst e4 e5
    have e6 := yy vs s1
    rw [e3] at e6
    cases e6
    exact ⟨Grow.new nT, h1.new nT, rTup (SqT.of upd_same) (RepL.cons rInt (RepL.cons (r3.grow (Grow.new nT)) RepL.nil))⟩
  · obtain ⟨vs, s1, r1⟩ := key φ1 H1 S1 g h1 lv
    exact ⟨vs, s1, by rw [r1.len]; simpa [enumItems] using hi⟩
theorem ev_enum {e : Expr} {p tpos : Pos} {elts : List Expr} {kk : Nat} {m : M D} (g : Gd X Z W P F G k N sc) (he : PE X e (tE Z W m)) (hs : notStar e = true) (hv : sc.names.lookup ("enumerate" : Str) = some .globalImplicit) (hf : ("enumerate" : Str) ∈ P.free) :
    PI X (.Tuple elts kk tpos) (.Call (.Name "enumerate" p) [e] [] pos) (tI Z W fun σ S => (m σ S).bind srcEn) := by
  refine PI.imp (PI.inv (pi_enum (g.sees.gl _ hv) (g.free _ hf) (pa_cons he pa_nil (starEach_cons hs)) (starEach_cons hs))) fun σ H R ⟨φ, S, σd, a, o⟩ => ?_
  refine ⟨φ, S, σd, a, (o.bind (Rp := RepV Z.K)).mono ?_⟩
  rintro v H1 ⟨φ1, S1, d, g1, h1, r1, o1⟩
  unfold srcEn at o1
  split at o1
  · split at o1
    · rename_i n xs e1
      obtain ⟨b, vs, rfl, eb, sq, rl⟩ := h1.sq e1 r1
      have sq' : SqL X.K H1 b vs := by rw [g.K]; exact sq
      refine ⟨b, vs, rfl, sq', fun pins s I => ?_⟩
      obtain ⟨_, _, _, hz⟩ := I.list sq'
      rw [g.K]
      exact o1 φ1 H1 _ Grow.refl h1 (SrcOk.enum h1 e1 eb (by rw [← rl.len]; exact hz))
    · exact o1.elim
  · exact o1.elim
theorem zip_get {xs ys : List D} {i : Nat} {d : D} (h : (zipItems xs ys)[i]? = some d) : ∃ x y, xs[i]? = some x ∧ ys[i]? = some y ∧ d = .tup [x, y] := by
  simp only [zipItems, List.getElem?_map, Option.map_eq_some_iff] at h
  obtain ⟨p, e, rfl⟩ := h
  rw [List.getElem?_zip_eq_some] at e
  exact ⟨p.1, p.2, e.1, e.2, rfl⟩
theorem SrcOk.zipL {φ : Fi} {H : Hp} {S : Store} {n m : Nat} {xs ys : List D} {a b : Addr} (h : HRep Z φ S H) (ea : φ.ad n = some a) (eb : φ.ad m = some b) (hl : xs.length ≤ sizeLine) : SrcOk Z φ H ⟨zipItems xs ys, [(n, xs), (m, ys)]⟩ (Itz Z.K a b) := by
  have key : ∀ (φ1 : Fi) (H1 : Hp) (S1 : Store), Grow Z.K φ H φ1 H1 → HRep Z φ1 S1 H1 → Src.live ⟨zipItems xs ys, [(n, xs), (m, ys)]⟩ S1 → ∃ vs ws, SqL Z.K H1 a vs ∧ RepL Z.K φ1 H1 xs vs ∧ SqL Z.K H1 b ws ∧ RepL Z.K φ1 H1 ys ws := fun φ1 H1 S1 g h1 lv => by
    obtain ⟨c, vs, e1, e2, s1, r1⟩ := h1.sq (lv _ (List.mem_cons_self)) (v := .ref a) (by simp only [RepV]; exact ⟨a, g.pre n a ea, rfl⟩)
    cases e1
    obtain ⟨c, ws, e1, e2, s2, r2⟩ := h1.sq (lv _ (List.mem_cons_of_mem _ List.mem_cons_self)) (v := .ref b) (by simp only [RepV]; exact ⟨b, g.pre m b eb, rfl⟩)
    cases e1
    exact ⟨vs, ws, s1, r1, s2, r2⟩
  have hlen : (zipItems xs ys).length = min xs.length ys.length := by simp [zipItems]
  refine ⟨by show (zipItems xs ys).length ≤ _; rw [hlen]; omega, fun i d φ1 H1 S1 g h1 lv ed => ?_, fun i φ1 H1 S1 g h1 lv hi => ?_⟩
  · obtain ⟨vs, ws, s1, r1, s2, r2⟩ := key φ1 H1 S1 g h1 lv
    obtain ⟨x, y, e2, e3, rfl⟩ := zip_get ed
    obtain ⟨v, e4, r3⟩ := r1.get e2
    obtain ⟨w, e5, r4⟩ := r2.get e3
    refine ⟨⟨vs, ws, v, w, s1, s2, e4, e5⟩, fun z H2 ⟨T, u, t, e6, nT, e7, y1, y2⟩ => ?_⟩
    subst e6 e7
    have e8 := y1 vs s1
    have e9 := y2 ws s2
    rw [e4] at e8
    rw [e5] at e9
    cases e8
    cases e9
    exact ⟨Grow.new nT, h1.new nT, rTup (SqT.of upd_same) (RepL.cons (r3.grow (Grow.new nT)) (RepL.cons (r4.grow (Grow.new nT)) RepL.nil))⟩
  · obtain ⟨vs, ws, s1, r1, s2, r2⟩ := key φ1 H1 S1 g h1 lv
    refine ⟨vs, ws, s1, s2, ?_⟩
    have hi' : (zipItems xs ys).length ≤ i := hi
    rw [hlen] at hi'
    rw [r1.len, r2.len]
    omega
theorem SrcOk.zipT {φ : Fi} {H : Hp} {xs ys : List D} {vs ws : List V} {a b : Addr} (t1 : SqT Z.K H a vs) (r1 : RepL Z.K φ H xs vs) (t2 : SqT Z.K H b ws) (r2 : RepL Z.K φ H ys ws) (hl : xs.length ≤ sizeLine) : SrcOk Z φ H ⟨zipItems xs ys, []⟩ (RZ.ItzT Z.K a b) := by
  have hlen : (zipItems xs ys).length = min xs.length ys.length := by simp [zipItems]
  refine ⟨by show (zipItems xs ys).length ≤ _; rw [hlen]; omega, fun i d φ1 H1 S1 g h1 lv ed => ?_, fun i φ1 H1 S1 g h1 lv hi => ?_⟩
  · obtain ⟨x, y, e2, e3, rfl⟩ := zip_get ed
    obtain ⟨v, e4, r3⟩ := (r1.grow g).get e2
    obtain ⟨w, e5, r4⟩ := (r2.grow g).get e3
    refine ⟨⟨vs, ws, v, w, g.tup _ _ t1, g.tup _ _ t2, e4, e5⟩, fun z H2 ⟨T, u, t, e6, nT, e7, y1, y2⟩ => ?_⟩
    subst e6 e7
    have e8 := y1 vs (g.tup _ _ t1)
    have e9 := y2 ws (g.tup _ _ t2)
    rw [e4] at e8
    rw [e5] at e9
    cases e8
    cases e9
    exact ⟨Grow.new nT, h1.new nT, rTup (SqT.of upd_same) (RepL.cons (r3.grow (Grow.new nT)) (RepL.cons (r4.grow (Grow.new nT)) RepL.nil))⟩
  · refine ⟨vs, ws, g.tup _ _ t1, g.tup _ _ t2, ?_⟩
    have hi' : (zipItems xs ys).length ≤ i := hi
    rw [hlen] at hi'
    rw [r1.len, r2.len]
    omega
theorem ev_zip {e e2 : Expr} {p tpos : Pos} {elts : List Expr} {kk : Nat} {m mb : M D} (g : Gd X Z W P F G k N sc) (he : PE X e (tE Z W m)) (he2 : PE X e2 (tE Z W mb)) (hs : notStar e = true) (hs2 : notStar e2 = true) (hv : sc.names.lookup ("zip" : Str) = some .globalImplicit) (hf : ("zip" : Str) ∈ P.free) :
    PI X (.Tuple elts kk tpos) (.Call (.Name "zip" p) [e, e2] [] pos) (tI Z W fun σ S => (m σ S).bind fun x S1 => (mb σ S1).bind fun y S2 => srcZ x y S2) := by
  refine PI.imp (PI.inv (RZ.pi_zipA (g.sees.gl _ hv) (g.free _ hf) (pa_cons he (pa_cons he2 pa_nil (starEach_cons hs2)) (starEach_cons hs)) (starEach_cons hs) (starEach_any (by simp [hs2])))) fun σ H R ⟨φ, S, σd, a, o⟩ => ?_
  refine ⟨φ, S, σd, a, (o.bind (Rp := RepV Z.K)).mono ?_⟩
  rintro v H1 ⟨φ1, S1, d, g1, h1, r1, o1⟩
  refine ⟨φ1, S1, σd, a.grow g1 h1, (o1.bind (Rp := RepV Z.K)).mono ?_⟩
  rintro v2 H2 ⟨φ2, S2, d2, g2, h2, r2, o2⟩
  have r1' := r1.grow g2
  unfold srcZ at o2
  split at o2
  · split at o2
    · rename_i n m _ _ xs ys e1 e2
      obtain ⟨b, vs, rfl, eb, sq, rl⟩ := h2.sq e1 r1'
      obtain ⟨c, ws, rfl, ec, sq2, rl2⟩ := h2.sq e2 r2
      have sq' : SqL X.K H2 b vs := by rw [g.K]; exact sq
      refine ⟨b, c, vs, ws, rfl, .inl ⟨sq', by rw [g.K]; exact sq2, fun pins s I => ?_⟩⟩
      obtain ⟨_, _, _, hz⟩ := I.list sq'
      rw [g.K]
      exact o2 φ2 H2 _ Grow.refl h2 (SrcOk.zipL h2 eb ec (by rw [← rl.len]; exact hz))
    · exact o2.elim
  · rename_i xs ys
    obtain ⟨b, vs, rfl, t, rl⟩ := r1'.tup_inv
    obtain ⟨c, ws, rfl, t2, rl2⟩ := r2.tup_inv
    have t' : SqT X.K H2 b vs := by rw [g.K]; exact t
    refine ⟨b, c, vs, ws, rfl, .inr ⟨t', by rw [g.K]; exact t2, fun pins s I => ?_⟩⟩
    obtain ⟨_, _, _, hz⟩ := I.tuple t'
    rw [g.K]
    exact o2 φ2 H2 _ Grow.refl h2 (SrcOk.zipT t rl t2 rl2 (by rw [← rl.len]; exact hz))
  · exact o2.elim
end
end KD

/-! KdJ: targets; a comprehension's block; the comprehension. -/
namespace KD
open PySem L2
def tG (Z : Zn) (t : Tg) : TG := fun v σ H Q => ∃ φ S σd d σd', At Z φ S σd σ H ∧ RepV Z.K φ H d v ∧ asg t d σd = some σd' ∧ ∀ σ', At Z φ S σd' σ' H → Q σ' H
def tGs (Z : Zn) (is : List Nat) : TGs := fun vs σ H Q => ∃ φ S σd ds σd', At Z φ S σd σ H ∧ RepL Z.K φ H ds vs ∧ setAll is ds σd = some σd' ∧ ∀ σ', At Z φ S σd' σ' H → Q σ' H
/-- the names of a tuple target by their slots -/
def namesB (N : List Str) (sc : Scope) : List Nat → List Expr → Bool
  | [], [] => true
  | i :: is, .Name x _ :: es => decide (N[i]? = some x) && (decide (sc.names.lookup x = some .local) || decide (sc.names.lookup x = some .cell)) && namesB N sc is es
  | _, _ => false
def tgB (N : List Str) (sc : Scope) : Tg → Expr → Bool
  | .n i, .Name x _ => decide (N[i]? = some x) && (decide (sc.names.lookup x = some .local) || decide (sc.names.lookup x = some .cell))
  | .t is, .Tuple es _ _ => namesB N sc is es
  | _, _ => false
def Tg.slots : Tg → List Nat
  | .n i => [i]
  | .t is => is
section
variable {X : Cx} {Z : Zn} {W : WX} {P : Nm} {F : Nat → List D → Store → Rs D} {G : List D} {k : Nat} {N : List Str} {sc : Scope} {pos : Pos}
theorem PG.imp {tg : Expr} {t t' : TG} (h : PG X tg t) (i : ∀ v σ H Q, t' v σ H Q → t v σ H Q) : PG X tg t' := ⟨fun pins s σ H v u Q I r q => h.run pins s σ H v u Q I r (i v σ H Q q)⟩
theorem PGs.imp {tg : List Expr} {t t' : TGs} (h : PGs X tg t) (i : ∀ v σ H Q, t' v σ H Q → t v σ H Q) : PGs X tg t' := ⟨fun pins s σ H v u Q I r q => h.run pins s σ H v u Q I r (i v σ H Q q)⟩
theorem ev_name {i : Nat} {x : Str} (g : Gd X Z W P F G k N sc) (hi : N[i]? = some x) (hl : sc.names.lookup x = some .local ∨ sc.names.lookup x = some .cell) : PG X (.Name x pos) (gName i) := by
  obtain ⟨l1, l2⟩ := g.sees.loc x hl
  exact pg_name (by rw [g.nm]; exact g.nd) (by rw [g.nm]; exact hi) l1 l2
theorem ev_names (g : Gd X Z W P F G k N sc) : ∀ {is : List Nat} {es : List Expr}, namesB N sc is es = true → PGs X es (tGs Z is) ∧ (assignEach es X.env).length = is.length ∧ (assignEach es X.env).findIdx? (·.1) = none
  | [], [], _ => by
    refine ⟨PGs.imp pgs_nil fun vs σ H Q ⟨φ, S, σd, ds, σd', a, r, e, q⟩ => ?_, rfl, rfl⟩
    cases ds with
    | nil =>
      cases e
      exact ⟨r.nil_inv, q σ a⟩
    | cons d ds => cases e
  | i :: is, .Name x p :: es, h => by
    simp only [namesB, Bool.and_eq_true, decide_eq_true_eq, Bool.or_eq_true] at h
    obtain ⟨⟨h1, h2⟩, h3⟩ := h
    obtain ⟨q1, q2, q3⟩ := ev_names g h3
    refine ⟨PGs.imp (pgs_cons (ev_name g h1 h2) q1 rfl) fun vs σ H Q ⟨φ, S, σd, ds, σd', a, r, e, q⟩ => ?_, ?_, ?_⟩
    · cases ds with
      | nil => cases e
      | cons d ds =>
        obtain ⟨v, us, rfl, r1, r2⟩ := r.cons_inv
        exact ⟨v, us, rfl, φ, S, _, ds, σd', a.set r1, r2, e, q⟩
    · show (assignEach es X.env).length + 1 = is.length + 1
      rw [q2]
    · show ((false, assign (.Name x p) X.env) :: assignEach es X.env).findIdx? (·.1) = none
      rw [List.findIdx?_cons]
      simp [q3]
  | [], _ :: _, h => by cases h
  | _ :: _, [], h => by cases h
  | _ :: _, .BoolOp _ _ _ :: _, h => by cases h
  | _ :: _, .NamedExpr _ _ _ :: _, h => by cases h
  | _ :: _, .BinOp _ _ _ _ :: _, h => by cases h
  | _ :: _, .UnaryOp _ _ _ :: _, h => by cases h
  | _ :: _, .Lambda _ _ _ _ :: _, h => by cases h
  | _ :: _, .IfExp _ _ _ _ :: _, h => by cases h
  | _ :: _, .Dict _ _ _ :: _, h => by cases h
  | _ :: _, .Set _ _ _ :: _, h => by cases h
  | _ :: _, .ListComp _ _ _ _ :: _, h => by cases h
  | _ :: _, .SetComp _ _ _ _ :: _, h => by cases h
  | _ :: _, .DictComp _ _ _ _ _ :: _, h => by cases h
  | _ :: _, .GeneratorExp _ _ _ _ :: _, h => by cases h
  | _ :: _, .Await _ _ :: _, h => by cases h
  | _ :: _, .Yield _ _ :: _, h => by cases h
  | _ :: _, .YieldFrom _ _ :: _, h => by cases h
  | _ :: _, .Compare _ _ _ _ :: _, h => by cases h
  | _ :: _, .Call _ _ _ _ :: _, h => by cases h
  | _ :: _, .FormattedValue _ _ _ _ :: _, h => by cases h
  | _ :: _, .JoinedStr _ _ :: _, h => by cases h
  | _ :: _, .Constant _ _ _ :: _, h => by cases h
  | _ :: _, .Attribute _ _ _ :: _, h => by cases h
  | _ :: _, .Subscript _ _ _ :: _, h => by cases h
  | _ :: _, .Starred _ _ :: _, h => by cases h
  | _ :: _, .List _ _ :: _, h => by cases h
  | _ :: _, .Tuple _ _ _ :: _, h => by cases h
  | _ :: _, .Slice _ _ _ _ :: _, h => by cases h
theorem setAll_len : ∀ {is : List Nat} {ds : List D} {σ σ' : Lc}, setAll is ds σ = some σ' → ds.length = is.length
  | [], [], _, _, _ => rfl
  | _ :: is, _ :: ds, _, _, h => by simp [setAll_len (is := is) (ds := ds) h]
  | [], _ :: _, _, _, h => by cases h
  | _ :: _, [], _, _, h => by cases h
theorem ev_tg (g : Gd X Z W P F G k N sc) {t : Tg} {tg : Expr} (h : tgB N sc t tg = true) : PG X tg (tG Z t) := by
  unfold tgB at h
  split at h
  · simp only [Bool.and_eq_true, decide_eq_true_eq, Bool.or_eq_true] at h
    refine PG.imp (ev_name g h.1 h.2) fun v σ H Q ⟨φ, S, σd, d, σd', a, r, e, q⟩ => ?_
    cases e
    exact q _ (a.set r)
  · obtain ⟨q1, q2, q3⟩ := ev_names g h
    refine PG.imp (pg_tup g.calm q1 q2 q3) fun v σ H Q ⟨φ, S, σd, d, σd', a, r, e, q⟩ => ?_
    cases d with
    | tup ds =>
      obtain ⟨b, vs, rfl, t, rl⟩ := r.tup_inv
      exact ⟨b, vs, rfl, by rw [g.K]; exact t, by rw [rl.len]; exact setAll_len (show setAll _ ds σd = some σd' from e), φ, S, σd, ds, σd', a, rl, e, q⟩
    | _ => cases e
  · cases h

/-! ### the block -/
theorem lookup_mapk {f : Str → NameKind → NameKind} (x : Str) : ∀ l : List (Str × NameKind), (l.map fun p => (p.1, f p.1 p.2)).lookup x = (l.lookup x).map (f x)
  | [] => rfl
  | (n, kd) :: r => by
    simp only [List.map_cons, List.lookup_cons]
    cases e : x == n with
    | true => simp [eq_of_beq e]
    | false => exact lookup_mapk x r
theorem relabel_lookup (scope : Scope) (env : Env) (x : Str) : (relabel scope env).names.lookup x = (scope.names.lookup x).map fun kd => if (kd == NameKind.free && env.scope.kind == .function && env.kindOf x == some .cell) = true then NameKind.cell else kd := by
  have e : (relabel scope env).names = scope.names.map fun p => (p.1, if (p.2 == NameKind.free && env.scope.kind == .function && env.kindOf p.1 == some .cell) = true then NameKind.cell else p.2) := by
    unfold relabel
    refine List.map_congr_left fun p _ => ?_
    obtain ⟨n, kd⟩ := p
    simp only
    split <;> rfl
  exact (congrArg (fun l => List.lookup x l) e).trans (lookup_mapk (f := fun n kd => if (kd == NameKind.free && env.scope.kind == .function && env.kindOf n == some .cell) = true then NameKind.cell else kd) x scope.names)
theorem Sees.blk {s : Shared} {H : Hp} {scope : Scope} {cl : List (Str × Addr)} {C : Addr} {fp : List Addr} : Sees (X.blk s H scope (compEnvC scope cl C X.env) fp) scope where
  vis := fun x hx => by
    show Vis (relabel scope X.env) x
    unfold Vis
    rw [relabel_lookup]
    rcases hx with h | h | h
    · rw [h]; simp
    · rw [h]; simp
    · rw [h]; simp only [Option.map_some, Option.some.injEq]; split <;> simp
  loc := fun x hx => by
    have q : L2.Loc (relabel scope X.env) x := by
      unfold L2.Loc
      rw [relabel_lookup]
      rcases hx with h | h
      · rw [h]; simp
      · rw [h]; simp
    refine ⟨q, ?_⟩
    rcases hx with h | h
    · refine .inr ?_
      show (relabel scope X.env).names.lookup x = some .local
      rw [relabel_lookup, h]; simp
    · refine .inl ?_
      show (scope.names.lookup x == some .cell) = true
      rw [h]; rfl
  gl := fun x hx => by
    show (relabel scope X.env).names.lookup x = some .globalImplicit
    rw [relabel_lookup, hx]; simp
  cf := fun x hx => by
    show (relabel scope X.env).names.lookup x = some .cell ∨ (relabel scope X.env).names.lookup x = some .free
    rw [relabel_lookup]
    rcases hx with h | h
    · rw [h]; simp
    · rw [h]; simp only [Option.map_some, Option.some.injEq]; split <;> simp
abbrev W0 : WX := fun _ _ _ _ => False
theorem Gd.blk (g : Gd X Z W P F G k N sc) {s : Shared} {H : Hp} {scope : Scope} {cl : List (Str × Addr)} {C : Addr} {fp : List Addr} : Gd (X.blk s H scope (compEnvC scope cl C X.env) fp) Z W0 P F G k N scope :=
  ⟨g.K, g.nm, g.nd, g.calm, g.room, Sees.blk, g.free, g.glo, g.fns, g.fld, g.mth, g.mks, g.isi, takes0⟩
end
end KD

/-! KdK: the comprehension. -/
namespace KD
open PySem L2
theorem wipe_set {σ : St} {i : Nat} {x : Option V} : ∀ {vs : List Nat}, i ∈ vs → wipe (σ.set i x) vs = wipe σ vs
  | [], h => by simp at h
  | v :: vs, h => by
    unfold wipe
    by_cases hv : i = v
    · subst hv
      by_cases hm : i ∈ vs
      · rw [wipe_set hm]
      · have key : ∀ {ws : List Nat}, i ∉ ws → wipe (σ.set i x) ws = (wipe σ ws).set i x := fun {ws} hw => by
          induction ws with
          | nil => rfl
          | cons w ws ih =>
            simp only [List.mem_cons, not_or] at hw
            unfold wipe
            rw [ih hw.2, List.set_comm _ _ hw.1]
        rw [key hm, List.set_set]
    · rcases List.mem_cons.mp h with h | h
      · exact absurd h hv
      · rw [wipe_set h]
theorem wipe_wipe {σ : St} : ∀ {vs ws : List Nat}, (∀ v ∈ vs, v ∈ ws) → wipe (wipe σ vs) ws = wipe σ ws
  | [], _, _ => rfl
  | v :: vs, ws, h => by
    show wipe ((wipe σ vs).set v none) ws = wipe σ ws
    rw [wipe_set (h v List.mem_cons_self), wipe_wipe fun u hu => h u (List.mem_cons_of_mem _ hu)]
theorem wipeD_length (σ : Lc) : ∀ vs : List Nat, (wipeD σ vs).length = σ.length
  | [] => rfl
  | v :: vs => by unfold wipeD; rw [List.length_set, wipeD_length σ vs]
section
variable {Z : Zn} {φ : Fi} {S : Store} {σd : Lc} {σ : St} {H : Hp}
theorem At.wipe (a : At Z φ S σd σ H) : ∀ vs : List Nat, At Z φ S (wipeD σd vs) (wipe σ vs) H
  | [] => a
  | v :: vs => by
    have q := At.wipe a vs
    refine ⟨q.hp, by simp [wipeD, L2.wipe, q.ln], fun i d e => ?_⟩
    unfold wipeD at e
    unfold L2.wipe
    by_cases hv : v = i
    · subst hv
      have hl : v < (wipeD σd vs).length := by have := (List.getElem?_eq_some_iff.mp e).1; simpa using this
      rw [List.getElem?_set_self hl] at e
      cases e
    · rw [List.getElem?_set_ne hv] at e ⊢
      exact q.lc i d e
theorem setAll_wipe {vs : List Nat} : ∀ {is : List Nat} {ds : List D} {us : List V} {σd σd' : Lc} {σ : St}, (∀ i ∈ is, i ∈ vs) → At Z φ S σd σ H → RepL Z.K φ H ds us → setAll is ds σd = some σd' → ∃ σ', At Z φ S σd' σ' H ∧ wipe σ' vs = wipe σ vs
  | [], [], us, σd, σd', σ, _, a, r, e => by cases e; exact ⟨σ, a, rfl⟩
  | i :: is, d :: ds, _, σd, σd', σ, h, a, r, e => by
    obtain ⟨u, us, rfl, r1, r2⟩ := r.cons_inv
    obtain ⟨σ', a', w⟩ := setAll_wipe (is := is) (ds := ds) (fun j hj => h j (List.mem_cons_of_mem _ hj)) (a.set (i := i) r1) r2 e
    exact ⟨σ', a', by rw [w, wipe_set (h i List.mem_cons_self)]⟩
  | [], _ :: _, _, _, _, _, _, _, _, e => by cases e
  | _ :: _, [], _, _, _, _, _, _, _, e => by cases e
end

section
variable {X : Cx} {Z : Zn} {W : WX} {P : Nm} {F : Nat → List D → Store → Rs D} {G : List D} {k : Nat} {N : List Str} {sc : Scope} {pos : Pos}
/-- the target's reading that knows the slots -/
def tGw (Z : Zn) (t : Tg) (vs : List Nat) : TG := fun v σ H Q => ∃ φ S σd d σd', At Z φ S σd σ H ∧ RepV Z.K φ H d v ∧ asg t d σd = some σd' ∧ ∀ σ', At Z φ S σd' σ' H → wipe σ' vs = wipe σ vs → Q σ' H
theorem namesB_cons {i : Nat} {is : List Nat} {e : Expr} {es : List Expr} (h : namesB N sc (i :: is) (e :: es) = true) : ∃ x p, e = .Name x p ∧ N[i]? = some x ∧ (sc.names.lookup x = some .local ∨ sc.names.lookup x = some .cell) ∧ namesB N sc is es = true := by
  cases e with
  | Name x p =>
    simp only [namesB, Bool.and_eq_true, decide_eq_true_eq, Bool.or_eq_true] at h
    exact ⟨x, p, rfl, h.1.1, h.1.2, h.2⟩
  | _ => cases h
theorem ev_namesW (g : Gd X Z W P F G k N sc) {vs : List Nat} : ∀ {is : List Nat} {es : List Expr}, (∀ i ∈ is, i ∈ vs) → namesB N sc is es = true →
    PGs X es (fun us σ H Q => ∃ φ S σd ds σd', At Z φ S σd σ H ∧ RepL Z.K φ H ds us ∧ setAll is ds σd = some σd' ∧ ∀ σ', At Z φ S σd' σ' H → wipe σ' vs = wipe σ vs → Q σ' H)
  | [], [], _, _ => by
    refine PGs.imp pgs_nil fun us σ H Q ⟨φ, S, σd, ds, σd', a, r, e, q⟩ => ?_
    cases ds with
    | nil =>
      cases e
      exact ⟨r.nil_inv, q σ a rfl⟩
    | cons d ds => cases e
  | i :: is, ex :: es, hv, h => by
    obtain ⟨x, p, rfl, h1, h2, h3⟩ := namesB_cons h
    refine PGs.imp (pgs_cons (ev_name g h1 h2) (ev_namesW g (fun j hj => hv j (List.mem_cons_of_mem _ hj)) h3) rfl) fun us σ H Q ⟨φ, S, σd, ds, σd', a, r, e, q⟩ => ?_
    cases ds with
    | nil => cases e
    | cons d ds =>
      obtain ⟨v, ws, rfl, r1, r2⟩ := r.cons_inv
      refine ⟨v, ws, rfl, φ, S, _, ds, σd', a.set r1, r2, e, fun σ' a' w => q σ' a' ?_⟩
      rw [w, wipe_set (hv i List.mem_cons_self)]
  | [], _ :: _, _, h => by cases h
  | _ :: _, [], _, h => by cases h
theorem ev_tgW (g : Gd X Z W P F G k N sc) {vs : List Nat} {t : Tg} {tg : Expr} (hv : ∀ i ∈ t.slots, i ∈ vs) (h : tgB N sc t tg = true) : PG X tg (tGw Z t vs) := by
  unfold tgB at h
  split at h
  · simp only [Bool.and_eq_true, decide_eq_true_eq, Bool.or_eq_true] at h
    refine PG.imp (ev_name g h.1 h.2) fun v σ H Q ⟨φ, S, σd, d, σd', a, r, e, q⟩ => ?_
    cases e
    exact q _ (a.set r) (wipe_set (hv _ (List.mem_singleton.mpr rfl)))
  · obtain ⟨_, q2, q3⟩ := ev_names g h
    refine PG.imp (pg_tup g.calm (ev_namesW g hv h) q2 q3) fun v σ H Q ⟨φ, S, σd, d, σd', a, r, e, q⟩ => ?_
    cases d with
    | tup ds =>
      obtain ⟨b, us, rfl, t, rl⟩ := r.tup_inv
      exact ⟨b, us, rfl, by rw [g.K]; exact t, by rw [rl.len]; exact setAll_len (show setAll _ ds σd = some σd' from e), φ, S, σd, ds, σd', a, rl, e, q⟩
    | _ => cases e
  · cases h

/-- the comprehension's reading by its parts -/
theorem lc_read {tg : Tg} {mI : M Src} {mC : M Bool} {mE : M D} {vs : List Nat} {σ : St} {H : Hp} {Q : VK} (h : tE Z W (mLc tg mI mC mE vs) σ H Q) : tLc (tI Z W mI) (tGw Z tg vs) (tT Z W0 mC) (tE Z W0 mE) vs σ H Q := by
  obtain ⟨φ, S, σd, a, o⟩ := h
  refine ⟨φ, S, σd, a, (o.bind (Rp := SrcOk Z)).mono ?_⟩
  rintro J H1 ⟨φ1, S1, s, g1, h1, so, o1⟩ Dd hD
  have a1 := a.grow g1 h1
  have nD : ¬ φ1.own Dd := fun w => by
    obtain ⟨u, e, _⟩ := h1.owned w
    rw [hD] at e; cases e
  generalize hturn : lcTurn tg mC mE (wipeD σd vs) = turn at o1
  refine ⟨fun i m H' => m = s.items.length - i ∧ i ≤ s.items.length ∧ ∃ φ' S' acc us, Grow Z.K φ1 H1 φ' H' ∧ HRep Z φ' S' H' ∧ H' Dd = some (.lst us) ∧ ¬ φ'.own Dd ∧ RepL Z.K φ' H' acc us ∧ acc.length ≤ i ∧
    Out Z W (RepV Z.K) φ1 H1 σ ((lcGo s.live turn (s.items.drop i) S').bind fun ds S5 => .ok (.ref S5.length) (S5 ++ [.lst (acc ++ ds)])) Q,
    ⟨s.items.length, by simp, Nat.zero_le _, φ1, S1, [], [], Grow.new hD, h1.new hD, upd_same, nD, RepL.nil, Nat.le_refl _, by simpa using o1⟩, ?_⟩
  rintro i m H' ⟨rfl, hi, φ', S', acc, us, g', h', eD, nD', ra, la, o'⟩
  by_cases hlt : i < s.items.length
  · -- a turn
    refine .inr ?_
    have ed : s.items[i]? = some s.items[i] := List.getElem?_eq_getElem hlt
    have edr : s.items.drop i = s.items[i] :: s.items.drop (i + 1) := List.drop_eq_getElem_cons hlt
    rw [edr] at o'
    by_cases hlive : s.live S'
    · simp only [lcGo, if_pos hlive] at o'
      obtain ⟨go, yld⟩ := so.go i _ φ' H' S' g' h' hlive ed
      refine ⟨go, fun H'' => ∃ φ2 S2 acc2 us2, Grow Z.K φ1 H1 φ2 H'' ∧ HRep Z φ2 S2 H'' ∧ H'' Dd = some (.lst us2) ∧ ¬ φ2.own Dd ∧ RepL Z.K φ2 H'' acc2 us2 ∧ acc2.length ≤ i + 1 ∧
        Out Z W (RepV Z.K) φ1 H1 σ ((lcGo s.live turn (s.items.drop (i + 1)) S2).bind fun ds S5 => .ok (.ref S5.length) (S5 ++ [.lst (acc2 ++ ds)])) Q, fun H'' w => ⟨s.items.length - (i + 1), by omega, rfl, by omega, w⟩, fun x H2 y => ?_⟩
      obtain ⟨gy, hy, ry⟩ := yld x H2 y
      obtain ⟨eD2, nD2⟩ := gy.frm Dd _ eD nD'
      have aw : At Z φ' S' (wipeD σd vs) (wipe σ vs) H2 := At.wipe ((a1.grow g' h').grow gy hy) vs
      -- the turn's run
      have tv : ∀ r, lcTurn tg mC mE (wipeD σd vs) s.items[i] S' = r → Out Z W (RepV Z.K) φ1 H1 σ ((r.calm.bind fun o S1 => (lcGo s.live turn (s.items.drop (i + 1)) S1).bind fun ds S2 => .ok (o.toList ++ ds) S2).bind fun ds S5 => .ok (.ref S5.length) (S5 ++ [.lst (acc ++ ds)])) Q := fun r e => by
        rw [← e, hturn]; exact o'
      cases et : asg tg s.items[i] (wipeD σd vs) with
      | none => exact (tv .no (by simp [lcTurn, et])).elim
      | some σ2d =>
        refine ⟨φ', S', _, _, σ2d, aw, ry, et, fun σ2 a2 w2 => ⟨by rw [w2]; exact wipe_wipe fun v hv => hv, ?_⟩⟩
        refine ⟨φ', S', σ2d, a2, ?_⟩
        cases ec : mC σ2d S' with
        | no => exact (tv .no (by simp [lcTurn, et, ec])).elim
        | exc x1 S2 => exact (tv (.exc x1 S2) (by simp [lcTurn, et, ec])).elim
        | ok b S3 =>
          intro φ3 H3 c g3 h3 rc
          cases (show c = b from rc)
          obtain ⟨eD3, nD3⟩ := g3.frm Dd _ eD2 nD2
          have gg3 : Grow Z.K φ1 H1 φ3 H3 := (g'.trans gy).trans g3
          have ra3 := (ra.grow gy).grow g3
          cases b with
          | false =>
            have q := tv (.ok none S3) (by simp [lcTurn, et, ec])
            simp only [Bool.false_eq_true, if_false]
            refine ⟨φ3, S3, acc, us, gg3, h3, eD3, nD3, ra3, by omega, ?_⟩
            simp only [Rs.bind_ok, Rs.calm_ok] at q
            revert q
            cases lcGo s.live turn (s.items.drop (i + 1)) S3 with
            | ok ds S4 => intro q; simpa using q
            | exc x1 S4 => exact fun q => q
            | no => exact fun q => q
          | true =>
            simp only [if_true]
            refine ⟨φ3, S3, σ2d, a2.grow g3 h3, ?_⟩
            cases ee : mE σ2d S3 with
            | no => exact (tv .no (by simp [lcTurn, et, ec, ee])).elim
            | exc x1 S2 => exact (tv (.exc x1 S2) (by simp [lcTurn, et, ec, ee])).elim
            | ok d S4 =>
              have q := tv (.ok (some d) S4) (by simp [lcTurn, et, ec, ee])
              intro φ4 H4 v g4 h4 rv
              obtain ⟨eD4, nD4⟩ := g4.frm Dd _ eD3 nD3
              have gg4 := gg3.trans g4
              have ra4 := ra3.grow g4
              have hl4 := ra4.len
              have hsz := so.len
              refine ⟨us, eD4, by omega, ?_⟩
              have tm : ∀ b xs, SqT Z.K H4 b xs → SqT Z.K (upd H4 Dd (.lst (us ++ [v]))) b xs := fun b xs t => sqT_upd_mut eD4 trivial t
              refine ⟨φ4, S4, acc ++ [d], us ++ [v], ⟨gg4.pre', fun b xs t => tm b xs (gg4.tup b xs t), fun b u eb nb => ?_⟩, h4.side eD4 trivial nD4, upd_same, nD4, (ra4.append (RepL.cons rv RepL.nil)).grow' (fun _ _ e => e) tm, by simp; omega, ?_⟩
              · obtain ⟨q1, q2⟩ := gg4.frm b u eb nb
                exact ⟨by rw [upd_ne (ne_of_none eb hD)]; exact q1, q2⟩
              · simp only [Rs.bind_ok, Rs.calm_ok] at q
                revert q
                cases lcGo s.live turn (s.items.drop (i + 1)) S4 with
                | ok ds S5 => intro q; simpa using q
                | exc x1 S5 => exact fun q => q
                | no => exact fun q => q
    · simp only [lcGo, if_neg hlive] at o'
      exact o'.elim
  · -- the end
    refine .inl ?_
    have e : s.items.drop i = [] := List.drop_eq_nil_of_le (by omega)
    rw [e] at o'
    by_cases hlive : s.live S'
    · simp only [lcGo, if_pos hlive, Rs.bind_ok, List.append_nil] at o'
      refine ⟨so.stop i φ' H' S' g' h' hlive (by omega), ?_⟩
      have pr : ∀ (n : Nat) (q : Addr), φ'.ad n = some q → Fi.ad (φ' ++ [(Dd, true)]) n = some q := fun n q e => by
        obtain ⟨f, e1⟩ := Fi.of_ad e
        exact Fi.ad_of (get_left e1)
      refine o' (φ' ++ [(Dd, true)]) H' (.ref Dd) ⟨fun n q e => get_left (g'.pre' n q e), g'.tup, fun b u eb nb => ?_⟩ ?_ ?_
      · obtain ⟨q1, q2⟩ := g'.frm b u eb nb
        refine ⟨q1, fun w => ?_⟩
        rcases own_app w with w | w
        · exact q2 w
        · exact ne_of_none eb hD (Prod.mk.inj w).1.symm
      · refine HRep.adopt (o := .lst acc) h' eD nD' ⟨us, eD, ra.grow' pr fun _ _ t => t⟩ (.inr trivial) fun n o'' b e1 e2 => ?_
        have old := h'.obj n o'' b e1 e2
        cases o'' with
        | lst ds => obtain ⟨ws, q, r⟩ := old; exact ⟨ws, q, r.grow' pr fun _ _ t => t⟩
        | ro ds => obtain ⟨ws, q, r⟩ := old; exact ⟨ws, q, r.grow' pr fun _ _ t => t⟩
        | dic ds => obtain ⟨ws, q, r⟩ := old; exact ⟨ws, q, r.grow' pr fun _ _ t => t⟩
        | dicT ds => obtain ⟨ws, q, r⟩ := old; exact ⟨ws, q, r.grow' pr fun _ _ t => t⟩
        | ins c fs => obtain ⟨C, dx, ws, cc, q, r⟩ := old; exact ⟨C, dx, ws, cc, q, r.grow' pr fun _ _ t => t⟩
      · simp only [RepV]
        exact ⟨Dd, by rw [← h'.len]; simp [Fi.ad], rfl⟩
    · simp only [lcGo, if_neg hlive] at o'
      exact o'.elim
/-- the parts of a comprehension of the text -/
structure LcParts (X : Cx) (Z : Zn) (tg : Expr) (iter : Expr) (ifs : List Expr) (elt : Expr) (scope : Scope) (own : List (Str × Nat)) (t : Tg) (W : WX) (mI : M Src) (mC : M Bool) (mE : M D) : Prop where
  it : PI X tg iter (tI Z W mI)
  blk : BlkOk X.N X.env.scope scope own
  tgt : ∀ (s : Shared) (H : Hp) (C : Addr) (cl : List (Str × Addr)) (fp : List Addr), PG (X.blk s H scope (compEnvC scope cl C X.env) fp) tg (tGw Z t (own.map (·.2)))
  cnd : ∀ (s : Shared) (H : Hp) (C : Addr) (cl : List (Str × Addr)) (fp : List Addr), PTs (X.blk s H scope (compEnvC scope cl C X.env) fp) ifs (tT Z W0 mC)
  elt : ∀ (s : Shared) (H : Hp) (C : Addr) (cl : List (Str × Addr)) (fp : List Addr), PE (X.blk s H scope (compEnvC scope cl C X.env) fp) elt (tE Z W0 mE)
  fld : notSet iter = true
theorem ev_lc {tg iter elt : Expr} {ifs : List Expr} {scope : Scope} {own : List (Str × Nat)} {t : Tg} {mI : M Src} {mC : M Bool} {mE : M D} (g : Gd X Z W P F G k N sc) (p : LcParts X Z tg iter ifs elt scope own t W mI mC mE) :
    PE X (.ListComp elt [⟨tg, iter, ifs, 0⟩] scope pos) (tE Z W (mLc t mI mC mE (own.map (·.2)))) :=
  PE.imp (pe_lc g.calm (by rw [g.nm]; exact g.nd) p.it p.blk p.tgt p.cnd p.elt (fold_of p.fld)) fun _ _ _ h => lc_read h
end
end KD

/-! KdL: the look that an expression of the text is one of the own syntax, and that its run is then the text's. -/
namespace KD
open PySem L2
def visB (sc : Scope) (x : Str) : Bool := match sc.names.lookup x with
  | some .local => true
  | some .cell => true
  | some .free => true
  | _ => false
def glB (sc : Scope) (x : Str) : Bool := match sc.names.lookup x with
  | some .globalImplicit => true
  | _ => false
theorem visB_ok {sc : Scope} {x : Str} (h : visB sc x = true) : sc.names.lookup x = some .local ∨ sc.names.lookup x = some .cell ∨ sc.names.lookup x = some .free := by
  unfold visB at h
  split at h
  · exact .inl (by assumption)
  · exact .inr (.inl (by assumption))
  · exact .inr (.inr (by assumption))
  · cases h
theorem glB_ok {sc : Scope} {x : Str} (h : glB sc x = true) : sc.names.lookup x = some .globalImplicit := by
  unfold glB at h
  split at h
  · assumption
  · cases h
def kB : D → Const → Bool
  | .non, .none => true
  | .bl b, .bool c => b == c
  | .int i, .int j => decide (i = j)
  | .str x, .str y => decide (x = y)
  | _, _ => false
def isTup : Expr → Bool
  | .Tuple _ _ _ => true
  | _ => false
def memB (x : Str) (l : List Str) : Bool := l.any fun y => decide (y = x)
theorem memB_ok {x : Str} {l : List Str} (h : memB x l = true) : x ∈ l := by
  obtain ⟨y, h1, h2⟩ := List.any_eq_true.mp h
  rw [← of_decide_eq_true h2]; exact h1
def memF (c : Nat) (x : Str) (l : List (Nat × Str)) : Bool := l.any fun q => decide (q = (c, x))
theorem memF_ok {c : Nat} {x : Str} {l : List (Nat × Str)} (h : memF c x l = true) : (c, x) ∈ l := by
  obtain ⟨y, h1, h2⟩ := List.any_eq_true.mp h
  rw [← of_decide_eq_true h2]; exact h1
def ndb (x : Str) : Bool := !(x == ("__debug__" : Str))
theorem ndb_ok {x : Str} (h : ndb x = true) : (x == ("__debug__" : Str)) = false := by
  unfold ndb at h; simpa using h
def ownB (tg : Tg) (own : List (Str × Nat)) : Bool := tg.slots.all fun i => (own.map (·.2)).any fun j => decide (j = i)
theorem ownB_ok {tg : Tg} {own : List (Str × Nat)} (h : ownB tg own = true) : ∀ i ∈ tg.slots, i ∈ own.map (·.2) := fun i hi => by
  have q := List.all_eq_true.mp h i hi
  obtain ⟨j, h1, h2⟩ := List.any_eq_true.mp q
  rw [← of_decide_eq_true h2]; exact h1
section
variable (P : Nm) (N : List Str)
mutual
def chk : E → Scope → Expr → Bool
  | .stop, _, _ => true
  | .fld c x o, sc, a => match a with
    | .Attribute b y _ => decide (y = x) && memF c x P.fld && chk o sc b && noSuper b
    | _ => false
  | .meth i c f m o es, sc, a => match a with
    | .Call (.Attribute y x apos) as [] pos => decide (x = m) && decide (P.mth[i]? = some (c, m, f, es.len + 1)) && chk o sc y && chkL es sc as && noSuper y && (apos.endLine == pos.line) && decide (es.len < 30)
    | _ => false
  | .make i c f es, sc, a => match a with
    | .Call (.Name x _) as [] _ => decide (P.mks[i]? = some (x, c, f, es.len + 1)) && glB sc x && ndb x && chkL es sc as
    | _ => false
  | .isiC i us x, sc, a => match a with
    | .Call (.Name y _) [l, .Name z _] [] _ => decide (y = ("isinstance" : Str)) && decide (P.isi[i]? = some (z, us)) && glB sc "isinstance" && memB "isinstance" P.free && glB sc z && ndb z && chk x sc l && notStar l
    | _ => false
  | .v i, sc, a => match a with
    | .Name x _ => decide (N[i]? = some x) && visB sc x && ndb x && !(x == ("__classdict__" : Str))
    | _ => false
  | .k c, sc, a => match a with
    | .Constant q _ _ => kB c q
    | _ => false
  | .g i, sc, a => match a with
    | .Name x _ => decide (P.glo[i]? = some x) && glB sc x && ndb x
    | _ => false
  | .tup es, sc, a => match a with
    | .Tuple as _ _ => chkL es sc as && decide (es.len ≤ 1000)
    | _ => false
  | .lst es, sc, a => match a with
    | .List as _ => chkL es sc as && decide (es.len ≤ 1000)
    | _ => false
  | .op o x y, sc, a => match a with
    | .BinOp l q r _ => decide (o.py = q) && chk x sc l && chk y sc r
    | _ => false
  | .cmp o x y, sc, a => match a with
    | .Compare l [q] [r] _ => decide (o.py = q) && chk x sc l && chk y sc r && notSet r
    | _ => false
  | .chain o p x y z, sc, a => match a with
    | .Compare l [q, q'] [r, t] _ => decide (o.py = q) && decide (p.py = q') && chk x sc l && chk y sc r && chk z sc t && notSet t
    | _ => false
  | .neg x, sc, a => match a with
    | .UnaryOp .USub l _ => chk x sc l
    | _ => false
  | .not x, sc, a => match a with
    | .UnaryOp .Not l _ => chk x sc l
    | _ => false
  | .and es, sc, a => match a with
    | .BoolOp .And as _ => chkL es sc as
    | _ => false
  | .or es, sc, a => match a with
    | .BoolOp .Or as _ => chkL es sc as
    | _ => false
  | .ite t x y, sc, a => match a with
    | .IfExp c l r _ => chkT t sc c && chk x sc l && chk y sc r
    | _ => false
  | .ix x y, sc, a => match a with
    | .Subscript l r _ => chk x sc l && chk y sc r && notSlice r
    | _ => false
  | .sl x lo hi, sc, a => match a with
    | .Subscript l (.Slice lo' hi' none _) _ => chk x sc l && chkO lo sc lo' && chkO hi sc hi'
    | _ => false
  | .call f es, sc, a => match a with
    | .Call (.Name x _) as [] _ => decide (P.fns[f]? = some (x, es.len)) && glB sc x && ndb x && chkL es sc as
    | _ => false
  | .bi b es, sc, a => match a with
    | .Call (.Name x _) as [] _ => decide (x = b.name) && glB sc b.name && memB b.name P.free && chkL es sc as && decide (0 < es.len)
    | _ => false
  | .me m o es, sc, a => match a with
    | .Call (.Attribute y x apos) as [] pos => decide (x = m.name) && chk o sc y && chkL es sc as && noSuper y && (apos.endLine == pos.line) && decide (es.len < 30)
    | _ => false
  | .isi x t, sc, a => match a with
    | .Call (.Name y _) [l, .Name z _] [] _ => decide (y = ("isinstance" : Str)) && decide (z = t.name) && glB sc "isinstance" && glB sc t.name && memB "isinstance" P.free && memB t.name P.free && chk x sc l && notStar l
    | _ => false
  | .lc elt tg it c own, sc, a => match a with
    | .ListComp e [⟨tg', iter, ifs, 0⟩] scope _ => blkC N sc scope own && tgB N scope tg tg' && chkI it sc (isTup tg') iter && chkC c scope ifs && chk elt scope e && ownB tg own && notSet iter
    | _ => false
  | .dnew, sc, a => match a with
    | .Dict [] [] _ => true
    | _ => false
  | .dnewT, sc, a => match a with
    | .Dict [] [] _ => true
    | _ => false
def chkT : E → Scope → Expr → Bool
  | .fld c x o, sc, a => match a with
    | .Attribute b y _ => decide (y = x) && memF c x P.fld && chk o sc b && noSuper b
    | _ => false
  | .meth i c f m o es, sc, a => match a with
    | .Call (.Attribute y x apos) as [] pos => decide (x = m) && decide (P.mth[i]? = some (c, m, f, es.len + 1)) && chk o sc y && chkL es sc as && noSuper y && (apos.endLine == pos.line) && decide (es.len < 30)
    | _ => false
  | .isiC i us x, sc, a => match a with
    | .Call (.Name y _) [l, .Name z _] [] _ => decide (y = ("isinstance" : Str)) && decide (P.isi[i]? = some (z, us)) && glB sc "isinstance" && memB "isinstance" P.free && glB sc z && ndb z && chk x sc l && notStar l
    | _ => false
  | .not x, sc, a => match a with
    | .UnaryOp .Not l _ => chkT x sc l
    | _ => false
  | .and es, sc, a => match a with
    | .BoolOp .And as _ => chkTL es sc as
    | _ => false
  | .or es, sc, a => match a with
    | .BoolOp .Or as _ => chkTL es sc as
    | _ => false
  | .cmp o x y, sc, a => match a with
    | .Compare l [q] [r] _ => decide (o.py = q) && chk x sc l && chk y sc r && notSet r
    | _ => false
  | .chain o p x y z, sc, a => match a with
    | .Compare l [q, q'] [r, t] _ => decide (o.py = q) && decide (p.py = q') && chk x sc l && chk y sc r && chk z sc t && notSet t
    | _ => false
  | .v i, sc, a => match a with
    | .Name x _ => decide (N[i]? = some x) && visB sc x && ndb x && !(x == ("__classdict__" : Str))
    | _ => false
  | .g i, sc, a => match a with
    | .Name x _ => decide (P.glo[i]? = some x) && glB sc x && ndb x
    | _ => false
  | .ix x y, sc, a => match a with
    | .Subscript l r _ => chk x sc l && chk y sc r && notSlice r
    | _ => false
  | .call f es, sc, a => match a with
    | .Call (.Name x _) as [] _ => decide (P.fns[f]? = some (x, es.len)) && glB sc x && ndb x && chkL es sc as
    | _ => false
  | .bi b es, sc, a => match a with
    | .Call (.Name x _) as [] _ => decide (x = b.name) && glB sc b.name && memB b.name P.free && chkL es sc as && decide (0 < es.len)
    | _ => false
  | .isi x t, sc, a => match a with
    | .Call (.Name y _) [l, .Name z _] [] _ => decide (y = ("isinstance" : Str)) && decide (z = t.name) && glB sc "isinstance" && glB sc t.name && memB "isinstance" P.free && memB t.name P.free && chk x sc l && notStar l
    | _ => false
  | _, _, _ => false
def chkL : Es → Scope → List Expr → Bool
  | .nil, _, as => match as with
    | [] => true
    | _ => false
  | .cons e es, sc, as => match as with
    | a :: as => notStar a && chk e sc a && chkL es sc as
    | _ => false
def chkTL : Es → Scope → List Expr → Bool
  | .nil, _, as => match as with
    | [] => true
    | _ => false
  | .cons e es, sc, as => match as with
    | a :: as => chkT e sc a && chkTL es sc as
    | _ => false
def chkO : Eo → Scope → Option Expr → Bool
  | .no, _, a => match a with
    | none => true
    | _ => false
  | .so e, sc, a => match a with
    | some a => chk e sc a
    | _ => false
def chkC : Eo → Scope → List Expr → Bool
  | .no, _, a => match a with
    | [] => true
    | _ => false
  | .so e, sc, a => match a with
    | [a] => chkT e sc a
    | _ => false
def chkI : Ig → Scope → Bool → Expr → Bool
  | .e e, sc, _, a => chk e sc a
  | .rng x, sc, _, a => match a with
    | .Call (.Name y _) [l] [] _ => decide (y = ("range" : Str)) && glB sc "range" && memB "range" P.free && chk x sc l && notStar l
    | _ => false
  | .rng2 x z, sc, _, a => match a with
    | .Call (.Name y _) [l, r] [] _ => decide (y = ("range" : Str)) && glB sc "range" && memB "range" P.free && chk x sc l && notStar l && chk z sc r && notStar r
    | _ => false
  | .enum x, sc, t, a => match a with
    | .Call (.Name y _) [l] [] _ => t && decide (y = ("enumerate" : Str)) && glB sc "enumerate" && memB "enumerate" P.free && chk x sc l && notStar l
    | _ => false
  | .zip x z, sc, t, a => match a with
    | .Call (.Name y _) [l, r] [] _ => t && decide (y = ("zip" : Str)) && glB sc "zip" && memB "zip" P.free && chk x sc l && notStar l && chk z sc r && notStar r
    | _ => false
end
end
end KD

/-! KdM: an expression that the look takes runs as its plain run says. -/
namespace KD
open PySem L2
section
variable {Z : Zn} {P : Nm} {F : Nat → List D → Store → Rs D} {G : List D} {k : Nat} {N : List Str}
theorem denL_len : ∀ {es : Es} {σ : Lc} {S : Store} {ds : List D} {S' : Store}, denL F G es σ S = .ok ds S' → ds.length = es.len
  | .nil, _, _, _, _, h => by simp only [denL, mNil] at h; cases h; rfl
  | .cons e es, σ, S, ds, S', h => by
    simp only [denL, mCons] at h
    cases e1 : den F G e σ S with
    | no => rw [e1] at h; cases h
    | exc x S1 => rw [e1] at h; cases h
    | ok d S1 =>
      rw [e1] at h
      cases e2 : denL F G es σ S1 with
      | no => rw [Rs.bind_ok, e2] at h; cases h
      | exc x S2 => rw [Rs.bind_ok, e2] at h; cases h
      | ok ds2 S2 =>
        rw [Rs.bind_ok, e2] at h
        cases h
        simp [Es.len, denL_len e2]
theorem chkL_star : ∀ {es : Es} {sc : Scope} {as : List Expr}, chkL P N es sc as = true → as.all notStar = true
  | .nil, _, [], _ => rfl
  | .nil, _, _ :: _, h => by simp [chkL] at h
  | .cons e es, sc, [], h => by simp [chkL] at h
  | .cons e es, sc, a :: as, h => by
    simp only [chkL, Bool.and_eq_true] at h
    rw [List.all_cons, h.1.1, chkL_star h.2]; rfl
theorem chkL_len : ∀ {es : Es} {sc : Scope} {as : List Expr}, chkL P N es sc as = true → as.length = es.len
  | .nil, _, [], _ => rfl
  | .nil, _, _ :: _, h => by simp [chkL] at h
  | .cons e es, sc, [], h => by simp [chkL] at h
  | .cons e es, sc, a :: as, h => by
    simp only [chkL, Bool.and_eq_true] at h
    simp [Es.len, chkL_len h.2]
theorem chkL_nil {es : Es} {sc : Scope} (h : chkL P N es sc [] = true) : denL F G es = mNil := by
  cases es with
  | nil => rfl
  | cons e es => simp [chkL] at h
theorem blk_ok {X : Cx} {W : WX} {sc scope : Scope} {own : List (Str × Nat)} (g : Gd X Z W P F G k N sc) (h : blkC N sc scope own = true) : BlkOk X.N X.env.scope scope own := by
  have b := blkOk_by h
  exact ⟨b.kind, b.uniq, by rw [g.nm]; exact b.ix, fun y hy e => g.sees.cf _ (b.free y hy e), by rw [g.nm]; exact b.own⟩
theorem pts_no {X : Cx} {W : WX} : PTs X [] (tT Z W fun _ S => .ok true S) := ⟨fun pins s σ H Q I ⟨φ, S, σd, a, o⟩ => pts_nil.run pins s σ H Q I (o φ H _ Grow.refl a.hp rfl)⟩
theorem pts_so {X : Cx} {W : WX} {c : Expr} {m : M Bool} (h : PT X c (tT Z W m)) : PTs X [c] (tT Z W m) := pts_one h
mutual
theorem snd : ∀ (e : E) {X : Cx} {W : WX} {sc : Scope} (a : Expr), Gd X Z W P F G k N sc → chk P N e sc a = true → PE X a (tE Z W (den F G e))
  | .stop, X, W, sc, a, g, h => ev_stop
  | .fld c x o, X, W, sc, a, g, h => by
    unfold chk at h
    split at h
    · simp only [Bool.and_eq_true, decide_eq_true_eq] at h
      rw [h.1.1.1]
      exact ev_fld g (memF_ok h.1.1.2) (snd o _ g h.1.2) h.2
    · cases h
  | .meth i c f m o es, X, W, sc, a, g, h => by
    unfold chk at h
    split at h
    · simp only [Bool.and_eq_true, decide_eq_true_eq] at h
      rw [h.1.1.1.1.1.1]
      refine ev_meth g h.1.1.1.1.1.2 (snd o _ g h.1.1.1.1.2) (sndL es _ g h.1.1.1.2) (chkL_star h.1.1.1.2) h.1.1.2 h.1.2 (by rw [chkL_len h.1.1.1.2]; exact h.2) (fun σ S ds S' e => denL_len e) fun e => ?_
      have q := h.1.1.1.2
      rw [e] at q
      exact chkL_nil q
    · cases h
  | .make i c f es, X, W, sc, a, g, h => by
    unfold chk at h
    split at h
    · simp only [Bool.and_eq_true, decide_eq_true_eq] at h
      exact ev_make g h.1.1.1 (glB_ok h.1.1.2) (ndb_ok h.1.2) (sndL es _ g h.2) (chkL_star h.2) (fun σ S ds S' e => denL_len e) fun e => by
        have q := h.2
        rw [e] at q
        exact chkL_nil q
    · cases h
  | .isiC i us x, X, W, sc, a, g, h => by
    unfold chk at h
    split at h
    · simp only [Bool.and_eq_true, decide_eq_true_eq] at h
      rw [h.1.1.1.1.1.1.1]
      exact ev_isiC g h.1.1.1.1.1.1.2 (snd x _ g h.1.2) h.2 (glB_ok h.1.1.1.1.1.2) (memB_ok h.1.1.1.1.2) (glB_ok h.1.1.1.2) (ndb_ok h.1.1.2)
    · cases h
  | .v i, X, W, sc, a, g, h => by
    unfold chk at h
    split at h
    · simp only [Bool.and_eq_true, decide_eq_true_eq, Bool.not_eq_true'] at h
      exact ev_v g h.1.1.1 (visB_ok h.1.1.2) (ndb_ok h.1.2) h.2
    · cases h
  | .k c, X, W, sc, a, g, h => by
    unfold chk at h
    split at h
    · unfold kB at h
      split at h
      · exact ev_non
      · rw [eq_of_beq h]; exact ev_bl
      · rw [of_decide_eq_true h]; exact ev_int
      · rw [of_decide_eq_true h]; exact ev_str
      · cases h
    · cases h
  | .g i, X, W, sc, a, g, h => by
    unfold chk at h
    split at h
    · simp only [Bool.and_eq_true, decide_eq_true_eq] at h
      exact ev_g g h.1.1 (glB_ok h.1.2) (ndb_ok h.2)
    · cases h
  | .tup es, X, W, sc, a, g, h => by
    unfold chk at h
    split at h
    · simp only [Bool.and_eq_true, decide_eq_true_eq] at h
      exact ev_tup (sndL es _ g h.1) fun σ S ds S' e => by rw [denL_len e]; exact h.2
    · cases h
  | .lst es, X, W, sc, a, g, h => by
    unfold chk at h
    split at h
    · simp only [Bool.and_eq_true, decide_eq_true_eq] at h
      exact ev_lst (sndL es _ g h.1) fun σ S ds S' e => by rw [denL_len e]; exact h.2
    · cases h
  | .op o x y, X, W, sc, a, g, h => by
    unfold chk at h
    split at h
    · simp only [Bool.and_eq_true, decide_eq_true_eq] at h
      rw [← h.1.1]
      exact ev_op g o (snd x _ g h.1.2) (snd y _ g h.2)
    · cases h
  | .cmp o x y, X, W, sc, a, g, h => by
    unfold chk at h
    split at h
    · simp only [Bool.and_eq_true, decide_eq_true_eq] at h
      rw [← h.1.1.1]
      exact ev_cmp g o (snd x _ g h.1.1.2) (snd y _ g h.1.2) h.2
    · cases h
  | .chain o p x y z, X, W, sc, a, g, h => by
    unfold chk at h
    split at h
    · simp only [Bool.and_eq_true, decide_eq_true_eq] at h
      rw [← h.1.1.1.1.1, ← h.1.1.1.1.2]
      exact ev_chain g o p (snd x _ g h.1.1.1.2) (snd y _ g h.1.1.2) (snd z _ g h.1.2) h.2
    · cases h
  | .neg x, X, W, sc, a, g, h => by
    unfold chk at h
    split at h
    · exact ev_neg (snd x _ g h)
    · cases h
  | .not x, X, W, sc, a, g, h => by
    unfold chk at h
    split at h
    · exact ev_not (snd x _ g h)
    · cases h
  | .and es, X, W, sc, a, g, h => by
    unfold chk at h
    split at h
    · exact sndAnd es _ g h
    · cases h
  | .or es, X, W, sc, a, g, h => by
    unfold chk at h
    split at h
    · exact sndOr es _ g h
    · cases h
  | .ite t x y, X, W, sc, a, g, h => by
    unfold chk at h
    split at h
    · simp only [Bool.and_eq_true] at h
      exact ev_ite (sndT t _ g h.1.1) (snd x _ g h.1.2) (snd y _ g h.2)
    · cases h
  | .ix x y, X, W, sc, a, g, h => by
    unfold chk at h
    split at h
    · simp only [Bool.and_eq_true] at h
      exact ev_ix g (snd x _ g h.1.1) (snd y _ g h.1.2) h.2
    · cases h
  | .sl x lo hi, X, W, sc, a, g, h => by
    unfold chk at h
    split at h
    · simp only [Bool.and_eq_true] at h
      exact ev_sl g (snd x _ g h.1.1) (sndO lo _ g h.1.2) (sndO hi _ g h.2)
    · cases h
  | .call f es, X, W, sc, a, g, h => by
    unfold chk at h
    split at h
    · simp only [Bool.and_eq_true, decide_eq_true_eq] at h
      exact ev_call g h.1.1.1 (glB_ok h.1.1.2) (ndb_ok h.1.2) (sndL es _ g h.2) (chkL_star h.2) (fun σ S ds S' e => denL_len e) fun e => by
        have q := h.2
        rw [e] at q
        exact chkL_nil q
    · cases h
  | .bi b es, X, W, sc, a, g, h => by
    unfold chk at h
    split at h
    · simp only [Bool.and_eq_true, decide_eq_true_eq] at h
      rw [h.1.1.1.1]
      refine ev_bi g b (glB_ok h.1.1.1.2) (memB_ok h.1.1.2) (sndL es _ g h.1.2) (chkL_star h.1.2) fun e => ?_
      have q := chkL_len h.1.2
      rw [e] at q
      have q2 := h.2
      rw [← q] at q2
      exact absurd q2 (by simp)
    · cases h
  | .me m o es, X, W, sc, a, g, h => by
    unfold chk at h
    split at h
    · simp only [Bool.and_eq_true, decide_eq_true_eq] at h
      rw [h.1.1.1.1.1]
      refine ev_me g m (snd o _ g h.1.1.1.1.2) (sndL es _ g h.1.1.1.2) (chkL_star h.1.1.1.2) h.1.1.2 h.1.2 (by rw [chkL_len h.1.1.1.2]; exact h.2) fun e => ?_
      have q := h.1.1.1.2
      rw [e] at q
      exact chkL_nil q
    · cases h
  | .isi x t, X, W, sc, a, g, h => by
    unfold chk at h
    split at h
    · simp only [Bool.and_eq_true, decide_eq_true_eq] at h
      rw [h.1.1.1.1.1.1.1, h.1.1.1.1.1.1.2]
      exact ev_isi g t (snd x _ g h.1.2) h.2 (glB_ok h.1.1.1.1.1.2) (memB_ok h.1.1.1.2) (glB_ok h.1.1.1.1.2) (memB_ok h.1.1.2)
    · cases h
  | .lc elt tg it c own, X, W, sc, a, g, h => by
    unfold chk at h
    split at h
    · simp only [Bool.and_eq_true] at h
      exact ev_lc g ⟨sndI it _ _ g h.1.1.1.1.2, blk_ok g h.1.1.1.1.1.1, fun s H C cl fp => ev_tgW g.blk (ownB_ok h.1.2) h.1.1.1.1.1.2, fun s H C cl fp => sndC c _ g.blk h.1.1.1.2, fun s H C cl fp => snd elt _ g.blk h.1.1.2, h.2⟩
    · cases h
  | .dnew, X, W, sc, a, g, h => by
    unfold chk at h
    split at h
    · exact ev_dnew
    · cases h
  | .dnewT, X, W, sc, a, g, h => by
    unfold chk at h
    split at h
    · exact ev_dnewT
    · cases h
theorem sndT : ∀ (e : E) {X : Cx} {W : WX} {sc : Scope} (a : Expr), Gd X Z W P F G k N sc → chkT P N e sc a = true → PT X a (tT Z W (denT F G e))
  | .not x, X, W, sc, a, g, h => by
    unfold chkT at h
    split at h
    · exact ev_notT (sndT x _ g h)
    · cases h
  | .and es, X, W, sc, a, g, h => by
    unfold chkT at h
    split at h
    · exact (sndTA es _ g h).pt
    · cases h
  | .or es, X, W, sc, a, g, h => by
    unfold chkT at h
    split at h
    · exact (sndTO es _ g h).pt
    · cases h
  | .cmp o x y, X, W, sc, a, g, h => by
    unfold chkT at h
    split at h
    · simp only [Bool.and_eq_true, decide_eq_true_eq] at h
      rw [← h.1.1.1]
      exact ev_cmpT g o (snd x _ g h.1.1.2) (snd y _ g h.1.2) h.2
    · cases h
  | .chain o p x y z, X, W, sc, a, g, h => by
    unfold chkT at h
    split at h
    · simp only [Bool.and_eq_true, decide_eq_true_eq] at h
      rw [← h.1.1.1.1.1, ← h.1.1.1.1.2]
      exact ev_chainT g o p (snd x _ g h.1.1.1.2) (snd y _ g h.1.1.2) (snd z _ g h.1.2) h.2
    · cases h
  | .v i, X, W, sc, a, g, h => by
    unfold chkT at h
    split at h
    · simp only [Bool.and_eq_true, decide_eq_true_eq, Bool.not_eq_true'] at h
      exact ev_truth g (ev_v g h.1.1.1 (visB_ok h.1.1.2) (ndb_ok h.1.2) h.2) rfl
    · cases h
  | .g i, X, W, sc, a, g, h => by
    unfold chkT at h
    split at h
    · simp only [Bool.and_eq_true, decide_eq_true_eq] at h
      exact ev_truth g (ev_g g h.1.1 (glB_ok h.1.2) (ndb_ok h.2)) rfl
    · cases h
  | .ix x y, X, W, sc, a, g, h => by
    unfold chkT at h
    split at h
    · simp only [Bool.and_eq_true] at h
      exact ev_truth g (ev_ix g (snd x _ g h.1.1) (snd y _ g h.1.2) h.2) rfl
    · cases h
  | .call f es, X, W, sc, a, g, h => by
    unfold chkT at h
    split at h
    · simp only [Bool.and_eq_true, decide_eq_true_eq] at h
      exact ev_truth g (ev_call g h.1.1.1 (glB_ok h.1.1.2) (ndb_ok h.1.2) (sndL es _ g h.2) (chkL_star h.2) (fun σ S ds S' e => denL_len e) fun e => by
        have q := h.2
        rw [e] at q
        exact chkL_nil q) rfl
    · cases h
  | .bi b es, X, W, sc, a, g, h => by
    unfold chkT at h
    split at h
    · simp only [Bool.and_eq_true, decide_eq_true_eq] at h
      rw [h.1.1.1.1]
      refine ev_truth g (ev_bi g b (glB_ok h.1.1.1.2) (memB_ok h.1.1.2) (sndL es _ g h.1.2) (chkL_star h.1.2) fun e => ?_) rfl
      have q := chkL_len h.1.2
      rw [e] at q
      have q2 := h.2
      rw [← q] at q2
      exact absurd q2 (by simp)
    · cases h
  | .isi x t, X, W, sc, a, g, h => by
    unfold chkT at h
    split at h
    · simp only [Bool.and_eq_true, decide_eq_true_eq] at h
      rw [h.1.1.1.1.1.1.1, h.1.1.1.1.1.1.2]
      exact ev_truth g (ev_isi g t (snd x _ g h.1.2) h.2 (glB_ok h.1.1.1.1.1.2) (memB_ok h.1.1.1.2) (glB_ok h.1.1.1.1.2) (memB_ok h.1.1.2)) rfl
    · cases h
  | .stop, X, W, sc, a, g, h => by simp [chkT] at h
  | .make i c f es, X, W, sc, a, g, h => by simp [chkT] at h
  | .fld c x o, X, W, sc, a, g, h => by
    unfold chkT at h
    split at h
    · simp only [Bool.and_eq_true, decide_eq_true_eq] at h
      rw [h.1.1.1]
      exact ev_truth g (ev_fld g (memF_ok h.1.1.2) (snd o _ g h.1.2) h.2) rfl
    · cases h
  | .meth i c f m o es, X, W, sc, a, g, h => by
    unfold chkT at h
    split at h
    · simp only [Bool.and_eq_true, decide_eq_true_eq] at h
      rw [h.1.1.1.1.1.1]
      refine ev_truth g (ev_meth g h.1.1.1.1.1.2 (snd o _ g h.1.1.1.1.2) (sndL es _ g h.1.1.1.2) (chkL_star h.1.1.1.2) h.1.1.2 h.1.2 (by rw [chkL_len h.1.1.1.2]; exact h.2) (fun σ S ds S' e => denL_len e) fun e => ?_) rfl
      have q := h.1.1.1.2
      rw [e] at q
      exact chkL_nil q
    · cases h
  | .isiC i us x, X, W, sc, a, g, h => by
    unfold chkT at h
    split at h
    · simp only [Bool.and_eq_true, decide_eq_true_eq] at h
      rw [h.1.1.1.1.1.1.1]
      exact ev_truth g (ev_isiC g h.1.1.1.1.1.1.2 (snd x _ g h.1.2) h.2 (glB_ok h.1.1.1.1.1.2) (memB_ok h.1.1.1.1.2) (glB_ok h.1.1.1.2) (ndb_ok h.1.1.2)) rfl
    · cases h
  | .k c, X, W, sc, a, g, h => by simp [chkT] at h
  | .tup es, X, W, sc, a, g, h => by simp [chkT] at h
  | .lst es, X, W, sc, a, g, h => by simp [chkT] at h
  | .op o x y, X, W, sc, a, g, h => by simp [chkT] at h
  | .neg x, X, W, sc, a, g, h => by simp [chkT] at h
  | .ite t x y, X, W, sc, a, g, h => by simp [chkT] at h
  | .sl x lo hi, X, W, sc, a, g, h => by simp [chkT] at h
  | .me m o es, X, W, sc, a, g, h => by simp [chkT] at h
  | .lc elt tg it c own, X, W, sc, a, g, h => by simp [chkT] at h
  | .dnew, X, W, sc, a, g, h => by simp [chkT] at h
  | .dnewT, X, W, sc, a, g, h => by simp [chkT] at h
theorem sndL : ∀ (es : Es) {X : Cx} {W : WX} {sc : Scope} (as : List Expr), Gd X Z W P F G k N sc → chkL P N es sc as = true → PA X as (tA Z W (denL F G es))
  | .nil, X, W, sc, as, g, h => by
    unfold chkL at h
    split at h
    · exact ev_args_nil
    · cases h
  | .cons e es, X, W, sc, as, g, h => by
    unfold chkL at h
    split at h
    · simp only [Bool.and_eq_true] at h
      exact ev_args_cons (snd e _ g h.1.2) (sndL es _ g h.2) (starEach_cons h.1.1)
    · cases h
theorem sndO : ∀ (e : Eo) {X : Cx} {W : WX} {sc : Scope} (a : Option Expr), Gd X Z W P F G k N sc → chkO P N e sc a = true → PO X a (Tv Z W eqO (denO F G e))
  | .no, X, W, sc, a, g, h => by
    unfold chkO at h
    split at h
    · exact ev_o0
    · cases h
  | .so e, X, W, sc, a, g, h => by
    unfold chkO at h
    split at h
    · exact ev_o1 (snd e _ g h)
    · cases h
theorem sndC : ∀ (e : Eo) {X : Cx} {W : WX} {sc : Scope} (a : List Expr), Gd X Z W P F G k N sc → chkC P N e sc a = true → PTs X a (tT Z W (denC F G e))
  | .no, X, W, sc, a, g, h => by
    unfold chkC at h
    split at h
    · exact pts_no
    · cases h
  | .so e, X, W, sc, a, g, h => by
    unfold chkC at h
    split at h
    · exact pts_so (sndT e _ g h)
    · cases h
theorem sndI : ∀ (it : Ig) {X : Cx} {W : WX} {sc : Scope} (tg a : Expr), Gd X Z W P F G k N sc → chkI P N it sc (isTup tg) a = true → PI X tg a (tI Z W (denI F G it))
  | .e e, X, W, sc, tg, a, g, h => by
    unfold chkI at h
    exact ev_itE g (snd e _ g h)
  | .rng x, X, W, sc, tg, a, g, h => by
    unfold chkI at h
    split at h
    · simp only [Bool.and_eq_true, decide_eq_true_eq] at h
      rw [h.1.1.1.1]
      exact ev_rng g (snd x _ g h.1.2) h.2 (glB_ok h.1.1.1.2) (memB_ok h.1.1.2)
    · cases h
  | .rng2 x z, X, W, sc, tg, a, g, h => by
    unfold chkI at h
    split at h
    · simp only [Bool.and_eq_true, decide_eq_true_eq] at h
      rw [h.1.1.1.1.1.1]
      exact ev_rng2 g (snd x _ g h.1.1.1.2) (snd z _ g h.1.2) h.1.1.2 h.2 (glB_ok h.1.1.1.1.1.2) (memB_ok h.1.1.1.1.2)
    · cases h
  | .enum x, X, W, sc, tg, a, g, h => by
    unfold chkI at h
    split at h
    · simp only [Bool.and_eq_true, decide_eq_true_eq] at h
      rw [h.1.1.1.1.2]
      have t := h.1.1.1.1.1
      unfold isTup at t
      split at t
      · exact ev_enum g (snd x _ g h.1.2) h.2 (glB_ok h.1.1.1.2) (memB_ok h.1.1.2)
      · cases t
    · cases h
  | .zip x z, X, W, sc, tg, a, g, h => by
    unfold chkI at h
    split at h
    · simp only [Bool.and_eq_true, decide_eq_true_eq] at h
      rw [h.1.1.1.1.1.1.2]
      have t := h.1.1.1.1.1.1.1
      unfold isTup at t
      split at t
      · exact ev_zip g (snd x _ g h.1.1.1.2) (snd z _ g h.1.2) h.1.1.2 h.2 (glB_ok h.1.1.1.1.1.2) (memB_ok h.1.1.1.1.2)
      · cases t
    · cases h
theorem sndAnd : ∀ (es : Es) {X : Cx} {W : WX} {sc : Scope} {pos : Pos} (as : List Expr), Gd X Z W P F G k N sc → chkL P N es sc as = true → PE X (.BoolOp .And as pos) (tE Z W (denAnd F G es))
  | .nil, X, W, sc, pos, as, g, h => ⟨fun pins s σ H Q I ⟨φ, S, σd, a, o⟩ => (show False from o).elim⟩
  | .cons e .nil, X, W, sc, pos, as, g, h => by
    match as, h with
    | [a], h =>
      simp only [chkL, Bool.and_eq_true] at h
      exact ev_and1 (snd e _ g h.1.2)
    | [], h => simp [chkL] at h
    | _ :: _ :: _, h => simp [chkL] at h
  | .cons e (.cons e2 es), X, W, sc, pos, as, g, h => by
    match as, h with
    | a :: b :: as, h =>
      have h' := h
      rw [chkL] at h'
      simp only [Bool.and_eq_true] at h'
      exact ev_and2 (snd e _ g h'.1.2) (sndAnd (.cons e2 es) _ g h'.2)
    | [], h => simp [chkL] at h
    | [_], h => simp [chkL] at h
theorem sndOr : ∀ (es : Es) {X : Cx} {W : WX} {sc : Scope} {pos : Pos} (as : List Expr), Gd X Z W P F G k N sc → chkL P N es sc as = true → PE X (.BoolOp .Or as pos) (tE Z W (denOr F G es))
  | .nil, X, W, sc, pos, as, g, h => ⟨fun pins s σ H Q I ⟨φ, S, σd, a, o⟩ => (show False from o).elim⟩
  | .cons e .nil, X, W, sc, pos, as, g, h => by
    match as, h with
    | [a], h =>
      simp only [chkL, Bool.and_eq_true] at h
      exact ev_or1 (snd e _ g h.1.2)
    | [], h => simp [chkL] at h
    | _ :: _ :: _, h => simp [chkL] at h
  | .cons e (.cons e2 es), X, W, sc, pos, as, g, h => by
    match as, h with
    | a :: b :: as, h =>
      have h' := h
      rw [chkL] at h'
      simp only [Bool.and_eq_true] at h'
      exact ev_or2 (snd e _ g h'.1.2) (sndOr (.cons e2 es) _ g h'.2)
    | [], h => simp [chkL] at h
    | [_], h => simp [chkL] at h
theorem sndTA : ∀ (es : Es) {X : Cx} {W : WX} {sc : Scope} {pos : Pos} (as : List Expr), Gd X Z W P F G k N sc → chkTL P N es sc as = true → PW X (.BoolOp .And as pos) (tT Z W (denTA F G es))
  | .nil, X, W, sc, pos, as, g, h => ⟨fun wh pins s σ H Q I ⟨φ, S, σd, a, o⟩ => (show False from o).elim⟩
  | .cons e .nil, X, W, sc, pos, as, g, h => by
    match as, h with
    | [a], h =>
      simp only [chkTL, Bool.and_eq_true] at h
      exact pw_and1 (sndT e _ g h.1)
    | [], h => simp [chkTL] at h
    | _ :: _ :: _, h => simp [chkTL] at h
  | .cons e (.cons e2 es), X, W, sc, pos, as, g, h => by
    match as, h with
    | a :: b :: as, h =>
      have h' := h
      rw [chkTL] at h'
      simp only [Bool.and_eq_true] at h'
      exact ev_and2T (sndT e _ g h'.1) (sndTA (.cons e2 es) _ g h'.2)
    | [], h => simp [chkTL] at h
    | [_], h => simp [chkTL] at h
theorem sndTO : ∀ (es : Es) {X : Cx} {W : WX} {sc : Scope} {pos : Pos} (as : List Expr), Gd X Z W P F G k N sc → chkTL P N es sc as = true → PW X (.BoolOp .Or as pos) (tT Z W (denTO F G es))
  | .nil, X, W, sc, pos, as, g, h => ⟨fun wh pins s σ H Q I ⟨φ, S, σd, a, o⟩ => (show False from o).elim⟩
  | .cons e .nil, X, W, sc, pos, as, g, h => by
    match as, h with
    | [a], h =>
      simp only [chkTL, Bool.and_eq_true] at h
      exact pw_or1 (sndT e _ g h.1)
    | [], h => simp [chkTL] at h
    | _ :: _ :: _, h => simp [chkTL] at h
  | .cons e (.cons e2 es), X, W, sc, pos, as, g, h => by
    match as, h with
    | a :: b :: as, h =>
      have h' := h
      rw [chkTL] at h'
      simp only [Bool.and_eq_true] at h'
      exact ev_or2T (sndT e _ g h'.1) (sndTO (.cons e2 es) _ g h'.2)
    | [], h => simp [chkTL] at h
    | [_], h => simp [chkTL] at h
end
end
end KD

/-! KdN: statements: syntax, plain runs, each form by its parts. -/
namespace KD
open PySem L2
mutual
inductive Sm where
  | set (tg : Tg) (e : E) | setIx (o i e : E) | putT (o l e : E) | setFld (c : Nat) (x : Str) (o e : E) | ex (e : E) | ret (e : E) | ret0
  | ite (t : E) (a b : Sms) | for (tg : Tg) (it : Ig) (b : Sms) | while (n : Nat) (t : E) (b : Sms) | brk | cnt | pass | stop
inductive Sms where
  | nil | cons (s : Sm) (r : Sms)
end
/-- how a statement ends -/
inductive Fl where
  | nx (σ : Lc) (S : Store) | bk (σ : Lc) (S : Store) | ct (σ : Lc) (S : Store) | rt (d : D) (S : Store) | exc (x : Xc) (σ : Lc) (S : Store) | no
def Rs.fl {α : Type} (r : Rs α) (σ : Lc) (f : α → Store → Fl) : Fl := match r with
  | .ok a S => f a S
  | .exc x S => .exc x σ S
  | .no => .no
@[simp] theorem Rs.fl_ok {α : Type} {a : α} {S : Store} {σ : Lc} {f : α → Store → Fl} : (Rs.ok a S).fl σ f = f a S := rfl
@[simp] theorem Rs.fl_exc {α : Type} {x : Xc} {S : Store} {σ : Lc} {f : α → Store → Fl} : (Rs.exc x S : Rs α).fl σ f = .exc x σ S := rfl
@[simp] theorem Rs.fl_no {α : Type} {σ : Lc} {f : α → Store → Fl} : (Rs.no : Rs α).fl σ f = .no := rfl
def Fl.seq (r : Fl) (f : Lc → Store → Fl) : Fl := match r with
  | .nx σ S => f σ S
  | r => r
def Fl.loop (r : Fl) (f : Lc → Store → Fl) : Fl := match r with
  | .nx σ S => f σ S
  | .ct σ S => f σ S
  | .bk σ S => .nx σ S
  | r => r
@[simp] theorem Fl.seq_nx {σ : Lc} {S : Store} {f : Lc → Store → Fl} : (Fl.nx σ S).seq f = f σ S := rfl
@[simp] theorem Fl.seq_bk {σ : Lc} {S : Store} {f : Lc → Store → Fl} : (Fl.bk σ S).seq f = .bk σ S := rfl
@[simp] theorem Fl.seq_ct {σ : Lc} {S : Store} {f : Lc → Store → Fl} : (Fl.ct σ S).seq f = .ct σ S := rfl
@[simp] theorem Fl.seq_rt {d : D} {S : Store} {f : Lc → Store → Fl} : (Fl.rt d S).seq f = .rt d S := rfl
@[simp] theorem Fl.seq_exc {x : Xc} {σ : Lc} {S : Store} {f : Lc → Store → Fl} : (Fl.exc x σ S).seq f = .exc x σ S := rfl
@[simp] theorem Fl.seq_no {f : Lc → Store → Fl} : (Fl.no).seq f = .no := rfl
@[simp] theorem Fl.loop_nx {σ : Lc} {S : Store} {f : Lc → Store → Fl} : (Fl.nx σ S).loop f = f σ S := rfl
@[simp] theorem Fl.loop_bk {σ : Lc} {S : Store} {f : Lc → Store → Fl} : (Fl.bk σ S).loop f = .nx σ S := rfl
@[simp] theorem Fl.loop_ct {σ : Lc} {S : Store} {f : Lc → Store → Fl} : (Fl.ct σ S).loop f = f σ S := rfl
@[simp] theorem Fl.loop_rt {d : D} {S : Store} {f : Lc → Store → Fl} : (Fl.rt d S).loop f = .rt d S := rfl
@[simp] theorem Fl.loop_exc {x : Xc} {σ : Lc} {S : Store} {f : Lc → Store → Fl} : (Fl.exc x σ S).loop f = .exc x σ S := rfl
@[simp] theorem Fl.loop_no {f : Lc → Store → Fl} : (Fl.no).loop f = .no := rfl
open Classical in
noncomputable def forGo (live : Store → Prop) (tg : Tg) (body : Lc → Store → Fl) : List D → Lc → Store → Fl
  | [], σ, S => if live S then .nx σ S else .no
  | x :: r, σ, S => if live S then (match asg tg x σ with
    | some σ2 => (body σ2 S).loop (forGo live tg body r)
    | none => .no) else .no
def whGo (mt : M Bool) (body : Lc → Store → Fl) : Nat → Lc → Store → Fl
  | 0, _, _ => .no
  | n + 1, σ, S => (mt σ S).fl σ fun c S1 => if c then (body σ S1).loop (whGo mt body n) else .nx σ S1
/-- o[i] = v -/
def xSet (o i v : D) (S : Store) : Option Store := match o with
  | .ref n => match S[n]? with
    | some (.lst xs) => match i with
      | .int k => (ixN xs.length k).map fun j => S.set n (.lst (xs.set j v))
      | _ => none
    | some (.dic ps) => match keyD i with
      | some k => if ps.length < sizeLine then some (S.set n (.dic (putD ps k v))) else none
      | none => none
    | _ => none
  | _ => none
/-- d[tuple(l)] = v -/
def xPutT (o l v : D) (S : Store) : Option Store := match o, l with
  | .ref n, .ref m => match S[n]?, lstOf S m with
    | some (.dicT ps), some xs => match keysD xs with
      | some k => if ps.length < sizeLine then some (S.set n (.dicT (putD ps k v))) else none
      | none => none
    | _, _ => none
  | _, _ => none
def putFD (f : Str) (v : D) : List (Str × D) → List (Str × D)
  | [] => [(f, v)]
  | (g, x) :: r => if g = f then (g, v) :: r else (g, x) :: putFD f v r
theorem RepKV.putF {K : Frag} {φ : Fi} {H : Hp} {f : Str} {d : D} {v : V} (q : RepV K φ H d v) : ∀ {fs : List (Str × D)} {fvs : List (Str × V)}, RepKV K φ H fs fvs → RepKV K φ H (putFD f d fs) (putF f v fvs)
  | [], _, e => by cases (show _ = [] from e); exact ⟨v, [], rfl, q, rfl⟩
  | (y, d0) :: ps, _, ⟨u, r, rfl, h1, h2⟩ => by
    unfold putFD L2.putF
    by_cases h : y = f
    · rw [if_pos h, if_pos h]; exact ⟨v, r, rfl, q, h2⟩
    · rw [if_neg h, if_neg h]; exact ⟨u, _, rfl, h1, RepKV.putF q h2⟩
/-- o.x = v -/
def xFld (c : Nat) (x : Str) (o v : D) (S : Store) : Option Store := match o with
  | .ref n => match S[n]? with
    | some (.ins c' fs) => if c' = c ∧ fs.length < 1000 then some (S.set n (.ins c (putFD x v fs))) else none
    | _ => none
  | _ => none
mutual
noncomputable def denS (F : Nat → List D → Store → Rs D) (G : List D) : Sm → Lc → Store → Fl
  | .set tg e => fun σ S => (den F G e σ S).fl σ fun d S1 => match asg tg d σ with
    | some σ' => .nx σ' S1
    | none => .no
  | .setIx o i e => fun σ S => (den F G e σ S).fl σ fun v S1 => (den F G o σ S1).fl σ fun x S2 => (den F G i σ S2).fl σ fun y S3 => match xSet x y v S3 with
    | some S4 => .nx σ S4
    | none => .no
  | .putT o l e => fun σ S => (den F G e σ S).fl σ fun v S1 => (den F G o σ S1).fl σ fun x S2 => (den F G l σ S2).fl σ fun y S3 => match xPutT x y v S3 with
    | some S4 => .nx σ S4
    | none => .no
  | .setFld c f o e => fun σ S => (den F G e σ S).fl σ fun v S1 => (den F G o σ S1).fl σ fun x S2 => match xFld c f x v S2 with
    | some S3 => .nx σ S3
    | none => .no
  | .ex e => fun σ S => (den F G e σ S).fl σ fun _ S1 => .nx σ S1
  | .ret e => fun σ S => (den F G e σ S).fl σ fun d S1 => .rt d S1
  | .ret0 => fun _ S => .rt .non S
  | .ite t a b => fun σ S => (denT F G t σ S).fl σ fun c S1 => if c then denSs F G a σ S1 else denSs F G b σ S1
  | .for tg it b => fun σ S => (denI F G it σ S).fl σ fun s S1 => forGo s.live tg (denSs F G b) s.items σ S1
  | .while n t b => whGo (denT F G t) (denSs F G b) n
  | .brk => fun σ S => .bk σ S
  | .cnt => fun σ S => .ct σ S
  | .pass => fun σ S => .nx σ S
  | .stop => fun _ _ => .no
noncomputable def denSs (F : Nat → List D → Store → Rs D) (G : List D) : Sms → Lc → Store → Fl
  | .nil => fun σ S => .nx σ S
  | .cons s r => fun σ S => (denS F G s σ S).seq (denSs F G r)
end

def OutS (Z : Zn) (W : WX) (φ : Fi) (H : Hp) (r : Fl) (E : Ends) : Prop := match r with
  | .nx σd S => ∀ φ' H' σ, Grow Z.K φ H φ' H' → At Z φ' S σd σ H' → E.nx σ H'
  | .bk σd S => ∀ φ' H' σ, Grow Z.K φ H φ' H' → At Z φ' S σd σ H' → E.bk σ H'
  | .ct σd S => ∀ φ' H' σ, Grow Z.K φ H φ' H' → At Z φ' S σd σ H' → E.ct σ H'
  | .rt d S => ∀ φ' H' v, Grow Z.K φ H φ' H' → HRep Z φ' S H' → RepV Z.K φ' H' d v → E.rt v H'
  | .exc x σd S => ∀ φ' H' σ cls dx, Grow Z.K φ H φ' H' → At Z φ' S σd σ H' → ExcRep Z φ' H' x cls dx → W cls dx σ H'
  | .no => False
def tS (Z : Zn) (W : WX) (m : Lc → Store → Fl) : TS := fun E σ H => ∃ φ S σd, At Z φ S σd σ H ∧ OutS Z W φ H (m σd S) E
section
variable {Z : Zn} {W : WX} {φ φ' : Fi} {H H' : Hp} {E E' : Ends}
theorem OutS.grow {r : Fl} (h : OutS Z W φ H r E) (g : Grow Z.K φ H φ' H') : OutS Z W φ' H' r E := by
  cases r with
  | nx σ S => exact fun φ2 H2 σ g2 a => h φ2 H2 σ (g.trans g2) a
  | bk σ S => exact fun φ2 H2 σ g2 a => h φ2 H2 σ (g.trans g2) a
  | ct σ S => exact fun φ2 H2 σ g2 a => h φ2 H2 σ (g.trans g2) a
  | rt d S => exact fun φ2 H2 v g2 a r => h φ2 H2 v (g.trans g2) a r
  | exc x σ S => exact fun φ2 H2 σ c d g2 a r => h φ2 H2 σ c d (g.trans g2) a r
  | no => exact h
theorem OutS.fl {α β : Type} {Rp : Fi → Hp → α → β → Prop} {S : Store} {σd : Lc} {σ : St} {r : Rs α} {f : α → Store → Fl} (a : At Z φ S σd σ H) (h : OutS Z W φ H (r.fl σd f) E) :
    Out Z W Rp φ H σ r (fun v H1 => ∃ φ1 S1 d, Grow Z.K φ H φ1 H1 ∧ HRep Z φ1 S1 H1 ∧ Rp φ1 H1 d v ∧ OutS Z W φ1 H1 (f d S1) E) := by
  cases r with
  | ok d S1 => exact fun φ1 H1 v g hr rp => ⟨φ1, S1, d, g, hr, rp, OutS.grow (φ := φ) (H := H) h g⟩
  | exc x S1 => exact fun φ1 H1 c d g hr rp => h φ1 H1 σ c d g (a.grow g hr) rp
  | no => exact h
end

/-! ### forms -/
def notComp : Expr → Bool
  | .ListComp _ _ _ _ => false
  | .SetComp _ _ _ _ => false
  | .DictComp _ _ _ _ _ => false
  | _ => true
theorem swaps_of {e : Expr} {t : Option Expr} {l : Nat} {env : Env} (h : notComp e = true) : swapsWith e t l env = pure false := by
  cases e <;> first | rfl | cases h
section
variable {X : Cx} {Z : Zn} {W : WX} {P : Nm} {F : Nat → List D → Store → Rs D} {G : List D} {k : Nat} {N : List Str} {sc : Scope} {pos : Pos}
theorem st_nil : PSs X [] (tS Z W fun σ S => .nx σ S) := by
  refine PSs.imp pss_nil fun E σ H ⟨φ, S, σd, a, o⟩ => ?_
  exact o φ H σ Grow.refl a
theorem st_cons {st : Stmt} {rest : List Stmt} {m mr : Lc → Store → Fl} (h1 : PS X st (tS Z W m)) (h2 : PSs X rest (tS Z W mr)) : PSs X (st :: rest) (tS Z W fun σ S => (m σ S).seq mr) := by
  refine PSs.imp (pss_cons h1 h2) fun E σ H ⟨φ, S, σd, a, o⟩ => ⟨φ, S, σd, a, ?_⟩
  dsimp only at o
  cases e : m σd S with
  | nx σ2 S2 =>
    rw [e] at o
    exact fun φ2 H2 σ' g a2 => ⟨φ2, S2, σ2, a2, OutS.grow (φ := φ) (H := H) o g⟩
  | bk σ2 S2 => rw [e] at o; exact o
  | ct σ2 S2 => rw [e] at o; exact o
  | rt d S2 => rw [e] at o; exact o
  | exc x σ2 S2 => rw [e] at o; exact o
  | no => rw [e] at o; exact o
theorem st_ex {e : Expr} {m : M D} (he : PE X e (tE Z W m)) (hs : notComp e = true) : PS X (.Expr e pos) (tS Z W fun σ S => (m σ S).fl σ fun _ S1 => .nx σ S1) := by
  refine PS.imp (ps_expr he (swaps_of hs)) fun E σ H ⟨φ, S, σd, a, o⟩ => ⟨φ, S, σd, a, (OutS.fl (Rp := RepV Z.K) a o).mono ?_⟩
  rintro v H1 ⟨φ1, S1, d, g1, h1, r1, o1⟩
  exact o1 φ1 H1 σ Grow.refl (a.grow g1 h1)
theorem st_ret {e : Expr} {m : M D} (he : PE X e (tE Z W m)) : PS X (.Return (some e) pos) (tS Z W fun σ S => (m σ S).fl σ fun d S1 => .rt d S1) := by
  refine PS.imp (ps_ret he) fun E σ H ⟨φ, S, σd, a, o⟩ => ⟨φ, S, σd, a, (OutS.fl (Rp := RepV Z.K) a o).mono ?_⟩
  rintro v H1 ⟨φ1, S1, d, g1, h1, r1, o1⟩
  exact o1 φ1 H1 v Grow.refl h1 r1
theorem st_ret0 : PS X (.Return none pos) (tS Z W fun _ S => .rt .non S) := by
  refine PS.imp ps_retN fun E σ H ⟨φ, S, σd, a, o⟩ => ?_
  exact o φ H _ Grow.refl a.hp rNon
theorem st_pass : PS X (.Pass pos) (tS Z W fun σ S => .nx σ S) := by
  refine PS.imp ps_pass fun E σ H ⟨φ, S, σd, a, o⟩ => ?_
  exact o φ H σ Grow.refl a
theorem st_brk : PS X (.Break pos) (tS Z W fun σ S => .bk σ S) := by
  refine PS.imp ps_break fun E σ H ⟨φ, S, σd, a, o⟩ => ?_
  exact o φ H σ Grow.refl a
theorem st_cnt : PS X (.Continue pos) (tS Z W fun σ S => .ct σ S) := by
  refine PS.imp ps_continue fun E σ H ⟨φ, S, σd, a, o⟩ => ?_
  exact o φ H σ Grow.refl a
theorem st_stop {st : Stmt} : PS X st (tS Z W fun _ _ => .no) := ⟨fun pins s σ H E I ⟨φ, S, σd, a, o⟩ => (show False from o).elim⟩
theorem st_ite {t : Expr} {as bs : List Stmt} {mt : M Bool} {ma mb : Lc → Store → Fl} (ht : PT X t (tT Z W mt)) (ha : PSs X as (tS Z W ma)) (hb : PSs X bs (tS Z W mb)) :
    PS X (.If t as bs pos) (tS Z W fun σ S => (mt σ S).fl σ fun c S1 => if c then ma σ S1 else mb σ S1) := by
  refine PS.imp (ps_if ht ha hb) fun E σ H ⟨φ, S, σd, a, o⟩ => ⟨φ, S, σd, a, (OutS.fl (Rp := eqB) a o).mono ?_⟩
  rintro c H1 ⟨φ1, S1, d, g1, h1, r1, o1⟩
  cases (show c = d from r1)
  cases c with
  | true =>
    simp only [if_true] at o1 ⊢
    exact ⟨φ1, S1, σd, a.grow g1 h1, o1⟩
  | false =>
    simp only [Bool.false_eq_true, if_false] at o1 ⊢
    exact ⟨φ1, S1, σd, a.grow g1 h1, o1⟩
/-- the reading of an assignment to a target -/
theorem asg_read {m : M D} {t : Tg} {E : Ends} {σ : St} {H : Hp} (h : tS Z W (fun σ S => (m σ S).fl σ fun d S1 => match asg t d σ with
    | some σ' => .nx σ' S1
    | none => .no) E σ H) : tAsg (tE Z W m) (tG Z t) E σ H := by
  obtain ⟨φ, S, σd, a, o⟩ := h
  refine ⟨φ, S, σd, a, (OutS.fl (Rp := RepV Z.K) a o).mono ?_⟩
  rintro v H1 ⟨φ1, S1, d, g1, h1, r1, o1⟩
  cases e : asg t d σd with
  | none => rw [e] at o1; exact o1.elim
  | some σ' =>
    rw [e] at o1
    exact ⟨φ1, S1, σd, d, σ', a.grow g1 h1, r1, e, fun σ2 a2 => o1 φ1 H1 σ2 Grow.refl a2⟩
theorem asg_readN {m : M D} {i : Nat} {E : Ends} {σ : St} {H : Hp} (h : tS Z W (fun σ S => (m σ S).fl σ fun d S1 => match asg (.n i) d σ with
    | some σ' => .nx σ' S1
    | none => .no) E σ H) : tAsg (tE Z W m) (gName i) E σ H := by
  obtain ⟨φ, S, σd, a, o⟩ := h
  refine ⟨φ, S, σd, a, (OutS.fl (Rp := RepV Z.K) a o).mono ?_⟩
  rintro v H1 ⟨φ1, S1, d, g1, h1, r1, o1⟩
  exact o1 φ1 H1 _ Grow.refl ((a.grow g1 h1).set r1)
theorem st_name {e : Expr} {x : Str} {i : Nat} {p : Pos} {m : M D} (g : Gd X Z W P F G k N sc) (hi : N[i]? = some x) (hl : sc.names.lookup x = some .local ∨ sc.names.lookup x = some .cell) (he : PE X e (tE Z W m)) (hs : swapsWith e (some (.Name x p)) pos.line X.env = pure false) :
    PS X (.Assign [.Name x p] e pos) (tS Z W fun σ S => (m σ S).fl σ fun d S1 => match asg (.n i) d σ with
    | some σ' => .nx σ' S1
    | none => .no) := by
  obtain ⟨l1, l2⟩ := g.sees.loc x hl
  exact PS.imp (ps_set (by rw [g.nm]; exact g.nd) (by rw [g.nm]; exact hi) l1 he hs l2) fun E σ H h => asg_readN h
theorem st_nameLc {tg iter elt : Expr} {ifs : List Expr} {scope : Scope} {own : List (Str × Nat)} {t : Tg} {mI : M Src} {mC : M Bool} {mE : M D} {x : Str} {i : Nat} {p cpos : Pos} (g : Gd X Z W P F G k N sc) (hi : N[i]? = some x) (hl : X.env.scope.names.lookup x = some .local)
    (q : LcParts X Z tg iter ifs elt scope own t W mI mC mE) (hs : swapsWith (.ListComp elt [⟨tg, iter, ifs, 0⟩] scope cpos) (some (.Name x p)) pos.line X.env = pure true) :
    PS X (.Assign [.Name x p] (.ListComp elt [⟨tg, iter, ifs, 0⟩] scope cpos) pos) (tS Z W fun σ S => (mLc t mI mC mE (own.map (·.2)) σ S).fl σ fun d S1 => match asg (.n i) d σ with
    | some σ' => .nx σ' S1
    | none => .no) := by
  refine PS.imp (ps_setLc g.calm (by rw [g.nm]; exact g.nd) (by rw [g.nm]; exact hi) hl hs q.it q.blk q.tgt q.cnd q.elt (fold_of q.fld)) fun E σ H h => ?_
  exact lc_read (asg_readN h)
theorem st_tup {e : Expr} {es : List Expr} {j : Nat} {is : List Nat} {p : Pos} {m : M D} (g : Gd X Z W P F G k N sc) (ht : tgB N sc (.t is) (.Tuple es j p) = true) (he : PE X e (tE Z W m)) (hs : notComp e = true) (hn : isTup e = false) :
    PS X (.Assign [.Tuple es j p] e pos) (tS Z W fun σ S => (m σ S).fl σ fun d S1 => match asg (.t is) d σ with
    | some σ' => .nx σ' S1
    | none => .no) := by
  have h1 : swapsWithSole [.Tuple es j p] e pos.line X.env = pure false := by cases e <;> first | rfl | cases hs
  have h2 : swappedStores [.Tuple es j p] e X.env = pure none := by cases e <;> first | rfl | cases hn
  exact PS.imp (ps_asg he (ev_tg g ht) h1 h2 rfl) fun E σ H h => asg_read h
/-! ### stores to places -/
def rSetD : V → V → V → Hp → (Hp → Prop) → Prop := fun o i v H Q => ∃ a H', o = .ref a ∧ DPut H a i v H' ∧ Q H'
theorem set_dict (hu : X.A.units + 1 < cLine) : PSet X rSetD := by
  intro pins s σ H o i v ov iv u Q I ro ri rv ⟨a, H', e, g, q⟩
  subst e
  obtain rfl : ov = Value.ref a := ro
  exact d_setItem hu I g ri rv fun s4 I4 => ⟨H', I4, q⟩
def RDset (Z : Zn) (f : D → D → D → Store → Option Store) : V → V → V → Hp → (Hp → Prop) → Prop := fun o i v H Q => ∃ φ S x y z S', HRep Z φ S H ∧ RepV Z.K φ H x o ∧ RepV Z.K φ H y i ∧ RepV Z.K φ H z v ∧ f x y z S = some S' ∧
  ∀ H', Grow Z.K φ H φ H' → HRep Z φ S' H' → Q H'
theorem set_any (hu : X.A.units + 1 < cLine) : PSet X (RDset Z xSet) := by
  intro pins s σ H o i v ov iv u Q I ro ri rv ⟨φ, S, x, y, z, S', h, rx, ry, rz, e, q⟩
  unfold xSet at e
  split at e
  · split at e
    · rename_i n xs e1
      split at e
      · rename_i kk
        obtain ⟨j, ej, rfl⟩ := Option.map_eq_some_iff.mp e
        obtain ⟨a, vs, rfl, ea, hv, r3⟩ := h.lst e1 rx
        have gw : Grow Z.K φ H φ (upd H a (.lst (vs.set j v))) := Grow.write (h.own e1 rfl ea) hv trivial
        refine set_list pins s σ H _ i v ov iv u Q I ro ri rv ⟨a, vs, _, j, rfl, ry.int_inv, hv, by rw [r3.len]; exact ej, q _ gw (h.write e1 rfl ea rfl ⟨_, upd_same, (r3.set j rz).grow gw⟩)⟩
      · cases e
    · rename_i n ps e1
      split at e
      · rename_i kk ek
        split at e
        · rename_i hl
          cases e
          obtain ⟨a, kvs, rfl, ea, hv, r3⟩ := h.dic e1 rx
          have gw : Grow Z.K φ H φ (upd H a (.dK (putK kvs kk v))) := Grow.write (h.own e1 rfl ea) hv trivial
          refine set_dict hu pins s σ H _ i v ov iv u Q I ro ri rv ⟨a, _, rfl, ?_, q _ gw (h.write e1 rfl ea rfl ⟨_, upd_same, (r3.put kk rz).grow gw⟩)⟩
          rw [keyD_rep ek ry]
          exact DPut.k hv (by rw [r3.len]; exact hl)
        · cases e
      · cases e
    · cases e
  · cases e
theorem subs_of {o i e : Expr} {p : Pos} {l : Nat} {env : Env} : swapsWithSole [.Subscript o i p] e l env = pure false := by
  cases e <;> rfl
theorem assign_sub {o i : Expr} {p : Pos} {env : Env} (h : notSlice i = true) : ∀ v, assign (.Subscript o i p) env v = (do
      let ov ← holding [v] (eval o env)
      let iv ← holding [v, ov] (eval i env)
      standAt p
      holding [v, ov, iv] (setItem ov iv v)
      release [v, ov, iv] []) := fun v => by
  cases i <;> first | rfl | cases h
theorem st_setIx {o i e : Expr} {p : Pos} {mo mi me : M D} (g : Gd X Z W P F G k N sc) (ho : PE X o (tE Z W mo)) (hi : PE X i (tE Z W mi)) (he : PE X e (tE Z W me)) (hs : notSlice i = true) :
    PS X (.Assign [.Subscript o i p] e pos) (tS Z W fun σ S => (me σ S).fl σ fun v S1 => (mo σ S1).fl σ fun x S2 => (mi σ S2).fl σ fun y S3 => match xSet x y v S3 with
    | some S4 => .nx σ S4
    | none => .no) := by
  have hw : swappedStores [.Subscript o i p] e X.env = pure none := by cases e <;> rfl
  refine PS.imp (ps_asg he (pg_sub ho hi (set_any (Z := Z) (by have := g.units; omega)) (assign_sub hs)) subs_of hw rfl) fun E σ H ⟨φ, S, σd, a, o⟩ => ⟨φ, S, σd, a, (OutS.fl (Rp := RepV Z.K) a o).mono ?_⟩
  rintro v H1 ⟨φ1, S1, z, g1, h1, r1, o1⟩
  have a1 := a.grow g1 h1
  refine ⟨φ1, S1, σd, a1, (OutS.fl (Rp := RepV Z.K) a1 o1).mono ?_⟩
  rintro ov H2 ⟨φ2, S2, x, g2, h2, r2, o2⟩
  have a2 := a1.grow g2 h2
  refine ⟨φ2, S2, σd, a2, (OutS.fl (Rp := RepV Z.K) a2 o2).mono ?_⟩
  rintro iv H3 ⟨φ3, S3, y, g3, h3, r3, o3⟩
  cases e4 : xSet x y z S3 with
  | none => rw [e4] at o3; exact o3.elim
  | some S4 =>
    rw [e4] at o3
    exact ⟨φ3, S3, x, y, z, S4, h3, r2.grow g3, r3, (r1.grow g2).grow g3, e4, fun H4 g4 h4 => o3 φ3 H4 σ g4 ((a2.grow g3 h3).grow g4 h4)⟩
theorem st_setFld {o e : Expr} {p : Pos} {c : Nat} {f : Str} {mo me : M D} (g : Gd X Z W P F G k N sc) (hf : (c, f) ∈ P.fld) (ho : PE X o (tE Z W mo)) (he : PE X e (tE Z W me)) (hs : notComp e = true) :
    PS X (.Assign [.Attribute o f p] e pos) (tS Z W fun σ S => (me σ S).fl σ fun v S1 => (mo σ S1).fl σ fun x S2 => match xFld c f x v S2 with
    | some S3 => .nx σ S3
    | none => .no) := by
  refine PS.imp (ps_fld ho he (swaps_of hs)) fun E σ H ⟨φ, S, σd, a, o⟩ => ⟨φ, S, σd, a, (OutS.fl (Rp := RepV Z.K) a o).mono ?_⟩
  rintro v H1 ⟨φ1, S1, z, g1, h1, r1, o1⟩
  have a1 := a.grow g1 h1
  refine ⟨φ1, S1, σd, a1, (OutS.fl (Rp := RepV Z.K) a1 o1).mono ?_⟩
  rintro ov H2 ⟨φ2, S2, x, g2, h2, r2, o2⟩
  cases e4 : xFld c f x z S2 with
  | none => rw [e4] at o2; exact o2.elim
  | some S4 =>
    rw [e4] at o2
    unfold xFld at e4
    split at e4
    · split at e4
      · rename_i n c' fs e5
        split at e4
        · rename_i hc
          cases e4
          obtain ⟨rfl, hl⟩ := hc
          obtain ⟨b, C, dx, fvs, rfl, eb, q1, q2, q3⟩ := h2.ins e5 r2
          obtain ⟨f1, f2⟩ := g.fld c' f hf C q1
          have gw : Grow Z.K φ2 H2 φ2 (upd H2 b (.ins C dx (L2.putF f v fvs))) := Grow.write (h2.own e5 rfl eb) q2 trivial
          refine ⟨b, C, dx, fvs, rfl, q2, f1, f2, by rw [q3.len]; exact hl, o2 φ2 _ σ gw ((a1.grow g2 h2).grow gw ?_)⟩
          exact h2.write e5 rfl eb rfl ⟨C, dx, _, q1, upd_same, (RepKV.putF (r1.grow g2) q3).grow gw⟩
        · cases e4
      · cases e4
    · cases e4
theorem st_putT {o l e : Expr} {p p2 p3 : Pos} {mo ml me : M D} (g : Gd X Z W P F G k N sc) (ho : PE X o (tE Z W mo)) (hl : PE X l (tE Z W ml)) (he : PE X e (tE Z W me)) (hst : notStar l = true) (hs : notComp e = true) (hv : sc.names.lookup ("tuple" : Str) = some .globalImplicit) (hf : ("tuple" : Str) ∈ P.free) :
    PS X (.Assign [.Subscript o (.Call (.Name "tuple" p2) [l] [] p3) p] e pos) (tS Z W fun σ S => (me σ S).fl σ fun v S1 => (mo σ S1).fl σ fun x S2 => (ml σ S2).fl σ fun y S3 => match xPutT x y v S3 with
    | some S4 => .nx σ S4
    | none => .no) := by
  have hk : PE X (.Call (.Name "tuple" p2) [l] [] p3) _ := pe_callTy call_tuple_of (g.sees.gl _ hv) (g.free _ hf) PyProof.Rows.boot_tuple (pa_cons hl pa_nil (starEach_cons hst)) (by decide) (by decide) (starEach_cons hst) rfl
  refine PS.imp (ps_dput (by have := g.units; omega) ho hk he (swaps_of hs)) fun E σ H ⟨φ, S, σd, a, o⟩ => ⟨φ, S, σd, a, (OutS.fl (Rp := RepV Z.K) a o).mono ?_⟩
  rintro v H1 ⟨φ1, S1, z, g1, h1, r1, o1⟩
  have a1 := a.grow g1 h1
  refine ⟨φ1, S1, σd, a1, (OutS.fl (Rp := RepV Z.K) a1 o1).mono ?_⟩
  rintro ov H2 ⟨φ2, S2, x, g2, h2, r2, o2⟩
  have a2 := a1.grow g2 h2
  refine ⟨φ2, S2, σd, a2, (OutS.fl (Rp := RepV Z.K) a2 o2).mono ?_⟩
  rintro iv H3 ⟨φ3, S3, y, g3, h3, r3, o3⟩
  cases e4 : xPutT x y z S3 with
  | none => rw [e4] at o3; exact o3.elim
  | some S4 =>
    rw [e4] at o3
    unfold xPutT at e4
    split at e4
    · split at e4
      · rename_i n m _ _ ps xs e5 e6
        split at e4
        · rename_i kk e7
          split at e4
          · rename_i hl
            cases e4
            have rx := r2.grow g3
            have rz := (r1.grow g2).grow g3
            obtain ⟨b, kvs, rfl, eb, hv, r4⟩ := h3.dicT e5 rx
            obtain ⟨c, vs, rfl, ec, sq, rl⟩ := h3.sq e6 r3
            rw [keysD_rep e7 rl] at sq
            refine ⟨c, _, rfl, .inl ⟨by rw [g.K]; exact sq, fun q hq => ?_⟩⟩
            have gn : Grow Z.K φ3 H3 φ3 (upd H3 q (.tup (kk.map kV))) := Grow.new hq
            have hn := h3.new (u := .tup (kk.map kV)) hq
            have hv' : upd H3 q (.tup (kk.map kV)) b = some (.dT kvs) := by rw [upd_ne (ne_of_none hv hq)]; exact hv
            refine ⟨b, _, rfl, DPut.t (k := kk) (b := q) (v := v) hv' upd_same (by rw [r4.len]; exact hl), ?_⟩
            have gw : Grow Z.K φ3 (upd H3 q (.tup (kk.map kV))) φ3 (upd (upd H3 q (.tup (kk.map kV))) b (.dT (putK kvs kk v))) := Grow.write (h3.own e5 rfl eb) hv' trivial
            have hw : HRep Z φ3 (S3.set n (.dicT (putD ps kk z))) _ := hn.write e5 rfl eb rfl ⟨_, upd_same, ((r4.grow gn).put kk (rz.grow gn)).grow gw⟩
            exact o3 φ3 _ σ (gn.trans gw) ((a2.grow g3 h3).grow (gn.trans gw) hw)
          · cases e4
        · cases e4
      · cases e4
    · cases e4
/-! ### loops -/
theorem st_for {tg iter : Expr} {body : List Stmt} {t : Tg} {mI : M Src} {mb : Lc → Store → Fl} (g : Gd X Z W P F G k N sc) (hp : PassesOwn (model X.prog X.w) X.A X.env X.xe) (hi : PI X tg iter (tI Z W mI)) (hg : PG X tg (tG Z t)) (hb : PSs X body (tS Z W mb)) (hs : notSet iter = true) :
    PS X (.For tg iter body [] pos) (tS Z W fun σ S => (mI σ S).fl σ fun s S1 => forGo s.live t mb s.items σ S1) := by
  refine PS.imp (ps_for hp g.calm hi hg hb (fold_of hs)) fun E σ H ⟨φ, S, σd, a, o⟩ => ⟨φ, S, σd, a, (OutS.fl (Rp := SrcOk Z) a o).mono ?_⟩
  rintro J H1 ⟨φ1, S1, s, g1, h1, so, o1⟩
  refine ⟨fun i m σ' H' => m = s.items.length - i ∧ i ≤ s.items.length ∧ ∃ φ' S' σd', Grow Z.K φ1 H1 φ' H' ∧ At Z φ' S' σd' σ' H' ∧ OutS Z W φ' H' (forGo s.live t mb (s.items.drop i) σd' S') E,
    ⟨s.items.length, by simp, Nat.zero_le _, φ1, S1, σd, Grow.refl, a.grow g1 h1, by simpa using o1⟩, ?_⟩
  rintro i m σ' H' ⟨rfl, hi, φ', S', σd', g', a', o'⟩
  by_cases hlt : i < s.items.length
  · refine .inr ?_
    have ed : s.items[i]? = some s.items[i] := List.getElem?_eq_getElem hlt
    rw [List.drop_eq_getElem_cons hlt] at o'
    by_cases hlive : s.live S'
    · simp only [forGo, if_pos hlive] at o'
      obtain ⟨go, yld⟩ := so.go i _ φ' H' S' g' a'.hp hlive ed
      refine ⟨go, fun σ'' H'' => ∃ φ2 S2 σd2, Grow Z.K φ1 H1 φ2 H'' ∧ At Z φ2 S2 σd2 σ'' H'' ∧ OutS Z W φ2 H'' (forGo s.live t mb (s.items.drop (i + 1)) σd2 S2) E, fun σ'' H'' w => ⟨s.items.length - (i + 1), by omega, rfl, by omega, w⟩, fun x H2 y => ?_⟩
      obtain ⟨gy, hy, ry⟩ := yld x H2 y
      cases et : asg t s.items[i] σd' with
      | none => rw [et] at o'; exact o'.elim
      | some σ2d =>
        rw [et] at o'
        refine ⟨φ', S', σd', _, σ2d, a'.grow gy hy, ry, et, fun σ2 a2 => ⟨φ', S', σ2d, a2, ?_⟩⟩
        have og := OutS.grow o' gy
        have gg := g'.trans gy
        simp only at og
        cases eb : mb σ2d S' with
        | nx σ3 S3 =>
          rw [eb] at og
          exact fun φ3 H3 σ4 g3 a3 => ⟨φ3, S3, σ3, gg.trans g3, a3, OutS.grow og g3⟩
        | ct σ3 S3 =>
          rw [eb] at og
          exact fun φ3 H3 σ4 g3 a3 => ⟨φ3, S3, σ3, gg.trans g3, a3, OutS.grow og g3⟩
        | bk σ3 S3 => rw [eb] at og; exact og
        | rt d S3 => rw [eb] at og; exact og
        | exc x σ3 S3 => rw [eb] at og; exact og
        | no => rw [eb] at og; exact og
    · simp only [forGo, if_neg hlive] at o'
      exact o'.elim
  · refine .inl ?_
    have e : s.items.drop i = [] := List.drop_eq_nil_of_le (by omega)
    rw [e] at o'
    by_cases hlive : s.live S'
    · simp only [forGo, if_pos hlive] at o'
      exact ⟨so.stop i φ' H' S' g' a'.hp hlive (by omega), o' φ' H' σ' Grow.refl a'⟩
    · simp only [forGo, if_neg hlive] at o'
      exact o'.elim
theorem st_while {t : Expr} {body : List Stmt} {n : Nat} {mt : M Bool} {mb : Lc → Store → Fl} (hp : PassesOwn (model X.prog X.w) X.A X.env X.xe) (ht : PT X t (tT Z W mt)) (hb : PSs X body (tS Z W mb)) : PS X (.While t body [] pos) (tS Z W (whGo mt mb n)) := by
  refine PS.imp (ps_while hp ht hb) fun E σ H ⟨φ, S, σd, a, o⟩ => ?_
  refine ⟨fun m σ' H' => ∃ φ' S' σd', At Z φ' S' σd' σ' H' ∧ OutS Z W φ' H' (whGo mt mb m σd' S') E, ⟨n, φ, S, σd, a, o⟩, ?_⟩
  rintro m σ' H' ⟨φ', S', σd', a', o'⟩
  cases m with
  | zero => exact o'.elim
  | succ m =>
    refine ⟨φ', S', σd', a', (OutS.fl (Rp := eqB) a' o').mono ?_⟩
    rintro c H1 ⟨φ1, S1, d, g1, h1, r1, o1⟩
    cases (show c = d from r1)
    have a1 := a'.grow g1 h1
    cases c with
    | false =>
      simp only [Bool.false_eq_true, if_false] at o1 ⊢
      exact o1 φ1 H1 σ' Grow.refl a1
    | true =>
      simp only [if_true] at o1 ⊢
      refine ⟨fun σ'' H'' => ∃ φ2 S2 σd2, At Z φ2 S2 σd2 σ'' H'' ∧ OutS Z W φ2 H'' (whGo mt mb m σd2 S2) E, fun σ'' H'' w => ⟨m, Nat.lt_succ_self m, w⟩, φ1, S1, σd', a1, ?_⟩
      cases eb : mb σd' S1 with
      | nx σ3 S3 =>
        rw [eb] at o1
        exact fun φ3 H3 σ4 g3 a3 => ⟨φ3, S3, σ3, a3, OutS.grow o1 g3⟩
      | ct σ3 S3 =>
        rw [eb] at o1
        exact fun φ3 H3 σ4 g3 a3 => ⟨φ3, S3, σ3, a3, OutS.grow o1 g3⟩
      | bk σ3 S3 => rw [eb] at o1; exact o1
      | rt d S3 => rw [eb] at o1; exact o1
      | exc x σ3 S3 => rw [eb] at o1; exact o1
      | no => rw [eb] at o1; exact o1
end
end KD

/-! KdO: the look that statements of the text are ones of the own syntax; their runs are then the text's. -/
namespace KD
open PySem L2
def locB (sc : Scope) (x : Str) : Bool := decide (sc.names.lookup x = some .local) || decide (sc.names.lookup x = some .cell)
theorem locB_ok {sc : Scope} {x : Str} (h : locB sc x = true) : sc.names.lookup x = some .local ∨ sc.names.lookup x = some .cell := by
  unfold locB at h
  rw [Bool.or_eq_true] at h
  exact h.imp of_decide_eq_true of_decide_eq_true
/-- the comprehension's list is laid straight at the name -/
def swB (sc : Scope) (x : Str) (p cpos : Pos) (scope : Scope) : Bool := decide (sc.names.lookup x = some .local) && p.line == cpos.line && !(scope.names.any fun (n, k) => n == x && (k == .local || k == .cell))
section
variable (P : Nm) (N : List Str) (sc : Scope)
mutual
def chkS : Sm → Stmt → Bool
  | .set (.n i) e, a => match a with
    | .Assign [.Name x _] v _ => decide (N[i]? = some x) && locB sc x && chk P N e sc v
    | _ => false
  | .set (.t is) e, a => match a with
    | .Assign [.Tuple es j p] v _ => tgB N sc (.t is) (.Tuple es j p) && chk P N e sc v && notComp v && !isTup v
    | _ => false
  | .setIx o i e, a => match a with
    | .Assign [.Subscript l r _] v _ => chk P N o sc l && chk P N i sc r && chk P N e sc v && notSlice r
    | _ => false
  | .putT o l e, a => match a with
    | .Assign [.Subscript b (.Call (.Name x _) [c] [] _) _] v _ => decide (x = ("tuple" : Str)) && chk P N o sc b && chk P N l sc c && chk P N e sc v && notStar c && notComp v && glB sc "tuple" && memB "tuple" P.free
    | _ => false
  | .setFld c x o e, a => match a with
    | .Assign [.Attribute b y _] v _ => decide (y = x) && memF c x P.fld && chk P N o sc b && chk P N e sc v && notComp v
    | _ => false
  | .ex e, a => match a with
    | .Expr v _ => chk P N e sc v && notComp v
    | _ => false
  | .ret e, a => match a with
    | .Return (some v) _ => chk P N e sc v
    | _ => false
  | .ret0, a => match a with
    | .Return none _ => true
    | _ => false
  | .ite t x y, a => match a with
    | .If c as bs _ => chkT P N t sc c && chkSs x as && chkSs y bs
    | _ => false
  | .for tg it b, a => match a with
    | .For tg' iter body [] _ => tgB N sc tg tg' && chkI P N it sc (isTup tg') iter && chkSs b body && notSet iter
    | _ => false
  | .while _ t b, a => match a with
    | .While c body [] _ => chkT P N t sc c && chkSs b body
    | _ => false
  | .brk, a => match a with
    | .Break _ => true
    | _ => false
  | .cnt, a => match a with
    | .Continue _ => true
    | _ => false
  | .pass, a => match a with
    | .Pass _ => true
    | _ => false
  | .stop, _ => true
def chkSs : Sms → List Stmt → Bool
  | .nil, as => match as with
    | [] => true
    | _ => false
  | .cons s r, as => match as with
    | a :: as => chkS s a && chkSs r as
    | _ => false
end
end
/-- the context of a def's body -/
structure Gs (X : Cx) (Z : Zn) (W : WX) (P : Nm) (F : Nat → List D → Store → Rs D) (G : List D) (k : Nat) (N : List Str) (sc : Scope) : Prop where
  d : Gd X Z W P F G k N sc
  scope : X.env.scope = sc
  kind : sc.kind = .function
  po : PassesOwn (model X.prog X.w) X.A X.env X.xe
section
variable {X : Cx} {Z : Zn} {W : WX} {P : Nm} {F : Nat → List D → Store → Rs D} {G : List D} {k : Nat} {N : List Str} {sc : Scope} {pos : Pos}
theorem Gs.bk (g : Gs X Z W P F G k N sc) : X.env.blockKind = .function := by
  unfold Env.blockKind
  rw [g.scope, g.kind]; rfl
theorem sw_lc {elt : Expr} {gs : List Comprehension} {scope : Scope} {cpos p : Pos} {x : Str} {l : Nat} (g : Gs X Z W P F G k N sc) : swapsWith (.ListComp elt gs scope cpos) (some (.Name x p)) l X.env = pure (swB sc x p cpos scope) := by
  show pure (X.env.blockKind == .function && X.env.kindOf x == some .local && p.line == cpos.line && !(scope.names.any fun (n, k) => n == x && (k == .local || k == .cell))) = _
  rw [g.bk]
  unfold Env.kindOf swB
  rw [g.scope]
  cases sc.names.lookup x with
  | none => rfl
  | some q => cases q <;> rfl
theorem st_any_lc {x : Str} {i : Nat} {p : Pos} {elt : E} {tg : Tg} {it : Ig} {c : Eo} {own : List (Str × Nat)} {v : Expr} (g : Gs X Z W P F G k N sc) (hi : N[i]? = some x) (hl : sc.names.lookup x = some .local ∨ sc.names.lookup x = some .cell) (h : chk P N (.lc elt tg it c own) sc v = true) :
    PS X (.Assign [.Name x p] v pos) (tS Z W fun σ S => (den F G (.lc elt tg it c own) σ S).fl σ fun d S1 => match asg (.n i) d σ with
    | some σ' => .nx σ' S1
    | none => .no) := by
  have h0 := h
  unfold chk at h
  split at h
  · rename_i e tg' iter ifs scope cpos
    simp only [Bool.and_eq_true] at h
    cases hs : swB sc x p cpos scope with
    | true =>
      have hloc : X.env.scope.names.lookup x = some .local := by
        rw [g.scope]
        unfold swB at hs
        simp only [Bool.and_eq_true, decide_eq_true_eq] at hs
        exact hs.1.1
      exact st_nameLc g.d hi hloc ⟨sndI it _ _ g.d h.1.1.1.1.2, blk_ok g.d h.1.1.1.1.1.1, fun s H C cl fp => ev_tgW g.d.blk (ownB_ok h.1.2) h.1.1.1.1.1.2, fun s H C cl fp => sndC c _ g.d.blk h.1.1.1.2, fun s H C cl fp => snd elt _ g.d.blk h.1.1.2, h.2⟩ (by rw [sw_lc g, hs])
    | false => exact st_name g.d hi hl (snd _ _ g.d h0) (by rw [sw_lc g, hs])
  · cases h
theorem chk_notComp {e : E} {v : Expr} (h : chk P N e sc v = true) (hs : e ≠ .stop) (hl : ∀ elt tg it c own, e ≠ .lc elt tg it c own) : notComp v = true := by
  cases v with
  | ListComp elt gs scope cp =>
    cases e <;> first | (unfold chk at h; cases h; done) | exact absurd rfl hs | exact absurd rfl (hl _ _ _ _ _)
  | SetComp elt gs scope cp =>
    cases e <;> first | (unfold chk at h; cases h; done) | exact absurd rfl hs | exact absurd rfl (hl _ _ _ _ _)
  | DictComp a elt gs scope cp =>
    cases e <;> first | (unfold chk at h; cases h; done) | exact absurd rfl hs | exact absurd rfl (hl _ _ _ _ _)
  | _ => rfl
theorem st_any {x : Str} {i : Nat} {p : Pos} {e : E} {v : Expr} (g : Gs X Z W P F G k N sc) (hi : N[i]? = some x) (hl : sc.names.lookup x = some .local ∨ sc.names.lookup x = some .cell) (h : chk P N e sc v = true) :
    PS X (.Assign [.Name x p] v pos) (tS Z W fun σ S => (den F G e σ S).fl σ fun d S1 => match asg (.n i) d σ with
    | some σ' => .nx σ' S1
    | none => .no) := by
  by_cases hs : e = .stop
  · subst hs
    exact ⟨fun pins s σ H E I ⟨φ, S, σd, a, o⟩ => by
      simp only [den, Rs.fl_no] at o
      exact o.elim⟩
  by_cases hc : ∃ elt tg it c own, e = .lc elt tg it c own
  · obtain ⟨elt, tg, it, c, own, rfl⟩ := hc
    exact st_any_lc g hi hl h
  · exact st_name g.d hi hl (snd _ _ g.d h) (swaps_of (chk_notComp h hs fun elt tg it c own z => hc ⟨elt, tg, it, c, own, z⟩))
mutual
theorem sndS : ∀ (s : Sm) (a : Stmt), Gs X Z W P F G k N sc → chkS P N sc s a = true → PS X a (tS Z W (denS F G s))
  | .set (.n i) e, a, g, h => by
    unfold chkS at h
    split at h
    · simp only [Bool.and_eq_true, decide_eq_true_eq] at h
      exact st_any g h.1.1 (locB_ok h.1.2) h.2
    · cases h
  | .set (.t is) e, a, g, h => by
    unfold chkS at h
    split at h
    · simp only [Bool.and_eq_true, Bool.not_eq_true'] at h
      exact st_tup g.d h.1.1.1 (snd _ _ g.d h.1.1.2) h.1.2 h.2
    · cases h
  | .setIx o i e, a, g, h => by
    unfold chkS at h
    split at h
    · simp only [Bool.and_eq_true] at h
      exact st_setIx g.d (snd _ _ g.d h.1.1.1) (snd _ _ g.d h.1.1.2) (snd _ _ g.d h.1.2) h.2
    · cases h
  | .putT o l e, a, g, h => by
    unfold chkS at h
    split at h
    · simp only [Bool.and_eq_true, decide_eq_true_eq] at h
      rw [h.1.1.1.1.1.1.1]
      exact st_putT g.d (snd _ _ g.d h.1.1.1.1.1.1.2) (snd _ _ g.d h.1.1.1.1.1.2) (snd _ _ g.d h.1.1.1.1.2) h.1.1.1.2 h.1.1.2 (glB_ok h.1.2) (memB_ok h.2)
    · cases h
  | .setFld c x o e, a, g, h => by
    unfold chkS at h
    split at h
    · simp only [Bool.and_eq_true, decide_eq_true_eq] at h
      rw [h.1.1.1.1]
      exact st_setFld g.d (memF_ok h.1.1.1.2) (snd _ _ g.d h.1.1.2) (snd _ _ g.d h.1.2) h.2
    · cases h
  | .ex e, a, g, h => by
    unfold chkS at h
    split at h
    · simp only [Bool.and_eq_true] at h
      exact st_ex (snd _ _ g.d h.1) h.2
    · cases h
  | .ret e, a, g, h => by
    unfold chkS at h
    split at h
    · exact st_ret (snd _ _ g.d h)
    · cases h
  | .ret0, a, g, h => by
    unfold chkS at h
    split at h
    · exact st_ret0
    · cases h
  | .ite t x y, a, g, h => by
    unfold chkS at h
    split at h
    · simp only [Bool.and_eq_true] at h
      exact st_ite (sndT _ _ g.d h.1.1) (sndSs _ _ g h.1.2) (sndSs _ _ g h.2)
    · cases h
  | .for tg it b, a, g, h => by
    unfold chkS at h
    split at h
    · simp only [Bool.and_eq_true] at h
      exact st_for g.d g.po (sndI _ _ _ g.d h.1.1.2) (ev_tg g.d h.1.1.1) (sndSs _ _ g h.1.2) h.2
    · cases h
  | .while n t b, a, g, h => by
    unfold chkS at h
    split at h
    · simp only [Bool.and_eq_true] at h
      exact st_while g.po (sndT _ _ g.d h.1) (sndSs _ _ g h.2)
    · cases h
  | .brk, a, g, h => by
    unfold chkS at h
    split at h
    · exact st_brk
    · cases h
  | .cnt, a, g, h => by
    unfold chkS at h
    split at h
    · exact st_cnt
    · cases h
  | .pass, a, g, h => by
    unfold chkS at h
    split at h
    · exact st_pass
    · cases h
  | .stop, a, g, h => st_stop
theorem sndSs : ∀ (s : Sms) (a : List Stmt), Gs X Z W P F G k N sc → chkSs P N sc s a = true → PSs X a (tS Z W (denSs F G s))
  | .nil, a, g, h => by
    unfold chkSs at h
    split at h
    · exact st_nil
    · cases h
  | .cons s r, a, g, h => by
    unfold chkSs at h
    split at h
    · simp only [Bool.and_eq_true] at h
      exact st_cons (sndS s _ g h.1) (sndSs r _ g h.2)
    · cases h
end
end
end KD

/-! KdP: the defs by levels. -/
namespace KD
open PySem L2
/-- a def: its parameters, its slots, its body -/
structure Df where
  ps : List Str
  N : List Str
  body : Sms
/-- a def of the text, or one that is told by hand -/
inductive Fe where
  | code (d : Df) | prim (ps : List Str) (g : List D → Store → Rs D)
def Fe.ps : Fe → List Str
  | .code d => d.ps
  | .prim ps _ => ps
def startD (n : Nat) (ds : List D) : Lc := ds.map some ++ List.replicate (n - ds.length) none
def Fl.rs : Fl → Rs D
  | .rt d S => .ok d S
  | .nx _ S => .ok .non S
  | .exc x _ S => .exc x S
  | _ => .no
@[simp] theorem Fl.rs_rt {d : D} {S : Store} : (Fl.rt d S).rs = .ok d S := rfl
@[simp] theorem Fl.rs_nx {σ : Lc} {S : Store} : (Fl.nx σ S).rs = .ok .non S := rfl
@[simp] theorem Fl.rs_exc {x : Xc} {σ : Lc} {S : Store} : (Fl.exc x σ S).rs = .exc x S := rfl
noncomputable def runF (F : Nat → List D → Store → Rs D) (G : List D) (e : Fe) (ds : List D) (S : Store) : Rs D := match e with
  | .code d => if ds.length = d.ps.length then (denSs F G d.body (startD d.N.length ds) S).rs else .no
  | .prim ps g => if ds.length = ps.length then g ds S else .no
noncomputable def callN (T : List Fe) (G : List D) : Nat → Nat → List D → Store → Rs D
  | 0, _, _, _ => .no
  | n + 1, f, ds, S => match T[f]? with
    | some e => runF (callN T G n) G e ds S
    | none => .no
structure DefOk (K : Frag) (P : Nm) (d : Df) (fa : Addr) (fd : FuncData) : Prop where
  ex : ∃ x qual params body scope, FunD K x qual params body scope [] [] fa fd ∧ FnScope d.N d.ps scope ∧ chkSs P d.N scope d.body body = true
  bd : Binds K fd d.ps []
structure Tb (prog : Program) (w : World) (K : Frag) (mg : Str → Option Value) (base : Heap) (Z : Zn) (P : Nm) (G : List D) (T : List Fe) (A : List (Addr × FuncData)) : Prop where
  hK : Z.K = K
  code : ∀ (f : Nat) (d : Df), T[f]? = some (.code d) → ∃ fa fd, A[f]? = some (fa, fd) ∧ DefOk K P d fa fd
  prim : ∀ (f : Nat) (ps : List Str) (g : List D → Store → Rs D), T[f]? = some (.prim ps g) → ∃ fa fd, A[f]? = some (fa, fd) ∧ Binds K fd ps [] ∧ FnOk prog w K mg base (L2.CX prog w) 1 fa fd ps (spD Z ps.length g)
  fns : ∀ (f : Nat) (x : Str) (n : Nat), P.fns[f]? = some (x, n) → ∃ e fa fd, T[f]? = some e ∧ e.ps.length = n ∧ A[f]? = some (fa, fd) ∧ mg x = some (.ref fa) ∧ PySem.W.keepIn K (.ref fa) = true
  free : ∀ x, x ∈ P.free → mg x = none
  glo : ∀ (i : Nat) (x : Str), P.glo[i]? = some x → ∃ d u v, G[i]? = some d ∧ mg x = some u ∧ RelV v u ∧ RepV K [] (fun _ => none) d v
  fld : ∀ (c : Nat) (x : Str), (c, x) ∈ P.fld → ∀ C, Z.cls[c]? = some C → Cls K C ∧ NoAttr K C x
  mth : ∀ (i c : Nat) (m : Str) (f n : Nat), P.mth[i]? = some (c, m, f, n) → ∃ C e fa fd, Z.cls[c]? = some C ∧ Cls K C ∧ Meth K C m fa ∧ T[f]? = some e ∧ e.ps.length = n ∧ A[f]? = some (fa, fd)
  mks : ∀ (i : Nat) (x : Str) (c f n : Nat), P.mks[i]? = some (x, c, f, n) → ∃ C e fa fd, Z.cls[c]? = some C ∧ mg x = some (.ref C) ∧ Mk K C fa ∧ T[f]? = some e ∧ e.ps.length = n ∧ A[f]? = some (fa, fd)
  isi : ∀ (i : Nat) (x : Str) (us : List Nat), P.isi[i]? = some (x, us) → ∃ C, mg x = some (.ref C) ∧ (∀ T ∈ tyNames, PySem.W.kitOne K (.type T) (.ref C) = some false) ∧
    ∀ (c : Nat) (C' : Addr), Z.cls[c]? = some C' → ∀ H a dx fs, H a = some (.ins C' dx fs) → TyOf K H (.ref a) (.ref C') ∧ PySem.W.kitOne K (.ref C') (.ref C) = some (us.any fun u => u == c)
section
variable {prog : Program} {w : World} {K : Frag} {mg : Str → Option Value} {base : Heap} {Z : Zn} {P : Nm} {G : List D} {T : List Fe} {A : List (Addr × FuncData)}
theorem At.start {φ : Fi} {S : Store} {H : Hp} {ds : List D} {vs : List V} {N : List Str} (h : HRep Z φ S H) (r : RepL Z.K φ H ds vs) : At Z φ S (startD N.length ds) (L2.start N vs) H := by
  have hl := r.len
  refine ⟨h, by simp [startD, L2.start, hl], fun i d e => ?_⟩
  unfold startD at e
  by_cases hi : i < ds.length
  · rw [List.getElem?_append_left (by simpa using hi), List.getElem?_map] at e
    obtain ⟨x, e1, e2⟩ := Option.map_eq_some_iff.mp e
    cases e2
    obtain ⟨v, q1, q2⟩ := r.get e1
    refine ⟨v, ?_, q2⟩
    unfold L2.start
    rw [List.getElem?_append_left (by simpa [hl] using hi), List.getElem?_map, q1]; rfl
  · rw [List.getElem?_append_right (by simpa using hi), List.getElem?_replicate] at e
    split at e <;> cases e
theorem Tb.sees {N : List Str} {qual : Str} {scope : Scope} {f : Addr} {cd : Value} {A : Around} {outer : List Env} {s : Shared} {H : Hp} {E : XK} {CX : CXT} : Sees (cxOf CX prog w K mg base N qual scope f cd A outer s H E) scope :=
  ⟨fun x h => h, fun x h => ⟨h, .inl rfl⟩, fun x h => h, fun x h => h⟩
theorem Tb.fn (t : Tb prog w K mg base Z P G T A) : ∀ (n f : Nat) (e : Fe) (fa : Addr) (fd : FuncData), T[f]? = some e → A[f]? = some (fa, fd) →
    Binds K fd e.ps [] ∧ FnOk prog w K mg base (L2.CX prog w) (2 * n) fa fd e.ps (spD Z e.ps.length (callN T G n f))
  | 0, f, e, fa, fd, he, hA => by
    refine ⟨?_, ⟨fun vs H Q E ⟨φ, S, ds, h, r, hl, o⟩ => by rw [r.len, hl], fun A outer s H args us vs Q E _ _ _ _ ⟨φ, S, ds, h, r, hl, o⟩ => (show False from o).elim⟩⟩
    cases e with
    | code d =>
      obtain ⟨fa', fd', q, dk⟩ := t.code f d he
      rw [hA] at q; cases q
      exact dk.bd
    | prim ps g =>
      obtain ⟨fa', fd', q, b, _⟩ := t.prim f ps g he
      rw [hA] at q; cases q
      exact b
  | n + 1, f, e, fa, fd, he, hA => by
    have len : ∀ vs H Q E, spD Z e.ps.length (callN T G (n + 1) f) vs H Q E → vs.length = e.ps.length := fun vs H Q E ⟨φ, S, ds, h, r, hl, o⟩ => by rw [r.len, hl]
    cases e with
    | prim ps g =>
      obtain ⟨fa', fd', q, b, F⟩ := t.prim f ps g he
      rw [hA] at q; cases q
      refine ⟨b, (F.mono (by omega)).imp fun vs H Q E ⟨φ, S, ds, h, r, hl, o⟩ => ⟨φ, S, ds, h, r, hl, ?_⟩⟩
      have e1 : callN T G (n + 1) f ds S = g ds S := by
        show (match T[f]? with
          | some e => runF (callN T G n) G e ds S
          | none => .no) = _
        rw [he]
        show (if ds.length = ps.length then g ds S else .no) = _
        rw [if_pos (show ds.length = ps.length from hl)]
      rw [e1] at o
      exact o
    | code d =>
      obtain ⟨fa', fd', q, dk⟩ := t.code f d he
      rw [hA] at q; cases q
      obtain ⟨x, qual, params, body, scope, FD, SC, hc⟩ := dk.ex
      refine ⟨dk.bd, ?_⟩
      show FnOk prog w K mg base (L2.CX prog w) ((2 * n + 1) + 1) fa fd d.ps _
      refine FD.ok SC len fun cdv Ar outer s H vs Q E hr ⟨φ, S, ds, h, r, hl, o⟩ => ⟨tS Z (fun c dx _ H' => E c dx H') (denSs (callN T G n) G d.body), sndSs d.body body ⟨⟨t.hK.symm, rfl, SC.nd, rfl, hr, Tb.sees, t.free, fun i y hy => ?_, fun g y m hy => ?_, t.fld, fun i c m g np hy => ?_, fun i y c g np hy => ?_, t.isi, takes_of rfl rfl rfl rfl⟩, rfl, SC.kind, passes_of rfl⟩ hc, ?_⟩
      · obtain ⟨dd, u, v, q1, q2, q3, q4⟩ := t.glo i y hy
        exact ⟨dd, u, v, q1, q2, q3, by rw [t.hK]; exact q4⟩
      · obtain ⟨e2, fa2, fd2, q1, q2, q3, q4, q5⟩ := t.fns g y m hy
        obtain ⟨b2, F2⟩ := t.fn n g e2 fa2 fd2 q1 q3
        rw [q2] at F2
        exact ⟨fa2, fd2, e2.ps, q2, q4, q5, b2, F2⟩
      · obtain ⟨C, e2, fa2, fd2, q1, q2, q3, q4, q5, q6⟩ := t.mth i c m g np hy
        obtain ⟨b2, F2⟩ := t.fn n g e2 fa2 fd2 q4 q6
        rw [q5] at F2
        exact ⟨C, fa2, fd2, e2.ps, q1, q2, q3, q5, b2, F2⟩
      · obtain ⟨C, e2, fa2, fd2, q1, q2, q3, q4, q5, q6⟩ := t.mks i y c g np hy
        obtain ⟨b2, F2⟩ := t.fn n g e2 fa2 fd2 q4 q6
        rw [q5] at F2
        exact ⟨C, fa2, fd2, e2.ps, q1, q2, q3, q5, b2, F2⟩
      · refine ⟨φ, S, startD d.N.length ds, At.start h r, ?_⟩
        have e1 : callN T G (n + 1) f ds S = (denSs (callN T G n) G d.body (startD d.N.length ds) S).rs := by
          show (match T[f]? with
            | some e => runF (callN T G n) G e ds S
            | none => .no) = _
          rw [he]
          show (if ds.length = d.ps.length then _ else _) = _
          rw [if_pos (show ds.length = d.ps.length from hl)]
        rw [e1] at o
        cases eb : denSs (callN T G n) G d.body (startD d.N.length ds) S with
        | nx σ2 S2 => rw [eb] at o; exact fun φ2 H2 σ g a => o φ2 H2 .non g a.hp rNon
        | bk σ2 S2 => rw [eb] at o; exact o.elim
        | ct σ2 S2 => rw [eb] at o; exact o.elim
        | rt dd S2 => rw [eb] at o; exact o
        | exc xx σ2 S2 => rw [eb] at o; exact fun φ2 H2 σ c dx g a r => o φ2 H2 c dx g a.hp r
        | no => rw [eb] at o; exact o
end
end KD

/-! KdQ: the head: plain defs are bound; what the made module says, by one look. -/
namespace KD
open PySem L2
theorem fm_congr {α β : Type} {f g : α → Option β} : ∀ {l : List α}, (∀ a ∈ l, f a = g a) → l.filterMap f = l.filterMap g
  | [], _ => rfl
  | a :: l, h => by
    rw [List.filterMap_cons, List.filterMap_cons, h a (List.mem_cons_self ..), fm_congr fun b hb => h b (List.mem_cons_of_mem _ hb)]
theorem zip_look {ps : List Str} {us : List Value} {n : Str} (h : n ∈ ps) (hl : us.length = ps.length) : ((ps.zip us).lookup n).isSome = true := by
  induction ps generalizing us with
  | nil => cases h
  | cons p ps ih =>
    cases us with
    | nil => simp at hl
    | cons u us =>
      rw [List.zip_cons_cons, List.lookup_cons]
      cases e : (n == p) with
      | true => rfl
      | false =>
        refine ih ?_ (by simpa using hl)
        rcases List.mem_cons.mp h with rfl | h
        · simp at e
        · exact h
theorem zip_back : ∀ {ps : List Str} {us : List Value}, ps.Nodup → us.length = ps.length → ps.filterMap (fun n => ((ps.zip us).lookup n).map fun v => (n, v)) = ps.zip us
  | [], _, _, _ => rfl
  | p :: ps, [], _, hl => by simp at hl
  | p :: ps, u :: us, nd, hl => by
    rw [List.nodup_cons] at nd
    rw [List.zip_cons_cons, List.filterMap_cons, List.lookup_cons]
    simp only [beq_self_eq_true, Option.map_some]
    congr 1
    refine (fm_congr fun n hn => ?_).trans (zip_back nd.2 (by simpa using hl))
    rw [List.lookup_cons]
    have : (n == p) = false := by
      cases e : (n == p) with
      | false => rfl
      | true => exact absurd (eq_of_beq e ▸ hn) nd.1
    rw [this]
theorem bind_all {fd : FuncData} {ps : List Str} {us : List Value} (h1 : fd.params.posonlyargs = []) (h2 : fd.params.args.map (·.arg) = ps) (h3 : fd.params.vararg = none) (h4 : fd.params.kwonlyargs = []) (h5 : fd.params.kwarg = none) (hd : fd.defaults = .none)
    (nd : ps.Nodup) (hl : us.length = ps.length) : bindArgs fd ⟨us, []⟩ = pure (ps.zip us) := by
  have e0 : ps.filter (fun n => ((ps.zip us).lookup n).isNone) = [] := by
    rw [List.filter_eq_nil_iff]
    intro n hn
    have := zip_look hn hl
    simp [Option.isSome_iff_ne_none] at this ⊢
    exact this
  have e1 : seqItems? Value.none = pure none := rfl
  unfold bindArgs
  simp only [h1, h2, h3, h4, h5, hd, e1, List.map_nil, List.nil_append, List.append_nil, hl, pure_bind, List.forIn_nil, List.forIn'_nil]
  simp [e0, zip_back nd hl, hl]
def argB (p : Arguments) (ps : List Str) : Bool := p.posonlyargs.isEmpty && decide (p.args.map (·.arg) = ps) && p.vararg.isNone && p.kwonlyargs.isEmpty && p.kwarg.isNone && decide ps.Nodup
theorem argB_binds {K : Frag} {x qual : Str} {params : Arguments} {body : List Stmt} {scope : Scope} {fa : Addr} {fd : FuncData} {ps : List Str} (F : FunD K x qual params body scope [] [] fa fd) (h : argB params ps = true) :
    Binds K fd ps [] ∧ ∀ (s : Shared) (us : List Value), us.length = ps.length → BindsTo s fd ⟨us, []⟩ (ps.zip us) := by
  unfold argB at h
  simp only [Bool.and_eq_true, decide_eq_true_eq, List.isEmpty_iff, Option.isNone_iff_eq_none] at h
  have key : ∀ (kV doc pm : Value) (an : Option Addr) (cdv ct : Value) (us : List Value), us.length = ps.length → bindArgs (PySem.W.fnOf x qual params body scope .none kV doc pm an cdv ct) ⟨us, []⟩ = pure (ps.zip us) := fun kV doc pm an cdv ct us hl =>
    bind_all h.1.1.1.1.1 h.1.1.1.1.2 h.1.1.1.2 h.1.1.2 h.1.2 rfl h.2 hl
  exact ⟨F.bindsN key, F.bindsA key⟩
def kindB : ScopeKind → Bool
  | .function => true
  | _ => false
def frB : NameKind → Bool
  | .free => false
  | _ => true
def scB (N ps : List Str) (sc : Scope) : Bool := kindB sc.kind && !sc.isCoroutine && !sc.isGenerator && decide N.Nodup && decide (N.take ps.length = ps) && ps.all (locB sc) && sc.names.all fun y => frB y.2
theorem scB_ok {N ps : List Str} {sc : Scope} (h : scB N ps sc = true) : FnScope N ps sc := by
  unfold scB at h
  simp only [Bool.and_eq_true, Bool.not_eq_true', decide_eq_true_eq, List.all_eq_true] at h
  obtain ⟨⟨⟨⟨⟨⟨h1, h2⟩, h3⟩, h4⟩, h5⟩, h6⟩, h7⟩ := h
  refine ⟨?_, h2, h3, h4, h5, fun x hx => locB_ok (h6 x hx), fun y hy e => ?_⟩
  · cases e : sc.kind <;> rw [e] at h1 <;> first | rfl | cases h1
  · have := h7 y hy
    rw [e] at this
    cases this
/-- a def of the text as it is written, and as it is told -/
def defB (P : Nm) (d : He.DefD) : Fe → Bool
  | .code df => scB df.N df.ps d.scope && chkSs P df.N d.scope df.body d.body && argB d.params df.ps && d.dfl.isEmpty && d.kwd.isEmpty
  | .prim ps _ => argB d.params ps && d.dfl.isEmpty && d.kwd.isEmpty
mutual
/-- a value that stands in the written part -/
def repB (K : Frag) : D → Value → Bool
  | .non, .none => true
  | .bl b, .bool c => b == c
  | .int i, .int j _ => decide (i = j)
  | .str x, .str y _ => decide (x = y)
  | .tup ds, .ref a => match K.lookup a with
    | some ⟨.type c, _, .seq its _, _⟩ => decide (c = "tuple") && decide (its.size ≤ sizeLine) && repLB K ds its.toList
    | _ => false
  | _, _ => false
def repLB (K : Frag) : List D → List Value → Bool
  | [], [] => true
  | d :: ds, u :: us => repB K d u && repLB K ds us
  | _, _ => false
end
mutual
theorem repB_ok {K : Frag} {φ : Fi} {H : Hp} : ∀ {d : D} {u : Value}, repB K d u = true → ∃ v, RelV v u ∧ RepV K φ H d v
  | .non, u, h => by
    cases u with
    | none => exact ⟨.non, rfl, rNon⟩
    | _ => simp [repB] at h
  | .bl b, u, h => by
    cases u <;> simp only [repB] at h <;> first | cases h; done | skip
    exact ⟨.bl b, by rw [eq_of_beq h]; rfl, rBl⟩
  | .int i, u, h => by
    cases u <;> simp only [repB] at h <;> first | cases h; done | skip
    rename_i j t
    rw [← of_decide_eq_true h]
    exact ⟨.int i, ⟨t, rfl⟩, rInt⟩
  | .str x, u, h => by
    cases u <;> simp only [repB] at h <;> first | cases h; done | skip
    rename_i j t
    rw [← of_decide_eq_true h]
    exact ⟨.str x, ⟨t, rfl⟩, rStr⟩
  | .ref n, u, h => by
    cases u <;> simp only [repB] at h <;> cases h
  | .tup ds, u, h => by
    cases u <;> simp only [repB] at h <;> first | cases h; done | skip
    rename_i a
    split at h
    · rename_i c _ its n _ q
      simp only [Bool.and_eq_true, decide_eq_true_eq] at h
      obtain ⟨⟨h1, h2⟩, h3⟩ := h
      obtain ⟨vs, r1, r2⟩ := repLB_ok h3
      refine ⟨.ref a, rfl, ?_⟩
      simp only [RepV]
      exact ⟨a, vs, rfl, .inr ⟨_, its, n, q, by rw [h1], rfl, h2, r1⟩, r2⟩
    · cases h
theorem repLB_ok {K : Frag} {φ : Fi} {H : Hp} : ∀ {ds : List D} {us : List Value}, repLB K ds us = true → ∃ vs, Vals vs us ∧ RepL K φ H ds vs
  | [], [], h => ⟨[], .nil, RepL.nil⟩
  | [], _ :: _, h => by simp [repLB] at h
  | _ :: _, [], h => by simp [repLB] at h
  | d :: ds, u :: us, h => by
    simp only [repLB, Bool.and_eq_true] at h
    obtain ⟨v, r1, r2⟩ := repB_ok h.1
    obtain ⟨vs, r3, r4⟩ := repLB_ok h.2
    exact ⟨v :: vs, .cons r1 r3, RepL.cons r2 r4⟩
end

/-! ### one look at the made module -/
structure La where
  P : Nm
  T : List Fe
  G : List D
  fn : List He.DefD
  cls : List Str := []
  exc : List Str := []
def La.Z (L : La) (K : Frag) : Zn := ⟨K, L.cls.map (He.ga K), L.exc.map (He.ga K)⟩
def insB (K : Frag) (C : Addr) : Bool := decide (PySem.W.findIn K (.ref C) "__class__" = some (some (.builtin "object.__class__"))) && decide (PySem.W.specialIn K (.builtin "object.__class__") "__get__" = some (some (.builtin "getset_descriptor.__get__"))) &&
  decide (PySem.W.takesIn K (.builtin "object.__class__") = some true) && decide (PySem.W.mroIn K C (.type "object") = some true)
def La.ex (L : La) (K : Frag) : Bool :=
  (List.range L.P.fns.length).all (fun i => match L.P.fns[i]?, L.fn[i]? with
    | some (x, _), some d => decide (d.at_ = (x, none)) && (He.Fa.glo x).ok K
    | _, _ => false) &&
  L.P.free.all (fun x => (He.Fa.free x).ok K) &&
  (List.range L.P.glo.length).all (fun i => match L.P.glo[i]?, L.G[i]? with
    | some x, some d => (match PySem.W.nsIn K mainGlobals x with
      | some (some u) => repB K d u
      | _ => false)
    | _, _ => false) &&
  L.P.fld.all (fun q => match L.cls[q.1]? with
    | some y => (He.Fa.cls y).ok K && (He.Fa.noat y q.2).ok K
    | none => true) &&
  L.P.mth.all (fun q => match L.cls[q.1]?, L.fn[q.2.2.1]? with
    | some y, some d => decide (d.at_ = (y, some q.2.1)) && (He.Fa.cls y).ok K && (He.Fa.meth y q.2.1).ok K
    | _, _ => false) &&
  L.P.mks.all (fun q => match L.cls[q.2.1]?, L.fn[q.2.2.1]? with
    | some y, some d => decide (y = q.1) && decide (d.at_ = (y, some ("__init__" : Str))) && (He.Fa.glo y).ok K && (He.Fa.mkr y).ok K
    | _, _ => false) &&
  L.P.isi.all (fun q => (He.Fa.glo q.1).ok K && tyNames.all (fun T => decide (PySem.W.kitOne K (.type T) (.ref (He.ga K q.1)) = some false)) &&
    (List.range L.cls.length).all fun c => match L.cls[c]? with
      | some y => (He.Fa.cls y).ok K && insB K (He.ga K y) && decide (PySem.W.kitOne K (.ref (He.ga K y)) (.ref (He.ga K q.1)) = some (q.2.any fun u => u == c))
      | none => false)
/-- what is not of the made module -/
def La.st (L : La) : Bool := decide (L.T.length = L.fn.length) && decide (L.P.glo.length ≤ L.G.length) &&
  (List.range L.P.fns.length).all (fun i => match L.P.fns[i]?, L.T[i]? with
    | some (_, n), some e => decide (e.ps.length = n)
    | _, _ => false) &&
  L.P.mth.all (fun q => match L.T[q.2.2.1]? with
    | some e => decide (e.ps.length = q.2.2.2)
    | none => false) &&
  L.P.mks.all (fun q => match L.T[q.2.2.1]? with
    | some e => decide (e.ps.length = q.2.2.2)
    | none => false)
def hookE (n : Nat) (fn : List He.DefD) (ex : Frag → Bool) : PySem.W.Hook where
  α := He.AlD × Bool
  obs := fun s => (He.obsDG n [] fn s.heap.get?, ex (He.frG s.heap.get? (He.asD s.heap.get? n)))
  val := fun _ => (He.valD fn, true)
  says := fun _ h => ∃ K : Frag, K.In h ∧ He.SaysD [] fn K ∧ ex K = true
  of := fun _ _ e => ⟨_, He.frG_in, congrArg Prod.fst e, congrArg Prod.snd e⟩
  keeps := fun _ _ _ ⟨K, hK, c⟩ k => ⟨K, PySem.W.Frag.In.keeps hK k, c⟩
def obE (n : Nat) (fn : List He.DefD) (ex : Frag → Bool) (g : Addr → Option Obj) : He.AlD × Bool := (He.obsDG n [] fn g, ex (He.frG g (He.asD g n)))
theorem obE_eq {n : Nat} {fn : List He.DefD} {ex : Frag → Bool} {g : Addr → Option Obj} {s : Shared} (h : ∀ a, g a = s.heap.get? a) : obE n fn ex g = (hookE n fn ex).obs s := by
  have e : g = s.heap.get? := funext h
  rw [e]; rfl
section
variable {L : La} {K : Frag} {h : Heap} {mg : Str → Option Value} {prog : Program} {w : World}
theorem La.defs (c : He.SaysD [] L.fn K) (hd : ∀ (i : Nat) (d : He.DefD), L.fn[i]? = some d → d.dfl = [] ∧ d.kwd = []) : ∃ A : List (Addr × FuncData), ∀ (i : Nat) (d : He.DefD), L.fn[i]? = some d → ∃ fd, A[i]? = some (He.fAd K d.at_, fd) ∧ FunD K d.name d.qual d.params d.body d.scope [] [] (He.fAd K d.at_) fd := by
  have key : ∀ (i : Nat) (d : He.DefD), L.fn[i]? = some d → ∃ fd, FunD K d.name d.qual d.params d.body d.scope [] [] (He.fAd K d.at_) fd := fun i d e => by
    obtain ⟨fd, F⟩ := c.def_ i (d := d) e
    obtain ⟨e1, e2⟩ := hd i d e
    unfold He.DefD.dvs He.DefD.kws at F
    rw [e1, e2] at F
    exact ⟨fd, F⟩
  have gen : ∀ (l : List He.DefD), (∀ d ∈ l, ∃ fd, FunD K d.name d.qual d.params d.body d.scope [] [] (He.fAd K d.at_) fd) → ∃ A : List (Addr × FuncData), ∀ (i : Nat) (d : He.DefD), l[i]? = some d → ∃ fd, A[i]? = some (He.fAd K d.at_, fd) ∧ FunD K d.name d.qual d.params d.body d.scope [] [] (He.fAd K d.at_) fd := by
    intro l
    induction l with
    | nil => exact fun _ => ⟨[], fun i d e => by simp at e⟩
    | cons x l ih =>
      intro hl
      obtain ⟨A, hA⟩ := ih fun d hd => hl d (List.mem_cons_of_mem _ hd)
      obtain ⟨fd, F⟩ := hl x (List.mem_cons_self ..)
      refine ⟨(He.fAd K x.at_, fd) :: A, fun i d e => ?_⟩
      cases i with
      | zero => simp at e; subst e; exact ⟨fd, rfl, F⟩
      | succ i => exact hA i d (by simpa using e)
  exact gen L.fn fun d hdm => by
    obtain ⟨i, hi, e⟩ := List.mem_iff_getElem.mp hdm
    exact key i d (by rw [List.getElem?_eq_getElem hi, e])
end
end KD

/-! KdR: the law's promise out of the plain runs. -/
namespace KD
open PySem L2
section
variable {L : La} {K : Frag} {h : Heap} {mg : Str → Option Value} {prog : Program} {w : World}
theorem rng_all {n i : Nat} {f : Nat → Bool} (hh : (List.range n).all f = true) (hi : i < n) : f i = true := List.all_eq_true.mp hh i (List.mem_range.mpr hi)
theorem get_lt {α : Type} {l : List α} {i : Nat} {x : α} (hh : l[i]? = some x) : i < l.length := (List.getElem?_eq_some_iff.mp hh).1
theorem La.tb (KX : K.In h) (Gn : h.Ns mainGlobals mg) (c : He.SaysD [] L.fn K) (ce : L.ex K = true) (cs : L.st = true) (cd : ∀ (i : Nat) (e : Fe) (d : He.DefD), L.T[i]? = some e → L.fn[i]? = some d → defB L.P d e = true)
    (hp : ∀ (f : Nat) (ps : List Str) (g : List D → Store → Rs D) (d : He.DefD) (fd : FuncData) (base : Heap), L.T[f]? = some (.prim ps g) → L.fn[f]? = some d → FunD K d.name d.qual d.params d.body d.scope [] [] (He.fAd K d.at_) fd →
      FnOk prog w K mg base (L2.CX prog w) 1 (He.fAd K d.at_) fd ps (spD (L.Z K) ps.length g)) :
    ∃ A : List (Addr × FuncData), (∀ base : Heap, Tb prog w K mg base (L.Z K) L.P L.G L.T A) ∧
      ∀ (i : Nat) (x : Str) (n : Nat), L.P.fns[i]? = some (x, n) → ∃ fa fd e, A[i]? = some (fa, fd) ∧ mg x = some (.ref fa) ∧ L.T[i]? = some e ∧ ∀ (s : Shared) (us : List Value), us.length = e.ps.length → BindsTo s fd ⟨us, []⟩ (e.ps.zip us) := by
  unfold La.ex at ce
  simp only [Bool.and_eq_true] at ce
  obtain ⟨⟨⟨⟨⟨⟨k1, k2⟩, k3⟩, k4⟩, k5⟩, k6⟩, k7⟩ := ce
  unfold La.st at cs
  simp only [Bool.and_eq_true, decide_eq_true_eq] at cs
  obtain ⟨⟨⟨⟨t1, t2⟩, t3⟩, t4⟩, t5⟩ := cs
  have eT : ∀ (i : Nat) (d : He.DefD), L.fn[i]? = some d → ∃ e, L.T[i]? = some e := fun i d e => ⟨L.T[i]'(by rw [t1]; exact get_lt e), List.getElem?_eq_getElem _⟩
  have eF : ∀ (i : Nat) (e : Fe), L.T[i]? = some e → ∃ d, L.fn[i]? = some d := fun i d e => ⟨L.fn[i]'(by rw [← t1]; exact get_lt e), List.getElem?_eq_getElem _⟩
  have hd : ∀ (i : Nat) (d : He.DefD), L.fn[i]? = some d → d.dfl = [] ∧ d.kwd = [] := fun i d e => by
    obtain ⟨q, eq⟩ := eT i d e
    have b := cd i q d eq e
    cases q with
    | code df =>
      simp only [defB, Bool.and_eq_true, List.isEmpty_iff] at b
      exact ⟨b.1.2, b.2⟩
    | prim ps g =>
      simp only [defB, Bool.and_eq_true, List.isEmpty_iff] at b
      exact ⟨b.1.2, b.2⟩
  obtain ⟨A, hA⟩ := La.defs c hd
  have hbind : ∀ (i : Nat) (e : Fe) (d : He.DefD), L.T[i]? = some e → L.fn[i]? = some d → argB d.params e.ps = true := fun i e d e1 e2 => by
    have b := cd i e d e1 e2
    cases e with
    | code df =>
      simp only [defB, Bool.and_eq_true] at b
      exact b.1.1.2
    | prim ps g =>
      simp only [defB, Bool.and_eq_true] at b
      exact b.1.1
  have fnf : ∀ (i : Nat) (x : Str) (n : Nat), L.P.fns[i]? = some (x, n) → ∃ e d fd, L.T[i]? = some e ∧ e.ps.length = n ∧ L.fn[i]? = some d ∧ A[i]? = some (He.ga K x, fd) ∧ mg x = some (.ref (He.ga K x)) ∧ FunD K d.name d.qual d.params d.body d.scope [] [] (He.ga K x) fd := fun i x n e => by
    have q1 := rng_all k1 (get_lt e)
    have q2 := rng_all t3 (get_lt e)
    rw [e] at q1 q2
    cases ed : L.fn[i]? with
    | none => rw [ed] at q1; cases q1
    | some d =>
      rw [ed] at q1
      simp only [Bool.and_eq_true, decide_eq_true_eq] at q1
      obtain ⟨en, eq⟩ := eT i d ed
      rw [eq] at q2
      obtain ⟨fd, f1, f2⟩ := hA i d ed
      have ea : He.fAd K d.at_ = He.ga K x := by rw [q1.1]; rfl
      rw [ea] at f1 f2
      exact ⟨en, d, fd, eq, of_decide_eq_true q2, rfl, f1, He.glo_ok KX Gn q1.2, f2⟩
  refine ⟨A, fun base => ⟨rfl, fun f d e => ?_, fun f ps g e => ?_, fun f x n e => ?_, fun x hx => He.free_ok KX Gn (List.all_eq_true.mp k2 x hx), fun i x e => ?_, fun cc x hx C eC => ?_, fun i cc m f n e => ?_, fun i x cc f n e => ?_, fun i x us e => ?_⟩, fun i x n e => ?_⟩
  · obtain ⟨dd, ed⟩ := eF f _ e
    obtain ⟨fd, f1, f2⟩ := hA f dd ed
    have b := cd f _ dd e ed
    simp only [defB, Bool.and_eq_true] at b
    exact ⟨_, fd, f1, ⟨_, _, _, _, _, f2, scB_ok b.1.1.1.1, b.1.1.1.2⟩, (argB_binds f2 b.1.1.2).1⟩
  · obtain ⟨dd, ed⟩ := eF f _ e
    obtain ⟨fd, f1, f2⟩ := hA f dd ed
    exact ⟨_, fd, f1, (argB_binds f2 (hbind f _ dd e ed)).1, hp f ps g dd fd base e ed f2⟩
  · obtain ⟨en, d, fd, q1, q2, q3, q4, q5, q6⟩ := fnf f x n e
    exact ⟨en, _, fd, q1, q2, q4, q5, q6.kp⟩
  · have q := rng_all k3 (get_lt e)
    rw [e] at q
    cases eg : L.G[i]? with
    | none => rw [eg] at q; cases q
    | some d =>
      rw [eg] at q
      simp only at q
      cases en : PySem.W.nsIn K mainGlobals x with
      | none => rw [en] at q; cases q
      | some o =>
        cases o with
        | none => rw [en] at q; cases q
        | some u =>
          rw [en] at q
          obtain ⟨v, r1, r2⟩ := repB_ok (φ := []) (H := fun _ => none) q
          exact ⟨d, u, v, rfl, PySem.W.mg_of KX Gn en, r1, r2⟩
  · have q := List.all_eq_true.mp k4 _ hx
    simp only at q
    unfold La.Z at eC
    simp only [List.getElem?_map] at eC
    obtain ⟨y, e1, rfl⟩ := Option.map_eq_some_iff.mp eC
    rw [e1] at q
    rw [Bool.and_eq_true] at q
    exact ⟨He.cls_ok q.1, He.noat_ok q.2⟩
  · have q := List.all_eq_true.mp k5 _ (List.mem_of_getElem? e)
    have q2 := List.all_eq_true.mp t4 _ (List.mem_of_getElem? e)
    simp only at q q2
    cases ec : L.cls[cc]? with
    | none => rw [ec] at q; cases q
    | some y =>
      cases ed : L.fn[f]? with
      | none => rw [ec, ed] at q; cases q
      | some d =>
        rw [ec, ed] at q
        simp only [Bool.and_eq_true, decide_eq_true_eq] at q
        obtain ⟨en, eq⟩ := eT f d ed
        rw [eq] at q2
        obtain ⟨fd, f1, f2⟩ := hA f d ed
        have ea : He.fAd K d.at_ = He.ma K (He.ga K y) m := by rw [q.1.1]; rfl
        rw [ea] at f1
        refine ⟨He.ga K y, en, _, fd, ?_, He.cls_ok q.1.2, He.meth_ok q.2, eq, of_decide_eq_true q2, f1⟩
        unfold La.Z
        simp only [List.getElem?_map, ec]; rfl
  · have q := List.all_eq_true.mp k6 _ (List.mem_of_getElem? e)
    have q2 := List.all_eq_true.mp t5 _ (List.mem_of_getElem? e)
    simp only at q q2
    cases ec : L.cls[cc]? with
    | none => rw [ec] at q; cases q
    | some y =>
      cases ed : L.fn[f]? with
      | none => rw [ec, ed] at q; cases q
      | some d =>
        rw [ec, ed] at q
        simp only [Bool.and_eq_true, decide_eq_true_eq] at q
        obtain ⟨en, eq⟩ := eT f d ed
        rw [eq] at q2
        obtain ⟨fd, f1, f2⟩ := hA f d ed
        have ea : He.fAd K d.at_ = He.ma K (He.ga K y) "__init__" := by rw [q.1.1.2]; rfl
        rw [ea] at f1
        have ey : y = x := q.1.1.1
        refine ⟨He.ga K y, en, _, fd, ?_, ?_, He.mkr_ok q.2, eq, of_decide_eq_true q2, f1⟩
        · unfold La.Z
          simp only [List.getElem?_map, ec]; rfl
        · rw [← ey]; exact He.glo_ok KX Gn q.1.2
  · have q := List.all_eq_true.mp k7 _ (List.mem_of_getElem? e)
    simp only [Bool.and_eq_true] at q
    refine ⟨_, He.glo_ok KX Gn q.1.1, fun T hT => of_decide_eq_true (List.all_eq_true.mp q.1.2 T hT), fun cc C' eC H a dx fs eH => ?_⟩
    unfold La.Z at eC
    simp only [List.getElem?_map] at eC
    obtain ⟨y, e1, rfl⟩ := Option.map_eq_some_iff.mp eC
    have z := rng_all q.2 (get_lt e1)
    rw [e1] at z
    simp only [Bool.and_eq_true, insB, decide_eq_true_eq] at z
    exact ⟨TyOf.ins eH (He.cls_ok z.1.1) z.1.2.1.1.1 z.1.2.1.1.2 z.1.2.1.2 z.1.2.2, z.2⟩
  · obtain ⟨en, d, fd, q1, q2, q3, q4, q5, q6⟩ := fnf i x n e
    exact ⟨_, fd, en, q4, q5, q1, (argB_binds q6 (hbind i en d q1 q3)).2⟩
/-- the script at the entry -/
theorem script_rep {Z : Zn} {H : Hp} {a : Addr} {ns : List Int} (ho : Only H) (hs : SqL Z.K H a (ns.map V.int)) : HRep Z [(a, false)] [.ro (ns.map D.int)] H := by
  refine ⟨rfl, fun n o b e1 e2 => ?_, fun n o p e1 e2 => ?_, fun i j b o u e1 e2 e3 e4 m1 m2 => ?_⟩
  · cases n with
    | zero =>
      cases e1; cases e2
      refine ⟨ns.map V.int, ?_, RepL.ints ns⟩
      rcases hs with (hs | hs) | hs
      · rcases ho a with z | ⟨o, xs, z⟩
        · rw [hs] at z; cases z
        · rw [hs] at z; cases z
      · exact .inl hs
      · exact .inr hs
    | succ n => simp at e1
  · cases n with
    | zero => cases e1; cases e2; rfl
    | succ n => simp at e1
  · cases i with
    | zero => cases e3; cases m1
    | succ n => simp at e3
end
theorem walk {l : PySem.W.OpenLaw} {L : La} {m n k i : Nat} {q : Program} {loose : List Str} {XP : (Str → Option Value) → Heap → Prop} {d : DefRec} {x nm : Str} {e : Fe}
    (hn : l.most = some m) (hn2 : m ≤ sizeLine) (hdf : d.params.defaults = []) (hr : Room (2 * k) callerA) (hnm : d.name = nm) (hi : L.P.fns[i]? = some (nm, 1)) (he : L.T[i]? = some e) (hx : e.ps = [x])
    (cs : L.st = true) (cd : ∀ (i : Nat) (e : Fe) (d : He.DefD), L.T[i]? = some e → L.fn[i]? = some d → defB L.P d e = true)
    (hp : ∀ (w : World) (K : Frag) (mg : Str → Option Value) (h : Heap), K.In h → h.Ns mainGlobals mg → L.ex K = true → ∀ (f : Nat) (ps : List Str) (g : List D → Store → Rs D) (d : He.DefD) (fd : FuncData) (base : Heap), L.T[f]? = some (.prim ps g) → L.fn[f]? = some d → FunD K d.name d.qual d.params d.body d.scope [] [] (He.fAd K d.at_) fd →
      FnOk l.prog w K mg base (L2.CX l.prog w) 1 (He.fAd K d.at_) fd ps (spD (L.Z K) ps.length g))
    (law : ∀ ns : List Int, ns.length ≤ m → ∃ S', callN L.T L.G k i [.ref 0] [.ro (ns.map D.int)] = .ok (.bl true) S') :
    PySem.W.WalkO q loose XP (hookE n L.fn L.ex).says l.row.toRowW d [] (fun f vs => PySem.call f vs) := by
  refine Att.attach_call hn hdf fun w s₀ s₁ mg mb fa o pm cdv doc a vs ns Gl Y hob hdd hcd hmg hobj hints hlen hgen => ?_
  obtain ⟨K, KX, c1, c2⟩ := Y
  obtain ⟨A, hA, hB⟩ := La.tb (prog := l.prog) (w := w) KX Gl.T.g c1 c2 cs cd (hp w K mg _ KX Gl.T.g c2)
  obtain ⟨fa', fd, e', q1, q2, q3, q4⟩ := hB i nm 1 hi
  rw [he] at q3
  cases q3
  rw [hnm, q2] at hmg
  cases hmg
  rw [hx] at q4
  refine law_call (CX := L2.CX l.prog w) (x := x) (sp := spD (L.Z K) 1 (callN L.T L.G k i)) KX Gl.T.g Gl.T.b Gl.T.builtins Gl.T.nolimit hgen hobj hints (Nat.le_trans hlen hn2) hr (fun base _ _ => ?_) (fun s u => q4 s [u] rfl) (fun H hO hS => ?_) fun H e s' z => ?_
  · obtain ⟨b, F⟩ := (hA base).fn k i e _ fd he q1
    rw [hx] at F
    exact F
  · obtain ⟨S', eS⟩ := law ns hlen
    refine ⟨[(a, false)], _, [.ref 0], script_rep hO hS, ?_, rfl, ?_⟩
    · exact RepL.cons (by simp only [RepV]; exact ⟨a, rfl, rfl⟩) RepL.nil
    · rw [eS]
      exact fun φ' H' v g hr' r => r.bl_inv
  · obtain ⟨_, _, _, _, _, _, _, _, _, _, _, _, z⟩ := z
    exact z.elim
end KD

/-! KdS: plain runs by simp: from the outside, a part at a time. -/
namespace KD
open PySem L2
/-! the parts behind are held back until the part ahead is known -/
def bin2 (x : D) (r : Rs D) (f : D → D → Store → Op D) : Rs D := r.bind fun y S2 => Rs.of (f x y S2)
@[simp] theorem bin2_ok {x y : D} {S : Store} {f : D → D → Store → Op D} : bin2 x (.ok y S) f = Rs.of (f x y S) := rfl
@[simp] theorem bin2_exc {x : D} {e : Xc} {S : Store} {f : D → D → Store → Op D} : bin2 x (.exc e S) f = .exc e S := rfl
def bin (r : Rs D) (m : M D) (σ : Lc) (f : D → D → Store → Op D) : Rs D := r.bind fun x S1 => bin2 x (m σ S1) f
@[simp] theorem bin_ok {x : D} {S : Store} {m : M D} {σ : Lc} {f : D → D → Store → Op D} : bin (.ok x S) m σ f = bin2 x (m σ S) f := rfl
@[simp] theorem bin_exc {e : Xc} {S : Store} {m : M D} {σ : Lc} {f : D → D → Store → Op D} : bin (.exc e S) m σ f = .exc e S := rfl
def un (r : Rs D) (f : D → Store → Op D) : Rs D := r.bind fun x S => Rs.of (f x S)
@[simp] theorem un_ok {x : D} {S : Store} {f : D → Store → Op D} : un (.ok x S) f = Rs.of (f x S) := rfl
@[simp] theorem un_exc {e : Xc} {S : Store} {f : D → Store → Op D} : un (.exc e S) f = .exc e S := rfl
def unL (r : Rs (List D)) (f : List D → Store → Op D) : Rs D := r.bind fun x S => Rs.of (f x S)
@[simp] theorem unL_ok {x : List D} {S : Store} {f : List D → Store → Op D} : unL (.ok x S) f = Rs.of (f x S) := rfl
@[simp] theorem unL_exc {e : Xc} {S : Store} {f : List D → Store → Op D} : unL (.exc e S) f = .exc e S := rfl
def consL2 (d : D) (r : Rs (List D)) : Rs (List D) := r.bind fun ds S => .ok (d :: ds) S
@[simp] theorem consL2_ok {d : D} {ds : List D} {S : Store} : consL2 d (.ok ds S) = .ok (d :: ds) S := rfl
@[simp] theorem consL2_exc {d : D} {e : Xc} {S : Store} : consL2 d (.exc e S) = .exc e S := rfl
def consL (r : Rs D) (m : M (List D)) (σ : Lc) : Rs (List D) := r.bind fun d S => consL2 d (m σ S)
@[simp] theorem consL_ok {d : D} {S : Store} {m : M (List D)} {σ : Lc} : consL (.ok d S) m σ = consL2 d (m σ S) := rfl
@[simp] theorem consL_exc {e : Xc} {S : Store} {m : M (List D)} {σ : Lc} : consL (.exc e S) m σ = .exc e S := rfl
def pickR {α : Type} (r : Rs Bool) (f g : M α) (σ : Lc) : Rs α := r.bind fun c S => if c then f σ S else g σ S
@[simp] theorem pickR_t {α : Type} {S : Store} {f g : M α} {σ : Lc} : pickR (.ok true S) f g σ = f σ S := rfl
@[simp] theorem pickR_f {α : Type} {S : Store} {f g : M α} {σ : Lc} : pickR (.ok false S) f g σ = g σ S := rfl
def kM {α : Type} (x : α) : M α := fun _ S => .ok x S
@[simp] theorem kM_ok {α : Type} {x : α} {σ : Lc} {S : Store} : kM x σ S = .ok x S := rfl
def notR (r : Rs Bool) : Rs Bool := r.bind fun t S => .ok (!t) S
@[simp] theorem notR_ok {t : Bool} {S : Store} : notR (.ok t S) = .ok (!t) S := rfl
def notD (r : Rs Bool) : Rs D := r.bind fun t S => .ok (.bl (!t)) S
@[simp] theorem notD_ok {t : Bool} {S : Store} : notD (.ok t S) = .ok (.bl (!t)) S := rfl
def meK2 (x : D) (r : Rs (List D)) (f : D → List D → Store → Op D) : Rs D := r.bind fun ds S => Rs.of (f x ds S)
@[simp] theorem meK2_ok {x : D} {ds : List D} {S : Store} {f : D → List D → Store → Op D} : meK2 x (.ok ds S) f = Rs.of (f x ds S) := rfl
def meK (r : Rs D) (m : M (List D)) (σ : Lc) (T : String) (f : D → List D → Store → Op D) : Rs D := r.bind fun x S => if tyOk T x S then meK2 x (m σ S) f else .no
@[simp] theorem meK_ok {x : D} {S : Store} {m : M (List D)} {σ : Lc} {T : String} {f : D → List D → Store → Op D} : meK (.ok x S) m σ T f = if tyOk T x S then meK2 x (m σ S) f else .no := rfl
def mtK2 (x : D) (r : Rs (List D)) (f : List D → Store → Rs D) : Rs D := r.bind fun ds S => f (x :: ds) S
@[simp] theorem mtK2_ok {x : D} {ds : List D} {S : Store} {f : List D → Store → Rs D} : mtK2 x (.ok ds S) f = f (x :: ds) S := rfl
def mtK (r : Rs D) (m : M (List D)) (σ : Lc) (c : Nat) (n : Str) (f : List D → Store → Rs D) : Rs D := r.bind fun x S => if insOk c n x S then mtK2 x (m σ S) f else .no
@[simp] theorem mtK_ok {x : D} {S : Store} {m : M (List D)} {σ : Lc} {c : Nat} {n : Str} {f : List D → Store → Rs D} : mtK (.ok x S) m σ c n f = if insOk c n x S then mtK2 x (m σ S) f else .no := rfl
def slK3 (x : D) (l : Option Int) (r : Rs (Option Int)) : Rs D := r.bind fun h S => Rs.of (dSl x l h S)
@[simp] theorem slK3_ok {x : D} {l h : Option Int} {S : Store} : slK3 x l (.ok h S) = Rs.of (dSl x l h S) := rfl
def slK2 (x : D) (r : Rs (Option Int)) (m : M (Option Int)) (σ : Lc) : Rs D := r.bind fun l S => slK3 x l (m σ S)
@[simp] theorem slK2_ok {x : D} {l : Option Int} {S : Store} {m : M (Option Int)} {σ : Lc} : slK2 x (.ok l S) m σ = slK3 x l (m σ S) := rfl
def slK (r : Rs D) (ml mh : M (Option Int)) (σ : Lc) : Rs D := r.bind fun x S => slK2 x (ml σ S) mh σ
@[simp] theorem slK_ok {x : D} {S : Store} {ml mh : M (Option Int)} {σ : Lc} : slK (.ok x S) ml mh σ = slK2 x (ml σ S) mh σ := rfl
def chK2 (y : D) (r : Rs Bool) (m : M D) (σ : Lc) (f : D → D → Store → Op D) : Rs D := r.bind fun t S => if t then bin2 y (m σ S) f else .ok (.bl false) S
@[simp] theorem chK2_t {y : D} {S : Store} {m : M D} {σ : Lc} {f : D → D → Store → Op D} : chK2 y (.ok true S) m σ f = bin2 y (m σ S) f := rfl
@[simp] theorem chK2_f {y : D} {S : Store} {m : M D} {σ : Lc} {f : D → D → Store → Op D} : chK2 y (.ok false S) m σ f = .ok (.bl false) S := rfl
def chK1 (x : D) (r : Rs D) (m : M D) (σ : Lc) (f g : D → D → Store → Op D) : Rs D := r.bind fun y S => chK2 y ((Rs.of (f x y S)).bind blRs) m σ g
@[simp] theorem chK1_ok {x y : D} {S : Store} {m : M D} {σ : Lc} {f g : D → D → Store → Op D} : chK1 x (.ok y S) m σ f g = chK2 y ((Rs.of (f x y S)).bind blRs) m σ g := rfl
def chK (r : Rs D) (m1 m2 : M D) (σ : Lc) (f g : D → D → Store → Op D) : Rs D := r.bind fun x S => chK1 x (m1 σ S) m2 σ f g
@[simp] theorem chK_ok {x : D} {S : Store} {m1 m2 : M D} {σ : Lc} {f g : D → D → Store → Op D} : chK (.ok x S) m1 m2 σ f g = chK1 x (m1 σ S) m2 σ f g := rfl
def pickF (r : Rs Bool) (f g : Lc → Store → Fl) (σ : Lc) : Fl := r.fl σ fun c S => if c then f σ S else g σ S
@[simp] theorem pickF_t {S : Store} {f g : Lc → Store → Fl} {σ : Lc} : pickF (.ok true S) f g σ = f σ S := rfl
@[simp] theorem pickF_f {S : Store} {f g : Lc → Store → Fl} {σ : Lc} : pickF (.ok false S) f g σ = g σ S := rfl
@[simp] theorem pickF_exc {e : Xc} {S : Store} {f g : Lc → Store → Fl} {σ : Lc} : pickF (.exc e S) f g σ = .exc e σ S := rfl
def setK (r : Rs D) (tg : Tg) (σ : Lc) : Fl := r.fl σ fun d S1 => match asg tg d σ with
  | some σ' => .nx σ' S1
  | none => .no
@[simp] theorem setK_ok {d : D} {S : Store} {tg : Tg} {σ : Lc} : setK (.ok d S) tg σ = match asg tg d σ with
  | some σ' => .nx σ' S
  | none => .no := rfl
@[simp] theorem setK_exc {e : Xc} {S : Store} {tg : Tg} {σ : Lc} : setK (.exc e S) tg σ = .exc e σ S := rfl
def stK3 (v x : D) (r : Rs D) (σ : Lc) (f : D → D → D → Store → Option Store) : Fl := r.fl σ fun y S3 => match f x y v S3 with
  | some S4 => .nx σ S4
  | none => .no
@[simp] theorem stK3_ok {v x y : D} {S : Store} {σ : Lc} {f : D → D → D → Store → Option Store} : stK3 v x (.ok y S) σ f = match f x y v S with
  | some S4 => .nx σ S4
  | none => .no := rfl
def stK2 (v : D) (r : Rs D) (mi : M D) (σ : Lc) (f : D → D → D → Store → Option Store) : Fl := r.fl σ fun x S2 => stK3 v x (mi σ S2) σ f
@[simp] theorem stK2_ok {v x : D} {S : Store} {mi : M D} {σ : Lc} {f : D → D → D → Store → Option Store} : stK2 v (.ok x S) mi σ f = stK3 v x (mi σ S) σ f := rfl
def stK (r : Rs D) (mo mi : M D) (σ : Lc) (f : D → D → D → Store → Option Store) : Fl := r.fl σ fun v S1 => stK2 v (mo σ S1) mi σ f
@[simp] theorem stK_ok {v : D} {S : Store} {mo mi : M D} {σ : Lc} {f : D → D → D → Store → Option Store} : stK (.ok v S) mo mi σ f = stK2 v (mo σ S) mi σ f := rfl
def sfK2 (v : D) (r : Rs D) (σ : Lc) (f : D → D → Store → Option Store) : Fl := r.fl σ fun x S2 => match f x v S2 with
  | some S3 => .nx σ S3
  | none => .no
@[simp] theorem sfK2_ok {v x : D} {S : Store} {σ : Lc} {f : D → D → Store → Option Store} : sfK2 v (.ok x S) σ f = match f x v S with
  | some S3 => .nx σ S3
  | none => .no := rfl
def sfK (r : Rs D) (mo : M D) (σ : Lc) (f : D → D → Store → Option Store) : Fl := r.fl σ fun v S1 => sfK2 v (mo σ S1) σ f
@[simp] theorem sfK_ok {v : D} {S : Store} {mo : M D} {σ : Lc} {f : D → D → Store → Option Store} : sfK (.ok v S) mo σ f = sfK2 v (mo σ S) σ f := rfl
section
variable {F : Nat → List D → Store → Rs D} {G : List D} {σ : Lc} {S : Store} {a b c : E} {es : Es}
@[simp] theorem den_v {i : Nat} : den F G (.v i) σ S = match σ[i]? with
  | some (some d) => .ok d S
  | _ => .no := by simp only [den]; rfl
@[simp] theorem den_k {c : D} : den F G (.k c) σ S = .ok c S := by simp only [den]
@[simp] theorem den_g {i : Nat} : den F G (.g i) σ S = match G[i]? with
  | some d => .ok d S
  | none => .no := by simp only [den]; rfl
@[simp] theorem den_tup : den F G (.tup es) σ S = (denL F G es σ S).bind fun ds S1 => .ok (.tup ds) S1 := by simp only [den]
@[simp] theorem den_lst : den F G (.lst es) σ S = (denL F G es σ S).bind fun ds S1 => .ok (.ref S1.length) (S1 ++ [.lst ds]) := by simp only [den]
@[simp] theorem den_op {o : Bo} : den F G (.op o a b) σ S = bin (den F G a σ S) (den F G b) σ o.f := by simp only [den]; rfl
@[simp] theorem den_cmp {o : Co} : den F G (.cmp o a b) σ S = bin (den F G a σ S) (den F G b) σ o.f := by simp only [den]; rfl
@[simp] theorem den_neg : den F G (.neg a) σ S = un (den F G a σ S) cNeg := by simp only [den]; rfl
@[simp] theorem den_not : den F G (.not a) σ S = notD ((den F G a σ S).bind blRs) := by simp only [den]; cases den F G a σ S <;> rfl
@[simp] theorem den_and : den F G (.and es) σ S = denAnd F G es σ S := by simp only [den]
@[simp] theorem den_or : den F G (.or es) σ S = denOr F G es σ S := by simp only [den]
@[simp] theorem den_ite {t : E} : den F G (.ite t a b) σ S = pickR (denT F G t σ S) (den F G a) (den F G b) σ := by simp only [den]; rfl
@[simp] theorem den_ix : den F G (.ix a b) σ S = bin (den F G a σ S) (den F G b) σ xIx := by simp only [den]; rfl
@[simp] theorem den_sl {lo hi : Eo} : den F G (.sl a lo hi) σ S = slK (den F G a σ S) (denO F G lo) (denO F G hi) σ := by simp only [den]; rfl
@[simp] theorem den_call {f : Nat} : den F G (.call f es) σ S = (denL F G es σ S).bind (F f) := by simp only [den]
@[simp] theorem den_bi {b : Bi} : den F G (.bi b es) σ S = unL (denL F G es σ S) b.f := by simp only [den]; rfl
@[simp] theorem den_me {m : Mh} {o : E} : den F G (.me m o es) σ S = meK (den F G o σ S) (denL F G es) σ m.T m.f := by simp only [den]; rfl
@[simp] theorem den_isi {t : Ty} : den F G (.isi a t) σ S = un (den F G a σ S) (cIsi t) := by simp only [den]; rfl
@[simp] theorem den_isiC {i : Nat} {us : List Nat} : den F G (.isiC i us a) σ S = un (den F G a σ S) (cIsiC us) := by simp only [den]; rfl
@[simp] theorem den_fld {c : Nat} {x : Str} : den F G (.fld c x a) σ S = un (den F G a σ S) (cFld c x) := by simp only [den]; rfl
@[simp] theorem den_meth {i c f : Nat} {m : Str} : den F G (.meth i c f m a es) σ S = mtK (den F G a σ S) (denL F G es) σ c m (F f) := by simp only [den]; rfl
@[simp] theorem den_make {i c f : Nat} : den F G (.make i c f es) σ S = (denL F G es σ S).bind fun ds S1 => (F f (.ref S1.length :: ds) (S1 ++ [.ins c []])).calm.bind (nonRs (.ref S1.length)) := by simp only [den]
@[simp] theorem den_dnew : den F G .dnew σ S = .ok (.ref S.length) (S ++ [.dic []]) := by simp only [den]
@[simp] theorem den_dnewT : den F G .dnewT σ S = .ok (.ref S.length) (S ++ [.dicT []]) := by simp only [den]
theorem den_lc {elt : E} {tg : Tg} {it : Ig} {c : Eo} {own : List (Str × Nat)} : den F G (.lc elt tg it c own) σ S = (denI F G it σ S).bind fun s S1 =>
    (lcGo s.live (lcTurn tg (denC F G c) (den F G elt) (wipeD σ (own.map (·.2)))) s.items S1).bind fun ds S5 => .ok (.ref S5.length) (S5 ++ [.lst ds]) := by simp only [den]; rfl
@[simp] theorem den_chain {o p : Co} : den F G (.chain o p a b c) σ S = chK (den F G a σ S) (den F G b) (den F G c) σ o.f p.f := by
  simp only [den]; unfold chK
  congr 1; funext x S1; unfold chK1
  congr 1; funext y S2; unfold chK2
  cases Rs.of (o.f x y S2) <;> rfl
@[simp] theorem denL_nil : denL F G .nil σ S = .ok [] S := by simp only [denL]; rfl
@[simp] theorem denL_cons : denL F G (.cons a es) σ S = consL (den F G a σ S) (denL F G es) σ := by simp only [denL]; rfl
@[simp] theorem denO_no : denO F G .no σ S = .ok none S := by simp only [denO]
@[simp] theorem denO_so : denO F G (.so a) σ S = (den F G a σ S).bind intRs := by simp only [denO]
@[simp] theorem denC_no : denC F G .no σ S = .ok true S := by simp only [denC]
@[simp] theorem denC_so : denC F G (.so a) σ S = denT F G a σ S := by simp only [denC]
@[simp] theorem denI_e : denI F G (.e a) σ S = (den F G a σ S).bind srcE := by simp only [denI]
@[simp] theorem denI_rng : denI F G (.rng a) σ S = (den F G a σ S).bind fun x S1 => srcR (.int 0) x S1 := by simp only [denI]
@[simp] theorem denI_rng2 : denI F G (.rng2 a b) σ S = (den F G a σ S).bind fun x S1 => (den F G b σ S1).bind fun y S2 => srcR x y S2 := by simp only [denI]
@[simp] theorem denI_enum : denI F G (.enum a) σ S = (den F G a σ S).bind srcEn := by simp only [denI]
@[simp] theorem denI_zip : denI F G (.zip a b) σ S = (den F G a σ S).bind fun x S1 => (den F G b σ S1).bind fun y S2 => srcZ x y S2 := by simp only [denI]
@[simp] theorem denAnd_one : denAnd F G (.cons a .nil) σ S = den F G a σ S := by simp only [denAnd]
@[simp] theorem denAnd_cons : denAnd F G (.cons a (.cons b es)) σ S = pickR ((den F G a σ S).bind blRs) (denAnd F G (.cons b es)) (kM (.bl false)) σ := by
  simp only [denAnd]
  cases den F G a σ S <;> rfl
@[simp] theorem denOr_one : denOr F G (.cons a .nil) σ S = den F G a σ S := by simp only [denOr]
@[simp] theorem denOr_cons : denOr F G (.cons a (.cons b es)) σ S = pickR ((den F G a σ S).bind blRs) (kM (.bl true)) (denOr F G (.cons b es)) σ := by
  simp only [denOr]
  cases den F G a σ S <;> rfl
@[simp] theorem denTA_one : denTA F G (.cons a .nil) σ S = denT F G a σ S := by simp only [denTA]
@[simp] theorem denTA_cons : denTA F G (.cons a (.cons b es)) σ S = pickR (denT F G a σ S) (denTA F G (.cons b es)) (kM false) σ := by simp only [denTA]; rfl
@[simp] theorem denTO_one : denTO F G (.cons a .nil) σ S = denT F G a σ S := by simp only [denTO]
@[simp] theorem denTO_cons : denTO F G (.cons a (.cons b es)) σ S = pickR (denT F G a σ S) (kM true) (denTO F G (.cons b es)) σ := by simp only [denTO]; rfl
@[simp] theorem denT_not : denT F G (.not a) σ S = notR (denT F G a σ S) := by simp only [denT]; rfl
@[simp] theorem denT_and : denT F G (.and es) σ S = denTA F G es σ S := by simp only [denT]
@[simp] theorem denT_or : denT F G (.or es) σ S = denTO F G es σ S := by simp only [denT]
@[simp] theorem denT_cmp {o : Co} : denT F G (.cmp o a b) σ S = (den F G (.cmp o a b) σ S).bind blRs := by simp only [denT, den]
@[simp] theorem denT_chain {o p : Co} : denT F G (.chain o p a b c) σ S = (den F G (.chain o p a b c) σ S).bind blRs := by simp only [denT, den]
@[simp] theorem denT_v {i : Nat} : denT F G (.v i) σ S = (den F G (.v i) σ S).bind truRs := by simp only [denT, den]
@[simp] theorem denT_g {i : Nat} : denT F G (.g i) σ S = (den F G (.g i) σ S).bind truRs := by simp only [denT, den]
@[simp] theorem denT_ix : denT F G (.ix a b) σ S = (den F G (.ix a b) σ S).bind truRs := by simp only [denT, den]
@[simp] theorem denT_call {f : Nat} : denT F G (.call f es) σ S = (den F G (.call f es) σ S).bind truRs := by simp only [denT, den]
@[simp] theorem denT_bi {b : Bi} : denT F G (.bi b es) σ S = (den F G (.bi b es) σ S).bind truRs := by simp only [denT, den]
@[simp] theorem denT_isi {t : Ty} : denT F G (.isi a t) σ S = (den F G (.isi a t) σ S).bind truRs := by simp only [denT, den]
@[simp] theorem denT_isiC {i : Nat} {us : List Nat} : denT F G (.isiC i us a) σ S = (den F G (.isiC i us a) σ S).bind truRs := by simp only [denT, den]
@[simp] theorem denT_fld {c : Nat} {x : Str} : denT F G (.fld c x a) σ S = (den F G (.fld c x a) σ S).bind truRs := by simp only [denT, den]
@[simp] theorem denT_meth {i c f : Nat} {m : Str} : denT F G (.meth i c f m a es) σ S = (den F G (.meth i c f m a es) σ S).bind truRs := by simp only [denT, den]
/-! statements -/
variable {s : Sm} {r x y : Sms} {tg : Tg} {e o i : E}
@[simp] theorem denSs_nil : denSs F G .nil σ S = .nx σ S := by simp only [denSs]
@[simp] theorem denSs_cons : denSs F G (.cons s r) σ S = (denS F G s σ S).seq (denSs F G r) := by simp only [denSs]
@[simp] theorem denS_set : denS F G (.set tg e) σ S = setK (den F G e σ S) tg σ := by simp only [denS]; rfl
@[simp] theorem denS_setIx : denS F G (.setIx o i e) σ S = stK (den F G e σ S) (den F G o) (den F G i) σ xSet := by simp only [denS]; rfl
@[simp] theorem denS_putT : denS F G (.putT o i e) σ S = stK (den F G e σ S) (den F G o) (den F G i) σ xPutT := by simp only [denS]; rfl
@[simp] theorem denS_setFld {c : Nat} {f : Str} : denS F G (.setFld c f o e) σ S = sfK (den F G e σ S) (den F G o) σ (xFld c f) := by simp only [denS]; rfl
@[simp] theorem denS_ex : denS F G (.ex e) σ S = (den F G e σ S).fl σ fun _ S1 => .nx σ S1 := by simp only [denS]
@[simp] theorem denS_ret : denS F G (.ret e) σ S = (den F G e σ S).fl σ fun d S1 => .rt d S1 := by simp only [denS]
@[simp] theorem denS_ret0 : denS F G .ret0 σ S = .rt .non S := by simp only [denS]
@[simp] theorem denS_ite : denS F G (.ite e x y) σ S = pickF (denT F G e σ S) (denSs F G x) (denSs F G y) σ := by simp only [denS]; rfl
theorem denS_for {it : Ig} : denS F G (.for tg it x) σ S = (denI F G it σ S).fl σ fun s S1 => forGo s.live tg (denSs F G x) s.items σ S1 := by simp only [denS]
theorem denS_while {n : Nat} : denS F G (.while n e x) σ S = whGo (denT F G e) (denSs F G x) n σ S := by simp only [denS]
@[simp] theorem denS_brk : denS F G .brk σ S = .bk σ S := by simp only [denS]
@[simp] theorem denS_cnt : denS F G .cnt σ S = .ct σ S := by simp only [denS]
@[simp] theorem denS_pass : denS F G .pass σ S = .nx σ S := by simp only [denS]
end
@[simp] theorem blRs_bl {b : Bool} {S : Store} : blRs (.bl b) S = .ok b S := rfl
@[simp] theorem truRs_bl {b : Bool} {S : Store} : truRs (.bl b) S = .ok b S := rfl
@[simp] theorem intRs_int {b : Int} {S : Store} : intRs (.int b) S = .ok (some b) S := rfl
@[simp] theorem nonRs_non {d : D} {S : Store} : nonRs d .non S = .ok d S := rfl
@[simp] theorem asg_n {i : Nat} {d : D} {σ : Lc} : asg (.n i) d σ = some (σ.set i (some d)) := rfl
@[simp] theorem asg_t {is : List Nat} {ds : List D} {σ : Lc} : asg (.t is) (.tup ds) σ = setAll is ds σ := rfl
@[simp] theorem setAll_nil {σ : Lc} : setAll [] [] σ = some σ := rfl
@[simp] theorem setAll_cons {i : Nat} {is : List Nat} {d : D} {ds : List D} {σ : Lc} : setAll (i :: is) (d :: ds) σ = setAll is ds (σ.set i (some d)) := rfl
@[simp] theorem Bo_add {a b : D} {S : Store} : Bo.f .add a b S = dAdd a b S := rfl
@[simp] theorem Bo_sub {a b : D} {S : Store} : Bo.f .sub a b S = dSub a b S := rfl
@[simp] theorem Bo_mul {a b : D} {S : Store} : Bo.f .mul a b S = dMul a b S := rfl
@[simp] theorem Bo_div {a b : D} {S : Store} : Bo.f .div a b S = dDiv a b S := rfl
@[simp] theorem Bo_mod {a b : D} {S : Store} : Bo.f .mod a b S = dMod a b S := rfl
@[simp] theorem Bo_pow {a b : D} {S : Store} : Bo.f .pow a b S = dPow a b S := rfl
@[simp] theorem Bo_shl {a b : D} {S : Store} : Bo.f .shl a b S = dShl a b S := rfl
@[simp] theorem Co_eq {a b : D} {S : Store} : Co.f .eq a b S = dEq a b S := rfl
@[simp] theorem Co_ne {a b : D} {S : Store} : Co.f .ne a b S = dNe a b S := rfl
@[simp] theorem Co_lt {a b : D} {S : Store} : Co.f .lt a b S = dLt a b S := rfl
@[simp] theorem Co_le {a b : D} {S : Store} : Co.f .le a b S = dLe a b S := rfl
@[simp] theorem Co_gt {a b : D} {S : Store} : Co.f .gt a b S = dGt a b S := rfl
@[simp] theorem Co_ge {a b : D} {S : Store} : Co.f .ge a b S = dGe a b S := rfl
@[simp] theorem Co_is {a b : D} {S : Store} : Co.f .is a b S = dIs a b S := rfl
@[simp] theorem Co_isNot {a b : D} {S : Store} : Co.f .isNot a b S = dIsNot a b S := rfl
@[simp] theorem Co_inn {a b : D} {S : Store} : Co.f .inn a b S = xIn a b S := rfl
@[simp] theorem Co_notIn {a b : D} {S : Store} : Co.f .notIn a b S = xNotIn a b S := rfl
section
variable {i j : Int} {x y : Str} {S : Store} {xs ys : List D} {n m : Nat}
@[simp] theorem dAdd_int : dAdd (.int i) (.int j) S = some (.int (i + j), S) := rfl
@[simp] theorem dAdd_str : dAdd (.str x) (.str y) S = if x.length + y.length ≤ sizeLine then some (.str (x ++ y), S) else none := rfl
@[simp] theorem dAdd_tup : dAdd (.tup xs) (.tup ys) S = if xs.length + ys.length ≤ sizeLine then some (.tup (xs ++ ys), S) else none := rfl
theorem dAdd_ref (h1 : lstOf S n = some xs) (h2 : lstOf S m = some ys) : dAdd (.ref n) (.ref m) S = if xs.length + ys.length ≤ sizeLine then some (.ref S.length, S ++ [.lst (xs ++ ys)]) else none := by
  simp only [dAdd, h1, h2]
@[simp] theorem dSub_int : dSub (.int i) (.int j) S = some (.int (i - j), S) := rfl
@[simp] theorem dMul_int : dMul (.int i) (.int j) S = if (-(2 ^ 64) < i ∧ i < 2 ^ 64) ∨ (-(2 ^ 64) < j ∧ j < 2 ^ 64) then some (.int (i * j), S) else none := rfl
@[simp] theorem dDiv_int : dDiv (.int i) (.int j) S = if 0 < j ∧ j < 2 ^ 100 then some (.int (i / j), S) else none := rfl
@[simp] theorem dMod_int : dMod (.int i) (.int j) S = if 0 < j then some (.int (i % j), S) else none := rfl
@[simp] theorem dPow_int : dPow (.int i) (.int j) S = if 0 ≤ j ∧ j ≤ 1000000 ∧ i.natAbs < 2 ^ 64 then some (.int (i ^ j.toNat), S) else none := rfl
@[simp] theorem dShl_int : dShl (.int i) (.int j) S = if 0 ≤ j ∧ j ≤ 1000000 ∧ i.natAbs < 2 ^ 64 then some (.int (i * 2 ^ j.toNat), S) else none := rfl
@[simp] theorem dLt_int : dLt (.int i) (.int j) S = some (.bl (decide (i < j)), S) := rfl
@[simp] theorem dLe_int : dLe (.int i) (.int j) S = some (.bl (decide (i ≤ j)), S) := rfl
@[simp] theorem dGt_int : dGt (.int i) (.int j) S = some (.bl (decide (j < i)), S) := rfl
@[simp] theorem dGe_int : dGe (.int i) (.int j) S = some (.bl (decide (j ≤ i)), S) := rfl
@[simp] theorem cNeg_int : cNeg (.int i) S = some (.int (-i), S) := rfl
@[simp] theorem dEq_int : dEq (.int i) (.int j) S = some (.bl (decide (i = j)), S) := by simp [dEq, dEqB, okD, deq, pP, PyData.eqv]; rfl
@[simp] theorem dNe_int : dNe (.int i) (.int j) S = some (.bl (!decide (i = j)), S) := by simp [dNe, dEqB, okD, deq, pP, PyData.eqv]; rfl
@[simp] theorem dEq_str : dEq (.str x) (.str y) S = some (.bl (decide (x = y)), S) := rfl
@[simp] theorem dNe_str : dNe (.str x) (.str y) S = some (.bl (!decide (x = y)), S) := rfl
@[simp] theorem dIs_non {d : D} : dIs d .non S = some (.bl (isNon d), S) := rfl
@[simp] theorem dIsNot_non {d : D} : dIsNot d .non S = some (.bl (!isNon d), S) := rfl
@[simp] theorem isNon_non : isNon .non = true := rfl
@[simp] theorem isNon_tup : isNon (.tup xs) = false := rfl
@[simp] theorem isNon_str : isNon (.str x) = false := rfl
@[simp] theorem isNon_int : isNon (.int i) = false := rfl
@[simp] theorem isNon_ref : isNon (.ref n) = false := rfl
@[simp] theorem xIx_tup : xIx (.tup xs) (.int i) S = (atI xs i).map fun v => (v, S) := rfl
@[simp] theorem xIx_str : xIx (.str x) (.int i) S = if x.length ≤ sizeLine then (atI x.cps.toList i).map fun c => (.str ⟨#[c]⟩, S) else none := rfl
theorem xIx_lst (h : lstOf S n = some xs) : xIx (.ref n) (.int i) S = (atI xs i).map fun v => (v, S) := by
  unfold xIx lookD
  unfold lstOf at h
  split
  · rename_i d n' e
    cases e
    cases e1 : S[n]? with
    | none => rw [e1] at h; cases h
    | some o =>
      rw [e1] at h
      cases o with
      | lst ys => cases h; simp only [dIx, lstOf, e1]
      | ro ys => cases h; simp only [dIx, lstOf, e1]
      | dic _ => cases h
      | dicT _ => cases h
      | ins _ _ => cases h
  · rename_i hn; exact absurd rfl (hn n)
end
def gt (S : Store) (n : Nat) : Option O := S[n]?
@[simp] theorem ixN_lit {n k : Nat} : ixN n (no_index (OfNat.ofNat k : Int)) = if k < n then some k else none := by
  show ixN n (k : Int) = _
  unfold ixN
  rw [if_pos (by omega)]
  by_cases h : k < n
  · rw [if_pos h, if_pos (by omega)]; simp
  · rw [if_neg h, if_neg (by omega)]
@[simp] theorem ixN_cast {n k : Nat} : ixN n (k : Int) = if k < n then some k else none := ixN_lit
@[simp] theorem atI_lit {α : Type} {xs : List α} {k : Nat} : atI xs (no_index (OfNat.ofNat k : Int)) = xs[k]? := by
  show atI xs (k : Int) = _
  unfold atI
  rw [ixN_cast]
  by_cases h : k < xs.length
  · rw [if_pos h]; rfl
  · rw [if_neg h, List.getElem?_eq_none (by omega)]; rfl
@[simp] theorem atI_cast {α : Type} {xs : List α} {k : Nat} : atI xs (k : Int) = xs[k]? := atI_lit
theorem atI_of {α : Type} {xs : List α} {i : Int} (h : 0 ≤ i) : atI xs i = xs[i.toNat]? := by
  obtain ⟨k, rfl⟩ := Int.eq_ofNat_of_zero_le h
  rw [atI_cast]; rfl
theorem xSet_lst {S : Store} {r : Nat} {xs : List D} {i : Int} {v : D} (h : S[r]? = some (.lst xs)) : xSet (.ref r) (.int i) v S = (ixN xs.length i).map fun j => S.set r (.lst (xs.set j v)) := by
  unfold xSet; simp only [h]
theorem set_get {S : Store} {r : Nat} {o u : O} (h : S[r]? = some o) : (S.set r u)[r]? = some u := by
  rw [List.getElem?_set_self (List.getElem?_eq_some_iff.mp h).1]
@[simp] theorem mul_cond {i : Int} {k : Nat} : ((-(2 ^ 64) < i ∧ i < 2 ^ 64) ∨ (-(2 ^ 64) < (k : Int) ∧ (k : Int) < 2 ^ 64)) ↔ ((-(2 ^ 64) < i ∧ i < 2 ^ 64) ∨ (k : Int) < 2 ^ 64) := by omega
@[simp] theorem lstOf_eq {S : Store} {n : Nat} : lstOf S n = match gt S n with
  | some (.lst xs) => some xs
  | some (.ro xs) => some xs
  | _ => none := rfl
@[simp] theorem xIx_ref {S : Store} {n : Nat} {i : Int} : xIx (.ref n) (.int i) S = match gt S n with
  | some (.lst xs) => (atI xs i).map fun v => (v, S)
  | some (.ro xs) => (atI xs i).map fun v => (v, S)
  | some (.dic ps) => (valD ps (Sum.inl i : Key)).map fun v => (v, S)
  | _ => none := by
  unfold xIx lookD gt
  simp only [dIx, lstOf]
  cases S[n]? with
  | none => rfl
  | some o => cases o <;> rfl
@[simp] theorem xSet_ref {S : Store} {n : Nat} {i : Int} {v : D} : xSet (.ref n) (.int i) v S = match gt S n with
  | some (.lst xs) => (ixN xs.length i).map fun j => S.set n (.lst (xs.set j v))
  | some (.dic ps) => if ps.length < sizeLine then some (S.set n (.dic (putD ps (Sum.inl i : Key) v))) else none
  | _ => none := by
  unfold xSet gt
  dsimp only
  cases S[n]? with
  | none => rfl
  | some o => cases o <;> rfl
@[simp] theorem Bi_len : Bi.f .len = cLen := rfl
@[simp] theorem Bi_list : Bi.f .list = cList := rfl
@[simp] theorem Bi_tuple : Bi.f .tuple = cTuple := rfl
@[simp] theorem Bi_sum : Bi.f .sum = cSum := rfl
@[simp] theorem Bi_all : Bi.f .all = cAll := rfl
@[simp] theorem Bi_any : Bi.f .any = cAny := rfl
@[simp] theorem Bi_max : Bi.f .max = cMax := rfl
@[simp] theorem Bi_min : Bi.f .min = cMin := rfl
@[simp] theorem Bi_int : Bi.f .int = cInt := rfl
@[simp] theorem Bi_str : Bi.f .str = cStr := rfl
@[simp] theorem Mh_append : Mh.f .append = mAppend := rfl
@[simp] theorem Mh_extend : Mh.f .extend = mExtend := rfl
@[simp] theorem Mh_pop : Mh.f .pop = mPop := rfl
@[simp] theorem Mh_reverse : Mh.f .reverse = mReverse := rfl
@[simp] theorem Mh_split : Mh.f .split = sSplit := rfl
@[simp] theorem Mh_upper : Mh.f .upper = sUpper := rfl
@[simp] theorem Mh_join : Mh.f .join = sJoin := rfl
@[simp] theorem Mh_sindex : Mh.f .sindex = sIndex := rfl
@[simp] theorem Mh_get : Mh.f .get = mGet := rfl
@[simp] theorem MhT_append : Mh.T .append = "list" := rfl
@[simp] theorem MhT_extend : Mh.T .extend = "list" := rfl
@[simp] theorem MhT_pop : Mh.T .pop = "list" := rfl
@[simp] theorem MhT_reverse : Mh.T .reverse = "list" := rfl
@[simp] theorem MhT_split : Mh.T .split = "str" := rfl
@[simp] theorem MhT_upper : Mh.T .upper = "str" := rfl
@[simp] theorem MhT_join : Mh.T .join = "str" := rfl
@[simp] theorem MhT_sindex : Mh.T .sindex = "str" := rfl
@[simp] theorem MhT_get : Mh.T .get = "dict" := rfl
section
variable {S : Store} {n m : Nat} {x y : Str} {xs ys : List D} {i j : Int} {d e : D} {T : String}
@[simp] theorem tyOk_str : tyOk T (.str x) S = (T == "str") := rfl
@[simp] theorem tyOk_ref : tyOk T (.ref n) S = match gt S n with
    | some (.lst _) => T == "list"
    | some (.ro _) => T == "list"
    | some (.dic _) => T == "dict"
    | some (.dicT _) => T == "dict"
    | _ => false := rfl
@[simp] theorem insOk_ref {c : Nat} {f : Str} : insOk c f (.ref n) S = match gt S n with
    | some (.ins c' fs) => c' == c && (fs.lookup f).isNone
    | _ => false := rfl
@[simp] theorem cFld_ref {c : Nat} {f : Str} : cFld c f (.ref n) S = match gt S n with
    | some (.ins c' fs) => if c' = c then (fs.lookup f).map fun v => (v, S) else none
    | _ => none := rfl
@[simp] theorem xFld_ref {c : Nat} {f : Str} : xFld c f (.ref n) d S = match gt S n with
    | some (.ins c' fs) => if c' = c ∧ fs.length < 1000 then some (S.set n (.ins c (putFD f d fs))) else none
    | _ => none := rfl
@[simp] theorem seqOf_ref : seqOf S (.ref n) = match gt S n with
    | some (.lst xs) => some xs
    | some (.ro xs) => some xs
    | _ => none := rfl
@[simp] theorem seqOf_tup : seqOf S (.tup xs) = some xs := rfl
@[simp] theorem cLen_str : cLen [.str x] S = if x.length ≤ sizeLine then some (.int x.length, S) else none := rfl
@[simp] theorem cLen_tup : cLen [.tup xs] S = some (.int xs.length, S) := rfl
@[simp] theorem cLen_ref : cLen [.ref n] S = (seqOf S (.ref n)).map fun xs => (.int xs.length, S) := rfl
@[simp] theorem cList_one : cList [d] S = (seqOf S d).map fun xs => (.ref S.length, S ++ [.lst xs]) := rfl
@[simp] theorem cTuple_one : cTuple [d] S = (seqOf S d).map fun xs => (.tup xs, S) := rfl
@[simp] theorem cSum_ref : cSum [.ref n] S = ((lstOf S n).bind ints?).map fun ns => (.int ns.sum, S) := rfl
@[simp] theorem cAll_ref : cAll [.ref n] S = ((lstOf S n).bind bls?).map fun ns => (.bl (ns.all id), S) := rfl
@[simp] theorem cAny_ref : cAny [.ref n] S = ((lstOf S n).bind bls?).map fun ns => (.bl (ns.any id), S) := rfl
@[simp] theorem cMax_two : cMax [.int i, .int j] S = some (.int (if j > i then j else i), S) := rfl
@[simp] theorem cMin_two : cMin [.int i, .int j] S = some (.int (if j < i then j else i), S) := rfl
@[simp] theorem cInt_int : cInt [.int i] S = some (.int i, S) := rfl
@[simp] theorem cInt_bl {b : Bool} : cInt [.bl b] S = some (.int (if b then 1 else 0), S) := rfl
@[simp] theorem cStr_int : cStr [.int i] S = if i.natAbs.log2 < 1920 then some (.str (toString i), S) else none := rfl
@[simp] theorem mAppend_ref : mAppend (.ref n) [d] S = match gt S n with
    | some (.lst xs) => if xs.length < sizeLine then some (.non, S.set n (.lst (xs ++ [d]))) else none
    | _ => none := rfl
@[simp] theorem mPop_ref : mPop (.ref n) [.int i] S = match gt S n with
    | some (.lst xs) => if -(2 ^ 63) ≤ i ∧ i < 2 ^ 63 then (seqIndex? i xs.length).bind fun k => (xs[k]?).map fun y => (y, S.set n (.lst (xs.eraseIdx k))) else none
    | _ => none := rfl
@[simp] theorem sJoin_one : sJoin (.str x) [d] S = ((seqOf S d).bind strs?).bind fun ys => if (ys.map (·.length)).sum + ys.length * x.length ≤ 16777216 then some (.str (Txt.join x ys), S) else none := rfl
@[simp] theorem srcE_ref : srcE (.ref n) S = match gt S n with
    | some (.lst xs) => .ok ⟨xs, [(n, xs)]⟩ S
    | some (.ro xs) => .ok ⟨xs, [(n, xs)]⟩ S
    | _ => .no := by
  unfold srcE lstOf gt
  dsimp only
  cases S[n]? with
  | none => rfl
  | some o => cases o <;> rfl
@[simp] theorem srcE_tup : srcE (.tup xs) S = .ok ⟨xs, []⟩ S := rfl
@[simp] theorem srcR_int : srcR (.int i) (.int j) S = if -(2 ^ 62) ≤ i ∧ i < 2 ^ 62 ∧ -(2 ^ 62) ≤ j ∧ j < 2 ^ 62 ∧ (j - i).toNat ≤ sizeLine then .ok ⟨rngItems i j, []⟩ S else .no := rfl
@[simp] theorem live_one : Src.live ⟨xs, [(n, ys)]⟩ S = (lstOf S n = some ys) := by unfold Src.live; simp
@[simp] theorem live_no : Src.live ⟨xs, []⟩ S = True := by unfold Src.live; simp
@[simp] theorem cIsi_of {t : Ty} : cIsi t d S = (tyD S d).map fun T => (.bl (isiB T t), S) := rfl
@[simp] theorem tyD_tup : tyD S (.tup xs) = some "tuple" := rfl
@[simp] theorem tyD_str : tyD S (.str x) = some "str" := rfl
@[simp] theorem tyD_int : tyD S (.int i) = some "int" := rfl
@[simp] theorem tyD_bl {b : Bool} : tyD S (.bl b) = some "bool" := rfl
@[simp] theorem tyD_non : tyD S .non = some "NoneType" := rfl
@[simp] theorem tyD_ref : tyD S (.ref n) = match gt S n with
    | some (.lst _) => some "list"
    | some (.ro _) => some "list"
    | some (.dic _) => some "dict"
    | some (.dicT _) => some "dict"
    | _ => none := rfl
theorem cIsiC_ref {us : List Nat} {c : Nat} {fs : List (Str × D)} (h : gt S n = some (.ins c fs)) : cIsiC us (.ref n) S = some (.bl (us.any fun u => u == c), S) := by
  unfold cIsiC
  have h' : S[n]? = some (.ins c fs) := h
  simp [h, h']
end
@[simp] theorem set_at {α : Type} {l : List α} {n : Nat} {x : α} : (l.set n x)[n]? = (l[n]?).map fun _ => x := by
  by_cases h : n < l.length
  · rw [List.getElem?_set_self h, List.getElem?_eq_getElem h]; rfl
  · rw [List.getElem?_eq_none (by simp; omega), List.getElem?_eq_none (by omega)]; rfl
@[simp] theorem app_at {α : Type} {l t : List α} : (l ++ t)[l.length]? = t[0]? := by
  rw [List.getElem?_append_right (Nat.le_refl _), Nat.sub_self]
@[simp] theorem app_add {α : Type} {l t : List α} {k : Nat} : (l ++ t)[l.length + k]? = t[k]? := by
  rw [List.getElem?_append_right (by omega)]
  congr 1; omega
@[simp] theorem app_set {α : Type} {l t : List α} {x : α} : (l ++ t).set l.length x = l ++ t.set 0 x := by
  rw [List.set_append_right _ _ (Nat.le_refl _), Nat.sub_self]
@[simp] theorem app_setadd {α : Type} {l t : List α} {k : Nat} {x : α} : (l ++ t).set (l.length + k) x = l ++ t.set k x := by
  rw [List.set_append_right _ _ (by omega)]
  congr 2; omega
@[simp] theorem gt_set {S : Store} {n : Nat} {x : O} : gt (S.set n x) n = (gt S n).map fun _ => x := set_at
theorem gt_set_ne {S : Store} {n m : Nat} {x : O} (h : n ≠ m) : gt (S.set n x) m = gt S m := List.getElem?_set_ne h
@[simp] theorem gt_at {S t : Store} {o : O} : gt (S ++ o :: t) S.length = some o := by
  show (S ++ o :: t)[S.length]? = some o
  rw [app_at]; rfl
@[simp] theorem gt_add {S t : Store} {k : Nat} : gt (S ++ t) (S.length + k) = gt t k := app_add
@[simp] theorem gt_cons0 {o : O} {t : Store} : gt (o :: t) 0 = some o := rfl
@[simp] theorem gt_cons1 {o : O} {t : Store} {k : Nat} : gt (o :: t) (k + 1) = gt t k := rfl
theorem gt_app {S t : Store} {o : O} {n : Nat} (h : gt S n = some o) : gt (S ++ t) n = some o := by
  show (S ++ t)[n]? = some o
  rw [List.getElem?_append_left (List.getElem?_eq_some_iff.mp h).1]; exact h
theorem gt_lt {S : Store} {o : O} {n : Nat} (h : gt S n = some o) : n < S.length := (List.getElem?_eq_some_iff.mp h).1
theorem set_app {S t : Store} {o : O} {n : Nat} {x : O} (h : gt S n = some o) : (S ++ t).set n x = S.set n x ++ t := List.set_append_left _ _ (gt_lt h)
@[simp] theorem dAdd_refs {S : Store} {n m : Nat} : dAdd (.ref n) (.ref m) S = match lstOf S n, lstOf S m with
    | some xs, some ys => if xs.length + ys.length ≤ sizeLine then some (.ref S.length, S ++ [.lst (xs ++ ys)]) else none
    | _, _ => none := rfl
theorem ofS_cps (a : String) : (Str.ofString a).cps.toList = a.toList.map Char.toNat := by
  show (cpsOfBytes 0 0 a.toByteArray.data.toList).toArray.toList = _
  rw [List.toList_toArray, cpsOfBytes_string]
theorem toNat_inj : ∀ {a b : List Char}, a.map Char.toNat = b.map Char.toNat → a = b
  | [], [], _ => rfl
  | [], _ :: _, h => by simp at h
  | _ :: _, [], h => by simp at h
  | c :: a, d :: b, h => by
    rw [List.map_cons, List.map_cons] at h
    injection h with h1 h2
    rw [toNat_inj h2, Char.toNat_inj.mp h1]
@[simp] theorem ofS_inj {a b : String} : Str.ofString a = Str.ofString b ↔ a = b := ⟨fun h => by
  have e : (Str.ofString a).cps.toList = (Str.ofString b).cps.toList := by rw [h]
  rw [ofS_cps, ofS_cps] at e
  exact String.toList_inj.mp (toNat_inj e), fun h => by rw [h]⟩
@[simp] theorem ofS_beq {a b : String} : (Str.ofString a == Str.ofString b) = (a == b) := by
  by_cases h : a = b
  · rw [h]; simp
  · have : ¬ Str.ofString a = Str.ofString b := fun z => h (ofS_inj.mp z)
    rw [beq_eq_false_iff_ne.mpr this, beq_eq_false_iff_ne.mpr h]
theorem ofS_len (a : String) : (Str.ofString a).length = a.toList.length := by
  show (Str.ofString a).cps.size = _
  rw [← Array.length_toList, ofS_cps, List.length_map]
@[simp] theorem look_cons {α : Type} {k j : Str} {v : α} {r : List (Str × α)} : List.lookup k ((j, v) :: r) = if k = j then some v else List.lookup k r := by
  rw [List.lookup_cons]
  by_cases h : k = j
  · subst h; simp
  · rw [beq_eq_false_iff_ne.mpr h, if_neg h]
/-- an object of the store stays where it is -/
theorem get_app {α : Type} {l t : List α} {x : α} {n : Nat} (h : l[n]? = some x) : (l ++ t)[n]? = some x := by
  rw [List.getElem?_append_left (List.getElem?_eq_some_iff.mp h).1]; exact h
theorem lstOf_lst {S : Store} {n : Nat} {xs : List D} (h : S[n]? = some (.lst xs)) : lstOf S n = some xs := by unfold lstOf; rw [h]
theorem lstOf_ro {S : Store} {n : Nat} {xs : List D} (h : S[n]? = some (.ro xs)) : lstOf S n = some xs := by unfold lstOf; rw [h]
/-! ### loops -/
theorem live_nil {S : Store} {xs : List D} : Src.live ⟨xs, []⟩ S := fun p hp => by cases hp
open Classical in
theorem forGo_nil {live : Store → Prop} {tg : Tg} {body : Lc → Store → Fl} {σ : Lc} {S : Store} : forGo live tg body [] σ S = if live S then .nx σ S else .no := by simp only [forGo]
open Classical in
theorem forGo_cons {live : Store → Prop} {tg : Tg} {body : Lc → Store → Fl} {x : D} {r : List D} {σ : Lc} {S : Store} : forGo live tg body (x :: r) σ S = if live S then (match asg tg x σ with
    | some σ2 => (body σ2 S).loop (forGo live tg body r)
    | none => .no) else .no := by first | rfl | simp only [forGo] | (simp only [forGo]; rfl)
open Classical in
theorem forGo_inv {live : Store → Prop} {tg : Tg} {body : Lc → Store → Fl} {xs : List D} (I : Nat → Lc → Store → Prop) {σ : Lc} {S : Store} (h0 : I 0 σ S) (hl : ∀ i σ S, i ≤ xs.length → I i σ S → live S)
    (hs : ∀ (i : Nat) (x : D) (σ : Lc) (S : Store), xs[i]? = some x → I i σ S → ∃ σ1 σ2 S2, asg tg x σ = some σ1 ∧ (body σ1 S = .nx σ2 S2 ∨ body σ1 S = .ct σ2 S2) ∧ I (i + 1) σ2 S2) :
    ∃ σ' S', forGo live tg body xs σ S = .nx σ' S' ∧ I xs.length σ' S' := by
  have gen : ∀ (k i : Nat) (σ : Lc) (S : Store), i + k = xs.length → I i σ S → ∃ σ' S', forGo live tg body (xs.drop i) σ S = .nx σ' S' ∧ I xs.length σ' S' := by
    intro k
    induction k with
    | zero =>
      intro i σ S hi h
      rw [List.drop_eq_nil_of_le (by omega)]
      refine ⟨σ, S, ?_, by rw [← hi]; exact h⟩
      simp only [forGo]
      rw [if_pos (hl i σ S (by omega) h)]
    | succ k ih =>
      intro i σ S hi h
      have hlt : i < xs.length := by omega
      rw [List.drop_eq_getElem_cons hlt]
      obtain ⟨σ1, σ2, S2, e1, e2, e3⟩ := hs i _ σ S (List.getElem?_eq_getElem hlt) h
      obtain ⟨σ', S', f1, f2⟩ := ih (i + 1) σ2 S2 (by omega) e3
      refine ⟨σ', S', ?_, f2⟩
      simp only [forGo]
      rw [if_pos (hl i σ S (by omega) h), e1]
      rcases e2 with e2 | e2
      · simp only [e2, Fl.loop_nx]; exact f1
      · simp only [e2, Fl.loop_ct]; exact f1
  simpa using gen xs.length 0 σ S (by omega) h0
/-- it goes on, in a state of Q -/
def Fl.nxt (r : Fl) (Q : Lc → Store → Prop) : Prop := match r with
  | .nx σ S => Q σ S
  | .ct σ S => Q σ S
  | _ => False
@[simp] theorem Fl.nxt_nx {σ : Lc} {S : Store} {Q : Lc → Store → Prop} : (Fl.nx σ S).nxt Q = Q σ S := rfl
@[simp] theorem Fl.nxt_ct {σ : Lc} {S : Store} {Q : Lc → Store → Prop} : (Fl.ct σ S).nxt Q = Q σ S := rfl
theorem forGo_nxt {live : Store → Prop} {tg : Tg} {body : Lc → Store → Fl} {xs : List D} (I : Nat → Lc → Store → Prop) {σ : Lc} {S : Store} (h0 : I 0 σ S) (hl : ∀ i σ S, i ≤ xs.length → I i σ S → live S)
    (hs : ∀ (i : Nat) (x : D) (σ : Lc) (S : Store), xs[i]? = some x → I i σ S → ∃ σ1, asg tg x σ = some σ1 ∧ (body σ1 S).nxt (I (i + 1))) :
    ∃ σ' S', forGo live tg body xs σ S = .nx σ' S' ∧ I xs.length σ' S' := by
  refine forGo_inv I h0 hl fun i x σ S hx hI => ?_
  obtain ⟨σ1, e1, e2⟩ := hs i x σ S hx hI
  cases e : body σ1 S with
  | nx σ2 S2 => rw [e] at e2; exact ⟨σ1, σ2, S2, e1, .inl e, e2⟩
  | ct σ2 S2 => rw [e] at e2; exact ⟨σ1, σ2, S2, e1, .inr e, e2⟩
  | bk σ2 S2 => rw [e] at e2; exact e2.elim
  | rt d S2 => rw [e] at e2; exact e2.elim
  | exc x σ2 S2 => rw [e] at e2; exact e2.elim
  | no => rw [e] at e2; exact e2.elim
open Classical in
theorem lcGo_inv {live : Store → Prop} {turn : D → Store → Rs (Option D)} {xs : List D} (I : Nat → Store → Prop) (Q : D → Prop) {S : Store} (h0 : I 0 S) (hl : ∀ i S, i ≤ xs.length → I i S → live S)
    (hs : ∀ (i : Nat) (x : D) (S : Store), xs[i]? = some x → I i S → ∃ o S2, turn x S = .ok o S2 ∧ (∀ d, o = some d → Q d) ∧ I (i + 1) S2) :
    ∃ ds S', lcGo live turn xs S = .ok ds S' ∧ I xs.length S' ∧ (∀ d ∈ ds, Q d) ∧ ds.length ≤ xs.length := by
  have gen : ∀ (k i : Nat) (S : Store), i + k = xs.length → I i S → ∃ ds S', lcGo live turn (xs.drop i) S = .ok ds S' ∧ I xs.length S' ∧ (∀ d ∈ ds, Q d) ∧ ds.length ≤ k := by
    intro k
    induction k with
    | zero =>
      intro i S hi h
      rw [List.drop_eq_nil_of_le (by omega)]
      refine ⟨[], S, ?_, (by rw [← hi]; exact h), (fun d hd => nomatch hd), Nat.le_refl _⟩
      simp only [lcGo]
      rw [if_pos (hl i S (by omega) h)]
    | succ k ih =>
      intro i S hi h
      have hlt : i < xs.length := by omega
      rw [List.drop_eq_getElem_cons hlt]
      obtain ⟨o, S2, e2, e3, e4⟩ := hs i _ S (List.getElem?_eq_getElem hlt) h
      obtain ⟨ds, S', f1, f2, f3, f4⟩ := ih (i + 1) S2 (by omega) e4
      refine ⟨o.toList ++ ds, S', ?_, f2, fun d hd => ?_, ?_⟩
      · simp only [lcGo]
        rw [if_pos (hl i S (by omega) h), e2]
        simp only [Rs.calm_ok, Rs.bind_ok, f1]
      · rcases List.mem_append.mp hd with hd | hd
        · cases o with
          | none => cases hd
          | some z => simp at hd; subst hd; exact e3 _ rfl
        · exact f3 d hd
      · cases o <;> simp <;> omega
  simpa using gen xs.length 0 S (by omega) h0
end KD

/-! the text of law_k23_the_least_world in the own syntax (printed by gen.py) -/
namespace KD.K23
open PySem L2 KD
abbrev tops : List Stmt := PySem.Challenge.pw_kindcourt_k23_the_least_world.main.body
def top (i : Nat) : Stmt := tops.getD i (.Pass ⟨0, 0, 0, 0⟩)
def inner (i j : Nat) : Stmt := match top i with
  | .ClassDef (body := b) .. => b.getD j (.Pass ⟨0, 0, 0, 0⟩)
  | _ => .Pass ⟨0, 0, 0, 0⟩
abbrev f_of_two_numbers : Nat := 0
abbrev f_least_world : Nat := 1
abbrev f__law_at : Nat := 2
abbrev f__law_begin : Nat := 3
abbrev f__law_draw : Nat := 4
abbrev f__law_name : Nat := 5
abbrev f__law_due : Nat := 6
abbrev f_law : Nat := 7
abbrev m_World_scheme_of : Nat := 8
abbrev m_World_name_called : Nat := 9
abbrev m_World_shape_called : Nat := 10
abbrev m_World_shape_of : Nat := 11
abbrev m_World_house_for : Nat := 12
abbrev m_World_class_called : Nat := 13
abbrev m_World___init__ : Nat := 14
abbrev m_World_class_by_deed : Nat := 15
abbrev i_World_scheme_of : Nat := 0
abbrev i_World_name_called : Nat := 1
abbrev i_World_shape_called : Nat := 2
abbrev i_World_shape_of : Nat := 3
abbrev i_World_house_for : Nat := 4
abbrev i_World_class_called : Nat := 5
abbrev i_World___init__ : Nat := 6
abbrev i_World_class_by_deed : Nat := 7
abbrev u_World : List Nat := [0]
def b_of_two_numbers : Sms := (.cons (.ret (.tup (.cons (.tup .nil) (.cons (.tup .nil) (.cons (.tup (.cons (.k (.str "fun")) (.cons (.g 1) (.cons (.tup (.cons (.k (.str "fun")) (.cons (.g 1) (.cons (.v 0) .nil)))) .nil)))) .nil)))))
 .nil)
def d_of_two_numbers : Df := ⟨["kind"], ["kind"], b_of_two_numbers⟩
def b_least_world : Sms := (.cons (.set (.n 0) (.lst .nil))
 (.cons (.for (.t [1, 2]) (.e (.tup (.cons (.tup (.cons (.k (.str "add")) (.cons (.g 1) .nil))) (.cons (.tup (.cons (.k (.str "sub")) (.cons (.g 1) .nil))) (.cons (.tup (.cons (.k (.str "less")) (.cons (.g 0) .nil))) .nil))))) (.cons (.ex (.me .append (.v 0) (.cons (.tup (.cons (.v 1) (.cons (.call f_of_two_numbers (.cons (.v 2) .nil)) (.cons (.k .non) (.cons (.k .non) .nil))))) .nil)))
 .nil))
 (.cons (.ret (.make 0 0 m_World___init__ (.cons (.tup .nil) (.cons (.tup .nil) (.cons (.tup .nil) (.cons (.bi .tuple (.cons (.v 0) .nil)) .nil))))))
 .nil)))
def d_least_world : Df := ⟨[], ["names", "name", "kind"], b_least_world⟩
def b__law_at : Sms := (.cons (.ite (.cmp .lt (.v 1) (.bi .len (.cons (.v 0) .nil))) (.cons (.ret (.ix (.v 0) (.v 1)))
 .nil) .nil)
 (.cons (.ret (.op .mod (.op .mul (.op .add (.op .mod (.ix (.op .add (.v 0) (.lst (.cons (.k (.int 0)) .nil))) (.k (.int 0))) (.k (.int 1000003))) (.k (.int 37))) (.op .add (.op .mul (.v 1) (.v 1)) (.k (.int 40031)))) (.k (.int 2147483647))))
 .nil))
def d__law_at : Df := ⟨["_law_script", "_law_k"], ["_law_script", "_law_k"], b__law_at⟩
def b__law_begin : Sms := (.cons (.ret (.lst (.cons (.op .div (.v 0) (.k (.int 2))) (.cons (.op .mod (.v 0) (.k (.int 2))) .nil))))
 .nil)
def d__law_begin : Df := ⟨["_law_cell"], ["_law_cell"], b__law_begin⟩
def b__law_draw : Sms := (.cons (.ite (.cmp .eq (.ix (.v 0) (.k (.int 1))) (.k (.int 0))) (.cons (.set (.n 2) (.op .mod (.ix (.v 0) (.k (.int 0))) (.v 1)))
 (.cons (.setIx (.v 0) (.k (.int 0)) (.op .div (.ix (.v 0) (.k (.int 0))) (.v 1)))
 (.cons (.ret (.v 2))
 .nil))) .nil)
 (.cons (.set (.n 3) (.op .mod (.op .add (.op .mul (.op .mod (.ix (.v 0) (.k (.int 0))) (.k (.int 2147483647))) (.k (.int 48271))) (.k (.int 11))) (.k (.int 2147483629))))
 (.cons (.setIx (.v 0) (.k (.int 0)) (.op .mod (.op .add (.op .add (.op .mul (.v 3) (.k (.int 69621))) (.op .mod (.op .div (.ix (.v 0) (.k (.int 0))) (.k (.int 2147483647))) (.k (.int 1000003)))) (.k (.int 7))) (.k (.int 2147483587))))
 (.cons (.ret (.op .mod (.op .div (.op .mod (.op .add (.op .mul (.ix (.v 0) (.k (.int 0))) (.k (.int 16807))) (.k (.int 3))) (.k (.int 2147483579))) (.k (.int 5))) (.v 1)))
 .nil))))
def d__law_draw : Df := ⟨["_law_state", "_law_many"], ["_law_state", "_law_many", "_law_got", "_law_number"], b__law_draw⟩
def b__law_name : Sms := (.cons (.set (.n 1) (.k (.str "abdelsu")))
 (.cons (.set (.n 2) (.lst (.cons (.k (.str "add")) (.cons (.k (.str "sub")) (.cons (.k (.str "less")) (.cons (.k (.str "ad")) (.cons (.k (.str "addd")) (.cons (.k (.str "su")) (.cons (.k (.str "les")) (.cons (.k (.str "subs")) (.cons (.k (.str "num")) (.cons (.k (.str "truth")) (.cons (.k (.str "s")) (.cons (.k (.str "same")) (.cons (.k (.str "lesss")) (.cons (.k (.str "Add")) .nil))))))))))))))))
 (.cons (.ite (.cmp .eq (.call f__law_draw (.cons (.v 0) (.cons (.k (.int 2)) .nil))) (.k (.int 0))) (.cons (.ret (.ix (.v 2) (.call f__law_draw (.cons (.v 0) (.cons (.k (.int 14)) .nil)))))
 .nil) .nil)
 (.cons (.ret (.me .join (.k (.str "")) (.cons (.lc (.ix (.v 1) (.call f__law_draw (.cons (.v 0) (.cons (.k (.int 7)) .nil)))) (.n 3) (.rng (.op .add (.k (.int 1)) (.call f__law_draw (.cons (.v 0) (.cons (.k (.int 8)) .nil))))) .no [("_law_k", 3)]) .nil)))
 .nil))))
def d__law_name : Df := ⟨["_law_state"], ["_law_state", "_law_letters", "_law_some", "_law_k"], b__law_name⟩
def b__law_due : Sms := (.cons (.set (.n 0) (.lst .nil))
 (.cons (.for (.t [1, 2]) (.e (.lst (.cons (.tup (.cons (.k (.str "add")) (.cons (.k (.str "num")) .nil))) (.cons (.tup (.cons (.k (.str "sub")) (.cons (.k (.str "num")) .nil))) (.cons (.tup (.cons (.k (.str "less")) (.cons (.k (.str "truth")) .nil))) .nil))))) (.cons (.set (.n 3) (.tup (.cons (.k (.str "fun")) (.cons (.tup (.cons (.k (.str "num")) .nil)) (.cons (.tup (.cons (.k (.str "fun")) (.cons (.tup (.cons (.k (.str "num")) .nil)) (.cons (.tup (.cons (.v 2) .nil)) .nil)))) .nil)))))
 (.cons (.ex (.me .append (.v 0) (.cons (.tup (.cons (.v 1) (.cons (.tup (.cons (.tup .nil) (.cons (.tup .nil) (.cons (.v 3) .nil)))) (.cons (.k .non) (.cons (.k .non) .nil))))) .nil)))
 .nil)))
 (.cons (.ret (.bi .tuple (.cons (.v 0) .nil)))
 .nil)))
def d__law_due : Df := ⟨[], ["_law_due_here", "_law_name_here", "_law_last", "_law_kind"], b__law_due⟩
def b_law : Sms := (.cons (.set (.n 1) (.call f__law_due .nil))
 (.cons (.set (.n 2) (.call f_least_world .nil))
 (.cons (.ite (.or (.cons (.not (.isiC 0 u_World (.v 2))) (.cons (.cmp .ne (.tup (.cons (.fld 0 "shapes" (.v 2)) (.cons (.fld 0 "classes" (.v 2)) (.cons (.fld 0 "houses" (.v 2)) .nil)))) (.tup (.cons (.tup .nil) (.cons (.tup .nil) (.cons (.tup .nil) .nil))))) .nil))) (.cons (.ret (.k (.bl false)))
 .nil) .nil)
 (.cons (.ite (.or (.cons (.not (.isi (.fld 0 "names" (.v 2)) .tuple)) (.cons (.cmp .ne (.fld 0 "names" (.v 2)) (.v 1)) (.cons (.cmp .ne (.fld 0 "names" (.call f_least_world .nil)) (.v 1)) .nil)))) (.cons (.ret (.k (.bl false)))
 .nil) .nil)
 (.cons (.for (.n 3) (.rng (.bi .max (.cons (.k (.int 1)) (.cons (.bi .min (.cons (.bi .len (.cons (.v 0) .nil)) (.cons (.k (.int 20)) .nil))) .nil)))) (.cons (.set (.n 4) (.call f__law_begin (.cons (.call f__law_at (.cons (.v 0) (.cons (.v 3) .nil))) .nil)))
 (.cons (.set (.n 5) (.call f__law_name (.cons (.v 4) .nil)))
 (.cons (.set (.n 6) (.k .non))
 (.cons (.set (.n 7) (.k .non))
 (.cons (.for (.n 8) (.e (.v 1)) (.cons (.ite (.cmp .eq (.ix (.v 8) (.k (.int 0))) (.v 5)) (.cons (.set (.n 6) (.v 8))
 (.cons (.set (.n 7) (.ix (.v 8) (.k (.int 1))))
 .nil)) .nil)
 .nil))
 (.cons (.ite (.or (.cons (.cmp .ne (.meth i_World_name_called 0 m_World_name_called "name_called" (.v 2) (.cons (.v 5) .nil)) (.v 6)) (.cons (.cmp .ne (.meth i_World_scheme_of 0 m_World_scheme_of "scheme_of" (.v 2) (.cons (.v 5) .nil)) (.v 7)) .nil))) (.cons (.ret (.k (.bl false)))
 .nil) .nil)
 (.cons (.ite (.or (.cons (.cmp .isNot (.meth i_World_shape_of 0 m_World_shape_of "shape_of" (.v 2) (.cons (.v 5) .nil)) (.k .non)) (.cons (.cmp .isNot (.meth i_World_shape_called 0 m_World_shape_called "shape_called" (.v 2) (.cons (.v 5) .nil)) (.k .non)) .nil))) (.cons (.ret (.k (.bl false)))
 .nil) .nil)
 (.cons (.ite (.or (.cons (.cmp .isNot (.meth i_World_class_called 0 m_World_class_called "class_called" (.v 2) (.cons (.v 5) .nil)) (.k .non)) (.cons (.cmp .isNot (.meth i_World_house_for 0 m_World_house_for "house_for" (.v 2) (.cons (.v 5) (.cons (.k (.str "num")) .nil))) (.k .non)) .nil))) (.cons (.ret (.k (.bl false)))
 .nil) .nil)
 .nil)))))))))
 (.cons (.ret (.k (.bl true)))
 .nil))))))
def d_law : Df := ⟨["_law_script"], ["_law_script", "_law_due_here", "_law_world", "_law_k", "_law_state", "_law_name_here", "_law_entry", "_law_scheme", "_law_one"], b_law⟩
def b_World_scheme_of : Sms := (.cons (.set (.n 2) (.meth i_World_name_called 0 m_World_name_called "name_called" (.v 0) (.cons (.v 1) .nil)))
 (.cons (.ite (.cmp .isNot (.v 2) (.k .non)) (.cons (.ret (.ix (.v 2) (.k (.int 1))))
 .nil) .nil)
 (.cons (.set (.n 3) (.meth i_World_class_by_deed 0 m_World_class_by_deed "class_by_deed" (.v 0) (.cons (.v 1) .nil)))
 (.cons (.ite (.cmp .is (.v 3) (.k .non)) (.cons (.ret (.k .non))
 .nil) .nil)
 (.cons .stop
 .nil)))))
def d_World_scheme_of : Df := ⟨["self", "name"], ["self", "name", "entry", "one"], b_World_scheme_of⟩
def b_World_name_called : Sms := (.cons (.for (.n 2) (.e (.fld 0 "names" (.v 0))) (.cons (.ite (.cmp .eq (.ix (.v 2) (.k (.int 0))) (.v 1)) (.cons (.ret (.v 2))
 .nil) .nil)
 .nil))
 (.cons (.ret (.k .non))
 .nil))
def d_World_name_called : Df := ⟨["self", "name"], ["self", "name", "entry"], b_World_name_called⟩
def b_World_shape_called : Sms := (.cons (.for (.n 2) (.e (.fld 0 "shapes" (.v 0))) (.cons (.ite (.cmp .eq (.ix (.v 2) (.k (.int 0))) (.v 1)) (.cons (.ret (.v 2))
 .nil) .nil)
 .nil))
 (.cons (.ret (.k .non))
 .nil))
def d_World_shape_called : Df := ⟨["self", "name"], ["self", "name", "shape"], b_World_shape_called⟩
def b_World_shape_of : Sms := (.cons (.for (.n 2) (.e (.fld 0 "shapes" (.v 0))) (.cons (.ite (.and (.cons (.cmp .isNot (.ix (.v 2) (.k (.int 2))) (.k .non)) (.cons (.cmp .inn (.v 1) (.lc (.v 3) (.t [3, 4]) (.e (.ix (.v 2) (.k (.int 2)))) .no [("one", 3), ("kinds", 4)])) .nil))) (.cons (.ret (.v 2))
 .nil) .nil)
 .nil))
 (.cons (.ret (.k .non))
 .nil))
def d_World_shape_of : Df := ⟨["self", "mark"], ["self", "mark", "shape", "one", "kinds"], b_World_shape_of⟩
def b_World_house_for : Sms := (.cons (.for (.n 3) (.e (.fld 0 "houses" (.v 0))) (.cons (.ite (.and (.cons (.cmp .eq (.ix (.v 3) (.k (.int 0))) (.v 1)) (.cons (.cmp .eq (.ix (.v 3) (.k (.int 1))) (.v 2)) .nil))) (.cons (.ret (.v 3))
 .nil) .nil)
 .nil))
 (.cons (.ret (.k .non))
 .nil))
def d_World_house_for : Df := ⟨["self", "called", "head"], ["self", "called", "head", "house"], b_World_house_for⟩
def b_World_class_called : Sms := (.cons (.for (.n 2) (.e (.fld 0 "classes" (.v 0))) (.cons (.ite (.cmp .eq (.ix (.v 2) (.k (.int 0))) (.v 1)) (.cons (.ret (.v 2))
 .nil) .nil)
 .nil))
 (.cons (.ret (.k .non))
 .nil))
def d_World_class_called : Df := ⟨["self", "name"], ["self", "name", "one"], b_World_class_called⟩
def b_World___init__ : Sms := (.cons (.setFld 0 "shapes" (.v 0) (.v 1))
 (.cons (.setFld 0 "classes" (.v 0) (.v 2))
 (.cons (.setFld 0 "houses" (.v 0) (.v 3))
 (.cons (.setFld 0 "names" (.v 0) (.v 4))
 .nil))))
def d_World___init__ : Df := ⟨["self", "shapes", "classes", "houses", "names"], ["self", "shapes", "classes", "houses", "names"], b_World___init__⟩
def b_World_class_by_deed : Sms := (.cons (.for (.n 2) (.e (.fld 0 "classes" (.v 0))) (.cons (.ite (.cmp .eq (.ix (.v 2) (.k (.int 1))) (.v 1)) (.cons (.ret (.v 2))
 .nil) .nil)
 .nil))
 (.cons (.ret (.k .non))
 .nil))
def d_World_class_by_deed : Df := ⟨["self", "name"], ["self", "name", "one"], b_World_class_by_deed⟩
def names : Nm where
  fns := [("of_two_numbers", 1), ("least_world", 0), ("_law_at", 2), ("_law_begin", 1), ("_law_draw", 2), ("_law_name", 1), ("_law_due", 0), ("law", 1)]
  free := ["isinstance", "tuple", "range", "max", "min", "len"]
  glo := ["TRUTH", "NUM"]
  fld := [(0, "houses"), (0, "classes"), (0, "shapes"), (0, "names")]
  mth := [(0, "scheme_of", m_World_scheme_of, 2), (0, "name_called", m_World_name_called, 2), (0, "shape_called", m_World_shape_called, 2), (0, "shape_of", m_World_shape_of, 2), (0, "house_for", m_World_house_for, 3), (0, "class_called", m_World_class_called, 2), (0, "__init__", m_World___init__, 5), (0, "class_by_deed", m_World_class_by_deed, 2)]
  mks := [("World", 0, m_World___init__, 5)]
  isi := [("World", u_World)]
def tab : List Fe := [.code d_of_two_numbers, .code d_least_world, .code d__law_at, .code d__law_begin, .code d__law_draw, .code d__law_name, .code d__law_due, .code d_law, .code d_World_scheme_of, .code d_World_name_called, .code d_World_shape_called, .code d_World_shape_of, .code d_World_house_for, .code d_World_class_called, .code d_World___init__, .code d_World_class_by_deed]
def consts : List D := [(.tup [(.str "truth")]), (.tup [(.str "num")])]
@[simp] theorem g_TRUTH : consts[0]? = some (.tup [(.str "truth")]) := rfl
@[simp] theorem g_NUM : consts[1]? = some (.tup [(.str "num")]) := rfl
def h_of_two_numbers : He.DefD := ⟨("of_two_numbers", none), "of_two_numbers", "of_two_numbers", defArgs (top 7), defBody (top 7), defScope (top 7), [], []⟩
def h_least_world : He.DefD := ⟨("least_world", none), "least_world", "least_world", defArgs (top 8), defBody (top 8), defScope (top 8), [], []⟩
def h__law_at : He.DefD := ⟨("_law_at", none), "_law_at", "_law_at", defArgs (top 10), defBody (top 10), defScope (top 10), [], []⟩
def h__law_begin : He.DefD := ⟨("_law_begin", none), "_law_begin", "_law_begin", defArgs (top 11), defBody (top 11), defScope (top 11), [], []⟩
def h__law_draw : He.DefD := ⟨("_law_draw", none), "_law_draw", "_law_draw", defArgs (top 12), defBody (top 12), defScope (top 12), [], []⟩
def h__law_name : He.DefD := ⟨("_law_name", none), "_law_name", "_law_name", defArgs (top 13), defBody (top 13), defScope (top 13), [], []⟩
def h__law_due : He.DefD := ⟨("_law_due", none), "_law_due", "_law_due", defArgs (top 14), defBody (top 14), defScope (top 14), [], []⟩
def h_law : He.DefD := ⟨("law", none), "law", "law", defArgs (top 15), defBody (top 15), defScope (top 15), [], []⟩
def h_World_scheme_of : He.DefD := ⟨("World", some "scheme_of"), "scheme_of", "World.scheme_of", defArgs (inner 6 7), defBody (inner 6 7), defScope (inner 6 7), [], []⟩
def h_World_name_called : He.DefD := ⟨("World", some "name_called"), "name_called", "World.name_called", defArgs (inner 6 6), defBody (inner 6 6), defScope (inner 6 6), [], []⟩
def h_World_shape_called : He.DefD := ⟨("World", some "shape_called"), "shape_called", "World.shape_called", defArgs (inner 6 2), defBody (inner 6 2), defScope (inner 6 2), [], []⟩
def h_World_shape_of : He.DefD := ⟨("World", some "shape_of"), "shape_of", "World.shape_of", defArgs (inner 6 1), defBody (inner 6 1), defScope (inner 6 1), [], []⟩
def h_World_house_for : He.DefD := ⟨("World", some "house_for"), "house_for", "World.house_for", defArgs (inner 6 5), defBody (inner 6 5), defScope (inner 6 5), [], []⟩
def h_World_class_called : He.DefD := ⟨("World", some "class_called"), "class_called", "World.class_called", defArgs (inner 6 3), defBody (inner 6 3), defScope (inner 6 3), [], []⟩
def h_World___init__ : He.DefD := ⟨("World", some "__init__"), "__init__", "World.__init__", defArgs (inner 6 0), defBody (inner 6 0), defScope (inner 6 0), [], []⟩
def h_World_class_by_deed : He.DefD := ⟨("World", some "class_by_deed"), "class_by_deed", "World.class_by_deed", defArgs (inner 6 4), defBody (inner 6 4), defScope (inner 6 4), [], []⟩
def la : La := ⟨names, tab, consts, [h_of_two_numbers, h_least_world, h__law_at, h__law_begin, h__law_draw, h__law_name, h__law_due, h_law, h_World_scheme_of, h_World_name_called, h_World_shape_called, h_World_shape_of, h_World_house_for, h_World_class_called, h_World___init__, h_World_class_by_deed], ["World"], []⟩
theorem ck_0 : defB names h_of_two_numbers (.code d_of_two_numbers) = true := by decide +kernel
theorem ck_1 : defB names h_least_world (.code d_least_world) = true := by decide +kernel
theorem ck_2 : defB names h__law_at (.code d__law_at) = true := by decide +kernel
theorem ck_3 : defB names h__law_begin (.code d__law_begin) = true := by decide +kernel
theorem ck_4 : defB names h__law_draw (.code d__law_draw) = true := by decide +kernel
theorem ck_5 : defB names h__law_name (.code d__law_name) = true := by decide +kernel
theorem ck_6 : defB names h__law_due (.code d__law_due) = true := by decide +kernel
theorem ck_7 : defB names h_law (.code d_law) = true := by decide +kernel
theorem ck_8 : defB names h_World_scheme_of (.code d_World_scheme_of) = true := by decide +kernel
theorem ck_9 : defB names h_World_name_called (.code d_World_name_called) = true := by decide +kernel
theorem ck_10 : defB names h_World_shape_called (.code d_World_shape_called) = true := by decide +kernel
theorem ck_11 : defB names h_World_shape_of (.code d_World_shape_of) = true := by decide +kernel
theorem ck_12 : defB names h_World_house_for (.code d_World_house_for) = true := by decide +kernel
theorem ck_13 : defB names h_World_class_called (.code d_World_class_called) = true := by decide +kernel
theorem ck_14 : defB names h_World___init__ (.code d_World___init__) = true := by decide +kernel
theorem ck_15 : defB names h_World_class_by_deed (.code d_World_class_by_deed) = true := by decide +kernel
theorem ck_st : la.st = true := by decide +kernel
theorem ck : ∀ (i : Nat) (e : Fe) (d : He.DefD), la.T[i]? = some e → la.fn[i]? = some d → defB la.P d e = true := by
  intro i e d h1 h2
  match i, h1, h2 with
  | 0, h1, h2 => cases h1; cases h2; exact ck_0
  | 1, h1, h2 => cases h1; cases h2; exact ck_1
  | 2, h1, h2 => cases h1; cases h2; exact ck_2
  | 3, h1, h2 => cases h1; cases h2; exact ck_3
  | 4, h1, h2 => cases h1; cases h2; exact ck_4
  | 5, h1, h2 => cases h1; cases h2; exact ck_5
  | 6, h1, h2 => cases h1; cases h2; exact ck_6
  | 7, h1, h2 => cases h1; cases h2; exact ck_7
  | 8, h1, h2 => cases h1; cases h2; exact ck_8
  | 9, h1, h2 => cases h1; cases h2; exact ck_9
  | 10, h1, h2 => cases h1; cases h2; exact ck_10
  | 11, h1, h2 => cases h1; cases h2; exact ck_11
  | 12, h1, h2 => cases h1; cases h2; exact ck_12
  | 13, h1, h2 => cases h1; cases h2; exact ck_13
  | 14, h1, h2 => cases h1; cases h2; exact ck_14
  | 15, h1, h2 => cases h1; cases h2; exact ck_15
  | n + 16, h1, h2 => cases h1
theorem r_of_two_numbers (n : Nat) (a0 : D) (S : Store) : callN tab consts (n + 1) f_of_two_numbers [a0] S = (denSs (callN tab consts n) consts b_of_two_numbers [some a0] S).rs := rfl
theorem r_least_world (n : Nat) (S : Store) : callN tab consts (n + 1) f_least_world [] S = (denSs (callN tab consts n) consts b_least_world [none, none, none] S).rs := rfl
theorem r__law_at (n : Nat) (a0 a1 : D) (S : Store) : callN tab consts (n + 1) f__law_at [a0, a1] S = (denSs (callN tab consts n) consts b__law_at [some a0, some a1] S).rs := rfl
theorem r__law_begin (n : Nat) (a0 : D) (S : Store) : callN tab consts (n + 1) f__law_begin [a0] S = (denSs (callN tab consts n) consts b__law_begin [some a0] S).rs := rfl
theorem r__law_draw (n : Nat) (a0 a1 : D) (S : Store) : callN tab consts (n + 1) f__law_draw [a0, a1] S = (denSs (callN tab consts n) consts b__law_draw [some a0, some a1, none, none] S).rs := rfl
theorem r__law_name (n : Nat) (a0 : D) (S : Store) : callN tab consts (n + 1) f__law_name [a0] S = (denSs (callN tab consts n) consts b__law_name [some a0, none, none, none] S).rs := rfl
theorem r__law_due (n : Nat) (S : Store) : callN tab consts (n + 1) f__law_due [] S = (denSs (callN tab consts n) consts b__law_due [none, none, none, none] S).rs := rfl
theorem r_law (n : Nat) (a0 : D) (S : Store) : callN tab consts (n + 1) f_law [a0] S = (denSs (callN tab consts n) consts b_law [some a0, none, none, none, none, none, none, none, none] S).rs := rfl
theorem r_World_scheme_of (n : Nat) (a0 a1 : D) (S : Store) : callN tab consts (n + 1) m_World_scheme_of [a0, a1] S = (denSs (callN tab consts n) consts b_World_scheme_of [some a0, some a1, none, none] S).rs := rfl
theorem r_World_name_called (n : Nat) (a0 a1 : D) (S : Store) : callN tab consts (n + 1) m_World_name_called [a0, a1] S = (denSs (callN tab consts n) consts b_World_name_called [some a0, some a1, none] S).rs := rfl
theorem r_World_shape_called (n : Nat) (a0 a1 : D) (S : Store) : callN tab consts (n + 1) m_World_shape_called [a0, a1] S = (denSs (callN tab consts n) consts b_World_shape_called [some a0, some a1, none] S).rs := rfl
theorem r_World_shape_of (n : Nat) (a0 a1 : D) (S : Store) : callN tab consts (n + 1) m_World_shape_of [a0, a1] S = (denSs (callN tab consts n) consts b_World_shape_of [some a0, some a1, none, none, none] S).rs := rfl
theorem r_World_house_for (n : Nat) (a0 a1 a2 : D) (S : Store) : callN tab consts (n + 1) m_World_house_for [a0, a1, a2] S = (denSs (callN tab consts n) consts b_World_house_for [some a0, some a1, some a2, none] S).rs := rfl
theorem r_World_class_called (n : Nat) (a0 a1 : D) (S : Store) : callN tab consts (n + 1) m_World_class_called [a0, a1] S = (denSs (callN tab consts n) consts b_World_class_called [some a0, some a1, none] S).rs := rfl
theorem r_World___init__ (n : Nat) (a0 a1 a2 a3 a4 : D) (S : Store) : callN tab consts (n + 1) m_World___init__ [a0, a1, a2, a3, a4] S = (denSs (callN tab consts n) consts b_World___init__ [some a0, some a1, some a2, some a3, some a4] S).rs := rfl
theorem r_World_class_by_deed (n : Nat) (a0 a1 : D) (S : Store) : callN tab consts (n + 1) m_World_class_by_deed [a0, a1] S = (denSs (callN tab consts n) consts b_World_class_by_deed [some a0, some a1, none] S).rs := rfl
end KD.K23

namespace KD.K23
open PySem L2 KD
theorem begin_ok (n : Nat) (c : Int) (S : Store) : callN tab consts (n + 1) f__law_begin [.int c] S = .ok (.ref S.length) (S ++ [.lst [.int (c / 2), .int (c % 2)]]) := by
  rw [r__law_begin]; simp [b__law_begin]
theorem draw_ok (n r : Nat) (m a b : Int) (S : Store) (h : gt S r = some (.lst [.int a, .int b])) (hm : 0 < m) (hm2 : m < 1000) : ∃ g a', 0 ≤ g ∧ g < m ∧ callN tab consts (n + 1) f__law_draw [.ref r, .int m] S = .ok (.int g) (S.set r (.lst [.int a', .int b])) := by
  rw [r__law_draw]
  have h2 : m < 1267650600228229401496703205376 := by omega
  by_cases hb : b = 0
  · refine ⟨a % m, a / m, Int.emod_nonneg _ (by omega), Int.emod_lt_of_pos _ hm, ?_⟩
    simp [b__law_draw, h, hb, hm, h2]
  · simp [b__law_draw, h, hb, hm, h2]
    exact ⟨_, Int.emod_nonneg _ (by omega), Int.emod_lt_of_pos _ hm, rfl, _, rfl⟩
theorem sz {n : Nat} (h : n ≤ 1000000) : n ≤ sizeLine := by rw [sizeLine_eq]; omega
theorem at0 (n : Nat) (k : Int) (S : Store) (h : gt S 0 = some (.ro [])) (h4 : k < 18446744073709551616) (h5 : ¬ k < 0) (h6 : -18446744073709551616 < k) (h8 : -18446744073709551616 < k * k + 40031) (h9 : k * k + 40031 < 18446744073709551616) :
    ∃ z T, callN tab consts (n + 1) f__law_at [.ref 0, .int k] S = .ok (.int z) (S ++ T) := by
  have h3 : 1 ≤ sizeLine := sz (by decide)
  rw [r__law_at]
  simp [b__law_at, h, gt_app h, h3, h4, h5, h6, h8, h9]
theorem at1 (n : Nat) (k a : Int) (r : List Int) (S : Store) (h : gt S 0 = some (.ro ((a :: r).map .int))) (hr : r.length ≤ 63) (h4 : k < 18446744073709551616) (h5 : ¬ k < r.length + 1) (h6 : -18446744073709551616 < k) (h8 : -18446744073709551616 < k * k + 40031) (h9 : k * k + 40031 < 18446744073709551616) :
    ∃ z T, callN tab consts (n + 1) f__law_at [.ref 0, .int k] S = .ok (.int z) (S ++ T) := by
  have h3 : r.length + 1 + 1 ≤ sizeLine := sz (by omega)
  rw [r__law_at]
  simp [b__law_at, h, gt_app h, h3, h4, h5, h6, h8, h9]
theorem at2 (n k : Nat) (ns : List Int) (S : Store) (h : gt S 0 = some (.ro (ns.map .int))) (hk : k < ns.length) : ∃ z T, callN tab consts (n + 1) f__law_at [.ref 0, .int k] S = .ok (.int z) (S ++ T) := by
  rw [r__law_at]
  simp [b__law_at, h, hk]
theorem at_ok (n k : Nat) (ns : List Int) (S : Store) (h : gt S 0 = some (.ro (ns.map .int))) (hn : ns.length ≤ 63) (hk2 : k < 100) : ∃ z T, callN tab consts (n + 1) f__law_at [.ref 0, .int k] S = .ok (.int z) (S ++ T) := by
  by_cases hk : k < ns.length
  · exact at2 n k ns S h hk
  · have a1 : (k : Int) * k ≤ 100 * 100 := Int.mul_le_mul (by omega) (by omega) (by omega) (by omega)
    have a2 : 0 ≤ (k : Int) * k := Int.mul_nonneg (by omega) (by omega)
    cases ns with
    | nil => exact at0 n k S h (by omega) (by omega) (by omega) (by omega) (by omega)
    | cons a r =>
      simp only [List.length_cons] at hn hk
      exact at1 n k a r S h (by omega) (by omega) (by omega) (by omega) (by omega) (by omega)
/-- all but the object at r stays -/
structure Kp (r : Nat) (S S' : Store) : Prop where
  len : S.length ≤ S'.length
  old : ∀ i, i ≠ r → i < S.length → gt S' i = gt S i
theorem Kp.refl {r : Nat} {S : Store} : Kp r S S := ⟨Nat.le_refl _, fun _ _ _ => rfl⟩
theorem Kp.trans {r : Nat} {S S1 S2 : Store} (a : Kp r S S1) (b : Kp r S1 S2) : Kp r S S2 := ⟨Nat.le_trans a.len b.len, fun i h1 h2 => by rw [b.old i h1 (Nat.lt_of_lt_of_le h2 a.len), a.old i h1 h2]⟩
theorem Kp.app {r : Nat} {S t : Store} : Kp r S (S ++ t) := ⟨by simp, fun i _ h => by
  show (S ++ t)[i]? = S[i]?
  rw [List.getElem?_append_left h]⟩
theorem Kp.set {r : Nat} {S : Store} {o : O} : Kp r S (S.set r o) := ⟨by simp, fun i h _ => gt_set_ne (Ne.symm h)⟩
abbrev some14 : List D := [.str "add", .str "sub", .str "less", .str "ad", .str "addd", .str "su", .str "les", .str "subs", .str "num", .str "truth", .str "s", .str "same", .str "lesss", .str "Add"]
theorem draw (n r : Nat) (m a b : Int) (S : Store) (h : gt S r = some (.lst [.int a, .int b])) (hm : 0 < m) (hm2 : m < 1000) : ∃ g a' S', 0 ≤ g ∧ g < m ∧ callN tab consts (n + 1) f__law_draw [.ref r, .int m] S = .ok (.int g) S' ∧ Kp r S S' ∧ gt S' r = some (.lst [.int a', .int b]) := by
  obtain ⟨g, a', h1, h2, h3⟩ := draw_ok n r m a b S h hm hm2
  exact ⟨g, a', _, h1, h2, h3, Kp.set, by simp [h]⟩
theorem letter (g : Int) (h0 : 0 ≤ g) (h1 : g < 7) : ∃ c, atI (("abdelsu" : Str).cps.toList) g = some c := by
  rw [atI_of h0]
  have hl : g.toNat < (("abdelsu" : Str).cps.toList).length := by
    have : (("abdelsu" : Str).cps.toList).length = 7 := by decide +kernel
    omega
  exact ⟨_, List.getElem?_eq_getElem hl⟩
theorem strs_ok : ∀ (ds : List D), (∀ d ∈ ds, ∃ c, d = .str ⟨#[c]⟩) → ∃ ys, strs? ds = some ys ∧ ys.length = ds.length ∧ (ys.map (·.length)).sum = ds.length
  | [], _ => ⟨[], rfl, rfl, rfl⟩
  | d :: ds, h => by
    obtain ⟨ys, e1, e2, e3⟩ := strs_ok ds fun x hx => h x (List.mem_cons_of_mem _ hx)
    obtain ⟨c, rfl⟩ := h d (List.mem_cons_self ..)
    refine ⟨⟨#[c]⟩ :: ys, by simp [strs?, e1], by simp [e2], ?_⟩
    rw [List.map_cons, List.sum_cons, e3, List.length_cons]
    show 1 + ds.length = ds.length + 1
    omega
theorem name_ok (n r : Nat) (a b : Int) (S : Store) (h : gt S r = some (.lst [.int a, .int b])) : ∃ x S' a', callN tab consts (n + 2) f__law_name [.ref r] S = .ok (.str x) S' ∧ Kp r S S' ∧ gt S' r = some (.lst [.int a', .int b]) := by
  rw [r__law_name]
  have hr : S.length ≠ r := by have := gt_lt h; omega
  obtain ⟨g1, a1, S1, p1, q1, e1, k1, h1⟩ := draw n r 2 a b (S ++ [.lst some14]) (gt_app h) (by decide) (by decide)
  have l1 : gt S1 S.length = some (.lst some14) := by rw [k1.old _ hr (by simp)]; simp
  simp only [some14] at e1
  by_cases hg : g1 = 0
  · obtain ⟨g2, a2, S2, p2, q2, e2, k2, h2⟩ := draw n r 14 a1 b S1 h1 (by decide) (by decide)
    have l2 : gt S2 S.length = some (.lst some14) := by rw [k2.old _ hr (gt_lt l1)]; exact l1
    have hx : ∃ x, some14[g2.toNat]? = some (.str x) := by
      have : g2.toNat < 14 := by omega
      match g2.toNat, this with
      | 0, _ => exact ⟨_, rfl⟩ | 1, _ => exact ⟨_, rfl⟩ | 2, _ => exact ⟨_, rfl⟩ | 3, _ => exact ⟨_, rfl⟩ | 4, _ => exact ⟨_, rfl⟩ | 5, _ => exact ⟨_, rfl⟩ | 6, _ => exact ⟨_, rfl⟩
      | 7, _ => exact ⟨_, rfl⟩ | 8, _ => exact ⟨_, rfl⟩ | 9, _ => exact ⟨_, rfl⟩ | 10, _ => exact ⟨_, rfl⟩ | 11, _ => exact ⟨_, rfl⟩ | 12, _ => exact ⟨_, rfl⟩ | 13, _ => exact ⟨_, rfl⟩
    obtain ⟨x, hx⟩ := hx
    refine ⟨x, S2, a2, ?_, (Kp.app.trans k1).trans k2, h2⟩
    simp [b__law_name, e1, hg, e2, l2, atI_of p2, hx]
  · obtain ⟨g2, a2, S2, p2, q2, e2, k2, h2⟩ := draw n r 8 a1 b S1 h1 (by decide) (by decide)
    obtain ⟨ds, S3, f1, ⟨f2, a3, f3⟩, f4, f5⟩ := lcGo_inv (live := Src.live ⟨rngItems 0 (1 + g2), []⟩) (turn := lcTurn (.n 3) (denC (callN tab consts (n + 1)) consts .no) (den (callN tab consts (n + 1)) consts (.ix (.v 1) (.call f__law_draw (.cons (.v 0) (.cons (.k (.int 7)) .nil))))) [some (.ref r), some (.str "abdelsu"), some (.ref S.length), none])
      (xs := rngItems 0 (1 + g2)) (fun _ S' => Kp r S2 S' ∧ ∃ a', gt S' r = some (.lst [.int a', .int b])) (fun d => ∃ c, d = .str ⟨#[c]⟩) (S := S2) ⟨Kp.refl, a2, h2⟩ (fun _ _ _ _ => live_nil) (fun i x S' hx hI => by
        obtain ⟨k3, a4, h3⟩ := hI
        obtain ⟨g4, a5, S4, p4, q4, e4, k4, h4⟩ := draw n r 7 a4 b S' h3 (by decide) (by decide)
        obtain ⟨c, hc⟩ := letter g4 p4 q4
        have hz : ("abdelsu" : Str).length ≤ sizeLine := sz (by decide +kernel)
        refine ⟨some (.str ⟨#[c]⟩), S4, ?_, fun d hd => ⟨c, by cases hd; rfl⟩, k3.trans k4, a5, h4⟩
        simp [lcTurn, e4, hz, hc])
    obtain ⟨ys, s1, s2, s3⟩ := strs_ok ds f4
    have hlen : ds.length ≤ 8 := by
      have : (rngItems 0 (1 + g2)).length = (1 + g2).toNat := by simp [rngItems]
      omega
    refine ⟨Txt.join "" ys, S3 ++ [.lst ds], a3, ?_, ((Kp.app.trans k1).trans k2).trans (f2.trans Kp.app), gt_app f3⟩
    have c1 : (1 + g2 - 0).toNat ≤ sizeLine := sz (by omega)
    have c2 : -(2 ^ 62) ≤ 1 + g2 := by omega
    have c3 : 1 + g2 < 2 ^ 62 := by omega
    have c4 : (ys.map (·.length)).sum + ys.length * ("" : Str).length ≤ 16777216 := by
      have : ("" : Str).length = 0 := by decide +kernel
      rw [s3, this]; omega
    simp at c1 c2 c3
    simp [b__law_name, e1, hg, e2, den_lc, wipeD, c1, c2, c3, f1, s1, c4]
def sch (l : Str) : D := .tup [.tup [], .tup [], .tup [.str "fun", .tup [.str "num"], .tup [.str "fun", .tup [.str "num"], .tup [.str l]]]]
def ent (x l : Str) : D := .tup [.str x, sch l, .non, .non]
@[simp] theorem ent0 {x l : Str} {S : Store} : xIx (ent x l) (.int 0) S = some (.str x, S) := rfl
@[simp] theorem ent1 {x l : Str} {S : Store} : xIx (ent x l) (.int 1) S = some (sch l, S) := rfl
@[simp] theorem entN {x l : Str} : isNon (ent x l) = false := rfl
theorem ne1 {S : Store} : dNe (ent "add" "num") (ent "add" "num") S = some (.bl false, S) := by kernel_rfl
theorem ne2 {S : Store} : dNe (ent "sub" "num") (ent "sub" "num") S = some (.bl false, S) := by kernel_rfl
theorem ne3 {S : Store} : dNe (ent "less" "truth") (ent "less" "truth") S = some (.bl false, S) := by kernel_rfl
theorem ne4 {S : Store} : dNe (sch "num") (sch "num") S = some (.bl false, S) := by kernel_rfl
theorem ne5 {S : Store} : dNe (sch "truth") (sch "truth") S = some (.bl false, S) := by kernel_rfl
theorem ne6 {S : Store} : dNe .non .non S = some (.bl false, S) := by kernel_rfl
theorem ne7 {S : Store} : dNe (.tup [ent "add" "num", ent "sub" "num", ent "less" "truth"]) (.tup [ent "add" "num", ent "sub" "num", ent "less" "truth"]) S = some (.bl false, S) := by kernel_rfl
theorem ne8 {S : Store} : dNe (.tup [.tup [], .tup [], .tup []]) (.tup [.tup [], .tup [], .tup []]) S = some (.bl false, S) := by kernel_rfl
abbrev due : List D := [ent "add" "num", ent "sub" "num", ent "less" "truth"]
abbrev flds : List (Str × D) := [("shapes", .tup []), ("classes", .tup []), ("houses", .tup []), ("names", .tup due)]
theorem due_ok (n : Nat) (S : Store) : ∃ T, callN tab consts (n + 1) f__law_due [] S = .ok (.tup due) (S ++ T) := by
  rw [r__law_due]
  have z0 : 0 < sizeLine := sz (by decide)
  have z1 : 1 < sizeLine := sz (by decide)
  have z2 : 2 < sizeLine := sz (by decide)
  simp [b__law_due, denS_for, forGo_cons, forGo_nil, z0, z1, z2, ent, sch]
theorem world_ok (n : Nat) (S : Store) : ∃ t, callN tab consts (n + 2) f_least_world [] S = .ok (.ref (S.length + 1)) (S ++ [t, .ins 0 flds]) := by
  rw [r_least_world]
  have z0 : 0 < sizeLine := sz (by decide)
  have z1 : 1 < sizeLine := sz (by decide)
  have z2 : 2 < sizeLine := sz (by decide)
  simp [b_least_world, denS_for, forGo_cons, forGo_nil, z0, z1, z2, ent, sch, r_of_two_numbers, b_of_two_numbers, r_World___init__, b_World___init__, putFD]
def look (x : Str) : D := if ("add" : Str) = x then ent "add" "num" else if ("sub" : Str) = x then ent "sub" "num" else if ("less" : Str) = x then ent "less" "truth" else .non
def schm (x : Str) : D := if ("add" : Str) = x then sch "num" else if ("sub" : Str) = x then sch "num" else if ("less" : Str) = x then sch "truth" else .non
section
variable {w : Nat} {S : Store}
theorem called_ok (h : gt S w = some (.ins 0 flds)) (n : Nat) (x : Str) : callN tab consts (n + 1) m_World_name_called [.ref w, .str x] S = .ok (look x) S := by
  rw [r_World_name_called]
  unfold look
  by_cases h1 : ("add" : Str) = x
  · simp [b_World_name_called, denS_for, forGo_cons, forGo_nil, h, h1]
  · by_cases h2 : ("sub" : Str) = x
    · simp [b_World_name_called, denS_for, forGo_cons, forGo_nil, h, h1, h2]
    · by_cases h3 : ("less" : Str) = x
      · simp [b_World_name_called, denS_for, forGo_cons, forGo_nil, h, h1, h2, h3]
      · simp [b_World_name_called, denS_for, forGo_cons, forGo_nil, h, h1, h2, h3]
theorem shape_called_ok (h : gt S w = some (.ins 0 flds)) (n : Nat) (x : Str) : callN tab consts (n + 1) m_World_shape_called [.ref w, .str x] S = .ok .non S := by
  rw [r_World_shape_called]
  simp [b_World_shape_called, denS_for, forGo_cons, forGo_nil, h]
theorem shape_of_ok (h : gt S w = some (.ins 0 flds)) (n : Nat) (x : Str) : callN tab consts (n + 1) m_World_shape_of [.ref w, .str x] S = .ok .non S := by
  rw [r_World_shape_of]
  simp [b_World_shape_of, denS_for, forGo_cons, forGo_nil, h]
theorem class_called_ok (h : gt S w = some (.ins 0 flds)) (n : Nat) (x : Str) : callN tab consts (n + 1) m_World_class_called [.ref w, .str x] S = .ok .non S := by
  rw [r_World_class_called]
  simp [b_World_class_called, denS_for, forGo_cons, forGo_nil, h]
theorem deed_ok (h : gt S w = some (.ins 0 flds)) (n : Nat) (x : Str) : callN tab consts (n + 1) m_World_class_by_deed [.ref w, .str x] S = .ok .non S := by
  rw [r_World_class_by_deed]
  simp [b_World_class_by_deed, denS_for, forGo_cons, forGo_nil, h]
theorem house_ok (h : gt S w = some (.ins 0 flds)) (n : Nat) (x y : Str) : callN tab consts (n + 1) m_World_house_for [.ref w, .str x, .str y] S = .ok .non S := by
  rw [r_World_house_for]
  simp [b_World_house_for, denS_for, forGo_cons, forGo_nil, h]
theorem scheme_ok (h : gt S w = some (.ins 0 flds)) (n : Nat) (x : Str) : callN tab consts (n + 2) m_World_scheme_of [.ref w, .str x] S = .ok (schm x) S := by
  rw [r_World_scheme_of]
  have e1 := called_ok h n x
  have e2 := deed_ok h n x
  unfold look at e1
  unfold schm
  by_cases h1 : ("add" : Str) = x
  · rw [if_pos h1] at e1 ⊢
    simp [b_World_scheme_of, h, e1]
  · rw [if_neg h1] at e1 ⊢
    by_cases h2 : ("sub" : Str) = x
    · rw [if_pos h2] at e1 ⊢
      simp [b_World_scheme_of, h, e1]
    · rw [if_neg h2] at e1 ⊢
      by_cases h3 : ("less" : Str) = x
      · rw [if_pos h3] at e1 ⊢
        simp [b_World_scheme_of, h, e1]
      · rw [if_neg h3] at e1 ⊢
        simp [b_World_scheme_of, h, e1, e2]
end
def St0 (ns : List Int) (w : Nat) (σ : Lc) (S : Store) : Prop := (∃ a b c d e f, σ = [some (.ref 0), some (.tup due), some (.ref w), a, b, c, d, e, f]) ∧ gt S 0 = some (.ro (ns.map .int)) ∧ gt S w = some (.ins 0 flds)
theorem turn_ok (n : Nat) (ns : List Int) (w : Nat) (S : Store) (σ5 σ6 σ7 σ8 σ4 : Option D) (k : Nat) (hk : k < 64) (hn : ns.length ≤ 63) (h0 : gt S 0 = some (.ro (ns.map .int))) (hw : gt S w = some (.ins 0 flds)) :
    (denSs (callN tab consts (n + 3)) consts
      (match b_law with
        | .cons _ (.cons _ (.cons _ (.cons _ (.cons (.for _ _ b) _)))) => b
        | _ => .nil) [some (.ref 0), some (.tup due), some (.ref w), some (.int k), σ4, σ5, σ6, σ7, σ8] S).nxt (St0 ns w) := by
  obtain ⟨z, T, e1⟩ := at_ok (n + 2) k ns S h0 hn (by omega)
  have e2 := begin_ok (n + 2) z (S ++ T)
  obtain ⟨x, S3, a', e3, k3, h3⟩ := name_ok (n + 1) (S ++ T).length (z / 2) (z % 2) ((S ++ T) ++ [.lst [.int (z / 2), .int (z % 2)]]) gt_at
  have w3 : gt S3 w = some (.ins 0 flds) := by
    have := gt_lt hw
    rw [k3.old w (by simp; omega) (by simp; omega)]
    exact gt_app (gt_app hw)
  have z3 : gt S3 0 = some (.ro (ns.map .int)) := by
    have := gt_lt h0
    rw [k3.old 0 (by simp; omega) (by simp; omega)]
    exact gt_app (gt_app h0)
  have m1 := called_ok w3 (n + 2) x
  have m2 := scheme_ok w3 (n + 1) x
  have m3 := shape_of_ok w3 (n + 2) x
  have m4 := shape_called_ok w3 (n + 2) x
  have m5 := class_called_ok w3 (n + 2) x
  have m6 := house_ok w3 (n + 2) x "num"
  unfold look at m1
  unfold schm at m2
  simp only [List.append_assoc, List.length_append] at e2 e3
  have fin : ∀ a b c d e f, St0 ns w [some (.ref 0), some (.tup due), some (.ref w), a, b, c, d, e, f] S3 := fun a b c d e f => ⟨⟨a, b, c, d, e, f, rfl⟩, z3, w3⟩
  by_cases h1 : ("add" : Str) = x
  · subst h1
    simp at m1 m2
    simp [b_law, e1, e2, e3, denS_for, forGo_cons, forGo_nil, m1, m2, m3, m4, m5, m6, w3, ne1, ne4, fin]
  · by_cases h2 : ("sub" : Str) = x
    · subst h2
      simp at m1 m2
      simp [b_law, e1, e2, e3, denS_for, forGo_cons, forGo_nil, m1, m2, m3, m4, m5, m6, w3, ne2, ne4, fin]
    · by_cases h3 : ("less" : Str) = x
      · subst h3
        simp at m1 m2
        simp [b_law, e1, e2, e3, denS_for, forGo_cons, forGo_nil, m1, m2, m3, m4, m5, m6, w3, ne3, ne5, fin]
      · simp [h1, h2, h3] at m1 m2
        simp [b_law, e1, e2, e3, denS_for, forGo_cons, forGo_nil, h1, h2, h3, m1, m2, m3, m4, m5, m6, w3, ne6, fin]
theorem count (L : Nat) : ∃ m : Nat, m < 64 ∧ (if (if (20 : Int) < (L : Int) then (20 : Int) else L) > 1 then (if (20 : Int) < (L : Int) then (20 : Int) else L) else 1) = m := by
  by_cases h : (20 : Int) < L
  · exact ⟨20, by decide, by rw [if_pos h]; rfl⟩
  · rw [if_neg h]
    by_cases h1 : (L : Int) > 1
    · exact ⟨L, by omega, by rw [if_pos h1]⟩
    · exact ⟨1, by decide, by rw [if_neg h1]; rfl⟩
theorem loop_ok (n m : Nat) (ns : List Int) (w : Nat) (S : Store) (hm : m < 64) (hn : ns.length ≤ 63) (h3 : gt S 0 = some (.ro (ns.map .int))) (w3 : gt S w = some (.ins 0 flds)) : ∃ σ' S', forGo (Src.live ⟨rngItems 0 m, []⟩) (.n 3) (denSs (callN tab consts (n + 3)) consts
      (match b_law with
        | .cons _ (.cons _ (.cons _ (.cons _ (.cons (.for _ _ b) _)))) => b
        | _ => .nil)) (rngItems 0 m) [some (.ref 0), some (.tup due), some (.ref w), none, none, none, none, none, none] S = .nx σ' S' := by
  have hl : (rngItems 0 m).length = m := by simp [rngItems]
  obtain ⟨σ', S', f1, f2⟩ := forGo_nxt (live := Src.live ⟨rngItems 0 m, []⟩) (tg := .n 3) (body := denSs (callN tab consts (n + 3)) consts
      (match b_law with
        | .cons _ (.cons _ (.cons _ (.cons _ (.cons (.for _ _ b) _)))) => b
        | _ => .nil)) (xs := rngItems 0 m) (fun _ => St0 ns w) (σ := [some (.ref 0), some (.tup due), some (.ref w), none, none, none, none, none, none]) (S := S) ⟨⟨_, _, _, _, _, _, rfl⟩, h3, w3⟩ (fun _ _ _ _ _ => live_nil) (fun i x σ S hx hI => by
        obtain ⟨⟨a, b, c, d, e, f, rfl⟩, z1, z2⟩ := hI
        have hi : i < (rngItems 0 m).length := get_lt hx
        have ex : x = .int i := by
          simp only [rngItems] at hx
          rw [List.getElem?_map, List.getElem?_range (by omega)] at hx
          simp at hx
          exact hx.symm
        subst ex
        exact ⟨_, rfl, turn_ok n ns w S _ _ _ _ _ i (by omega) hn z1 z2⟩)
  exact ⟨σ', S', f1⟩
theorem tail_ok (n w v : Nat) (M : Int) (ns : List Int) (S0 S1 S2 S3 S' : Store) (σ' : Lc) (h3 : gt S3 0 = some (.ro (ns.map .int))) (w2 : gt S2 w = some (.ins 0 flds)) (v3 : gt S3 v = some (.ins 0 flds)) (c1 : M < 4611686018427387904) (c2 : -4611686018427387904 ≤ M) (c3 : M ≤ (sizeLine : Int))
    (hm2 : (if 1 < (if (20 : Int) < (ns.length : Int) then (20 : Int) else ns.length) then (if (20 : Int) < (ns.length : Int) then (20 : Int) else ns.length) else 1) = M)
    (e1 : callN tab consts (n + 3) f__law_due [] S0 = .ok (.tup due) S1) (e2 : callN tab consts (n + 3) f_least_world [] S1 = .ok (.ref w) S2) (e3 : callN tab consts (n + 3) f_least_world [] S2 = .ok (.ref v) S3)
    (f1 : forGo (Src.live ⟨rngItems 0 M, []⟩) (.n 3) (denSs (callN tab consts (n + 3)) consts
      (match b_law with
        | .cons _ (.cons _ (.cons _ (.cons _ (.cons (.for _ _ b) _)))) => b
        | _ => .nil)) (rngItems 0 M) [some (.ref 0), some (.tup due), some (.ref w), none, none, none, none, none, none] S3 = .nx σ' S') :
    (denSs (callN tab consts (n + 3)) consts b_law [some (.ref 0), none, none, none, none, none, none, none, none] S0).rs = .ok (.bl true) S' := by
  simp only [b_law] at f1
  simp [b_law, e1, e2, e3, cIsiC_ref w2, w2, v3, h3, ne7, ne8, isiB, Ty.s, denS_for, hm2, c1, c2, c3, f1]
theorem law_ok (n : Nat) (ns : List Int) (hn : ns.length ≤ 63) : ∃ S', callN tab consts (n + 4) f_law [.ref 0] [.ro (ns.map .int)] = .ok (.bl true) S' := by
  rw [r_law]
  have h0 : gt [.ro (ns.map D.int)] 0 = some (.ro (ns.map .int)) := rfl
  obtain ⟨T1, e1⟩ := due_ok (n + 2) [.ro (ns.map .int)]
  have h1 := gt_app (t := T1) h0
  obtain ⟨t2, e2⟩ := world_ok (n + 1) ([.ro (ns.map .int)] ++ T1)
  have h2 := gt_app (t := [t2, .ins 0 flds]) h1
  obtain ⟨t3, e3⟩ := world_ok (n + 1) (([.ro (ns.map .int)] ++ T1) ++ [t2, .ins 0 flds])
  have h3 := gt_app (t := [t3, .ins 0 flds]) h2
  have w2 : gt (([.ro (ns.map .int)] ++ T1) ++ [t2, .ins 0 flds]) (([O.ro (ns.map .int)] ++ T1).length + 1) = some (.ins 0 flds) := gt_add
  have v3 : gt ((([.ro (ns.map .int)] ++ T1) ++ [t2, .ins 0 flds]) ++ [t3, .ins 0 flds]) ((([O.ro (ns.map .int)] ++ T1) ++ [t2, .ins 0 flds]).length + 1) = some (.ins 0 flds) := gt_add
  obtain ⟨m, hm1, hm2⟩ := count ns.length
  obtain ⟨σ', S', f1⟩ := loop_ok n m ns _ _ hm1 hn h3 (gt_app w2)
  exact ⟨S', tail_ok n _ _ m ns _ _ _ _ S' σ' h3 w2 v3 (by omega) (by omega) (Int.ofNat_le.mpr (sz (by omega))) hm2 e1 e2 e3 f1⟩
end KD.K23

namespace KD.K23
open PySem PySem.Spec PyProof.Rows L2 KD
abbrev R0 : PySem.W.OpenRow := PySem.W.OpenLaw.row PySem.Challenge.rw_kindcourt_k23_the_least_world
abbrev hk : PySem.W.Hook := hookE 6 la.fn la.ex
def ob (s : PySem.W.SharedT) : He.AlD × Bool := obE 6 la.fn la.ex (HandSHeadRun.getT s)
theorem ob_eq (s : PySem.W.SharedT) : ob s = hk.obs s.abs := obE_eq (HandSHeadRun.getT_eq s)
theorem run (w : World) : HandSHeadRun.RunEq R0 (PySem.W.view R0.prog [15]) hk ob 1200 ["__name__", "filled_by", "filled", "NUM", "TRUTH", "World", "of_two_numbers", "least_world", "_law_at", "_law_begin", "_law_draw", "_law_name", "_law_due"] w := by
  intro os
  kernel_rfl
end KD.K23
open PySem PySem.W PySem.Calls PyProof.Rows
theorem KD.K23.holds (law : ∀ ns : List Int, ns.length ≤ 63 → ∃ S', KD.callN KD.K23.la.T KD.K23.la.G 100 KD.K23.f_law [.ref 0] [.ro (ns.map KD.D.int)] = .ok (.bl true) S') : PySem.Challenge.rw_kindcourt_k23_the_least_world.Holds := by
  w_on; o_law
  refine HandSHeadRun.head_any (r := KD.K23.R0) (q := view KD.K23.R0.prog [15]) (H := KD.K23.hk) (ob := KD.K23.ob) (M := 1200) (d := HandSHeadRun.topDef KD.K23.R0.prog 15) (kwd := []) KD.K23.ob_eq
    (by kernel_rfl) (fun s => by kernel_rfl) KD.K23.run (by kernel_rfl) (by kernel_rfl) (by kernel_rfl) (by rfl) (by first | assumption | decide +kernel) (by decide +kernel) ⟨rfl, rfl, rfl, rfl, rfl, by decide +kernel⟩ ?hw ?hc
  case hw => w_witness2
  case hc =>
    exact KD.walk (l := PySem.Challenge.rw_kindcourt_k23_the_least_world) (L := KD.K23.la) (m := 63) (n := 6) (k := 100) (i := KD.K23.f_law) (x := "_law_script") (nm := "law") (e := .code KD.K23.d_law) rfl (by decide) (by kernel_rfl) ⟨rfl, by decide, by decide⟩ (by kernel_rfl) rfl rfl rfl KD.K23.ck_st KD.K23.ck
      (fun w K mg h _ _ _ f ps g d fd base e _ _ => by
        match f, e with
        | n + 17, e => cases e) law

theorem PySem.Challenge.cw_kindcourt_k23_the_least_world_holds : PySem.Challenge.rw_kindcourt_k23_the_least_world.Holds := by
  exact KD.K23.holds fun ns hn => KD.K23.law_ok 96 ns hn
