import PyProof.Rows.All
import Wide.All
import OpenK.AllK
import Wide.FinOn
import HandS.ForMost
import HandS.Defaults
import HandS.Exc
import HandS.Flow
import HandS.TupAny
import HandS.Wide
import HandS.IsInst
import HandS.Deep
import HandS.Rev
import HandS.Head0
import HandS.Head1
import HandS.Head2
import HandS.HeadEnd
import HandS.EndBits
import HandS.HeadHook1
import HandS.HeadHook2
import HandS.RevTup
import HandS.HeadHook4
import HandS.ExcOwn
import HandS.ExcInit
import HandS.ExcField
import HandS.ExcCtx
import HandS.HotCalls
import HandS.ExcInitHot
import HandS.Dict
import HandS.More
import HandS.Iter
import HandS.WordsDict
import HandS.SortInts
import KE.SortData
import KE.DataMinMax
import KE.DatumOrd
import HandS.SortKw
import ObjForm.LawKit
import HandS.Zip
import HandS.DeepEq
import HandS.Conv
import HandS.ExcIs
import KE.KExcIs
import HandS.Property
import HandS.CallSlots
import KE.KDictDisplayH
import HandS.FStr
import HandS.Text
import PyProof.ReprRoads
import PyProof.Rows.NestShow
import HandS.Sort
import HandS.CallLocal
import PyProof.StrBlock2
import HandS.IterVal
import KE.KOwnIter
import HandS.SetFor
import HandS.TupSets
import HandS.Lambda
import HandS.MakeKwOnly
import PySem.Challenge.RW_elenchus_k14_signatures
set_option Elab.async false
set_option linter.all false
set_option maxRecDepth 100000
set_option maxHeartbeats 4000000
/-! DCore: values with tuples as trees (D), the heap of what changes (DH), judgements over them. -/
namespace DL
open PySem PySem.Spec PyProof.Rows L2

/-- a value; tuples and lists that never change are trees -/
inductive D where
  | non | bl (b : Bool) | int (i : Int) | str (x : Str) | tup (xs : List D) | lsv (xs : List D) | ref (a : Addr) | ty (n : String)

/-- a list that nobody writes -/
def LsK (K : PySem.W.Frag) (H : Hp) (a : Addr) (xs : List V) : Prop :=
  (∃ o, H a = some (.frz o (.lst xs))) ∨
    ∃ (o : Obj) (its : Array Value) (n : Nat), K.lookup a = some o ∧ o.cls = .type "list" ∧ o.dict = none ∧ o.data = .seq its n ∧ its.size ≤ sizeLine ∧ Vals xs its.toList
theorem LsK.sq {K : PySem.W.Frag} {H : Hp} {a : Addr} {xs : List V} (h : LsK K H a xs) : SqL K H a xs := by
  rcases h with ⟨o, h⟩ | h
  · exact .inl (.inr ⟨o, h⟩)
  · exact .inr h

mutual
def Rep (K : PySem.W.Frag) (H : Hp) : D → V → Prop
  | .non, v => v = .non
  | .bl b, v => v = .bl b
  | .int i, v => v = .int i
  | .str x, v => v = .str x
  | .tup ds, v => ∃ a xs, v = .ref a ∧ SqT K H a xs ∧ Reps K H ds xs
  | .lsv ds, v => ∃ a xs, v = .ref a ∧ LsK K H a xs ∧ Reps K H ds xs
  | .ref a, v => v = .ref a
  | .ty n, v => v = .ty n
def Reps (K : PySem.W.Frag) (H : Hp) : List D → List V → Prop
  | [], vs => vs = []
  | d :: ds, vs => ∃ x xs, vs = x :: xs ∧ Rep K H d x ∧ Reps K H ds xs
end

/-- tuples, and lists that nobody writes, stay -/
structure TKw (H H' : Hp) : Prop where
  t : ∀ a xs, Rd H a (.tup xs) → Rd H' a (.tup xs)
  l : ∀ a o xs, H a = some (.frz o (.lst xs)) → H' a = some (.frz o (.lst xs))
/-- .. and what is locked -/
structure TK (H H' : Hp) : Prop extends TKw H H' where
  f : ∀ a o u, H a = some (.frz o u) → H' a = some (.frz o u)
  u : ∀ a xs, H a = some (.tup xs) → H' a = some (.tup xs)
theorem TK.of {H H' : Hp} (t : ∀ a xs, H a = some (.tup xs) → H' a = some (.tup xs)) (f : ∀ a o u, H a = some (.frz o u) → H' a = some (.frz o u)) : TK H H' where
  t := fun a xs e => by
    rcases e with e | ⟨ob, e⟩
    · exact .inl (t _ _ e)
    · exact .inr ⟨ob, f _ _ _ e⟩
  l := fun a o xs e => f a o _ e
  f := f
  u := t
theorem TK.refl (H : Hp) : TK H H := .of (fun _ _ h => h) (fun _ _ _ h => h)
theorem TK.trans {H H1 H2 : Hp} (a : TK H H1) (b : TK H1 H2) : TK H H2 where
  t := fun x xs h => b.t x xs (a.t x xs h)
  l := fun x o xs h => b.l x o xs (a.l x o xs h)
  f := fun x o u h => b.f x o u (a.f x o u h)
  u := fun x xs h => b.u x xs (a.u x xs h)
theorem TK.new {H : Hp} {p : Addr} {o : HO} (h : H p = none) : TK H (upd H p o) := .of (fun a xs e => by rw [upd_ne (ne_of_none e h)]; exact e) fun a o xs e => by rw [upd_ne (ne_of_none e h)]; exact e
theorem TK.mut {H : Hp} {p : Addr} {o : HO} (m : Mut (H p)) : TK H (upd H p o) := by
  have ne : ∀ a u, H a = some u → ¬ Mut (some u) → a ≠ p := fun a u e nm z => by subst z; rw [e] at m; exact nm m
  exact .of (fun a xs e => by rw [upd_ne (ne a _ e (fun z => z))]; exact e) fun a o xs e => by rw [upd_ne (ne a _ e (fun z => z))]; exact e
theorem TKw.sqT {K : PySem.W.Frag} {H H' : Hp} (k : TKw H H') {a : Addr} {xs : List V} (h : SqT K H a xs) : SqT K H' a xs := by
  rcases h with h | h
  · exact .inl (k.t _ _ h)
  · exact .inr h
theorem TK.sqT {K : PySem.W.Frag} {H H' : Hp} (k : TK H H') {a : Addr} {xs : List V} (h : SqT K H a xs) : SqT K H' a xs := k.toTKw.sqT h
theorem TKw.lsK {K : PySem.W.Frag} {H H' : Hp} (k : TKw H H') {a : Addr} {xs : List V} (h : LsK K H a xs) : LsK K H' a xs := by
  rcases h with ⟨o, h⟩ | h
  · exact .inl ⟨o, k.l _ _ _ h⟩
  · exact .inr h
theorem TK.lsK {K : PySem.W.Frag} {H H' : Hp} (k : TK H H') {a : Addr} {xs : List V} (h : LsK K H a xs) : LsK K H' a xs := k.toTKw.lsK h
mutual
theorem Rep.tw {K : PySem.W.Frag} {H H' : Hp} (k : TKw H H') : ∀ {d : D} {v : V}, Rep K H d v → Rep K H' d v
  | .non, _, h => h
  | .bl _, _, h => h
  | .int _, _, h => h
  | .str _, _, h => h
  | .tup ds, _, h => by
    obtain ⟨a, xs, e, s, r⟩ := h
    exact ⟨a, xs, e, k.sqT s, Reps.tw k r⟩
  | .lsv ds, _, h => by
    obtain ⟨a, xs, e, s, r⟩ := h
    exact ⟨a, xs, e, k.lsK s, Reps.tw k r⟩
  | .ref _, _, h => h
  | .ty _, _, h => h
theorem Reps.tw {K : PySem.W.Frag} {H H' : Hp} (k : TKw H H') : ∀ {ds : List D} {vs : List V}, Reps K H ds vs → Reps K H' ds vs
  | [], _, h => h
  | d :: ds, _, h => by
    obtain ⟨x, xs, e, r, rs⟩ := h
    exact ⟨x, xs, e, Rep.tw k r, Reps.tw k rs⟩
end
theorem Rep.tk {K : PySem.W.Frag} {H H' : Hp} (k : TK H H') {d : D} {v : V} (r : Rep K H d v) : Rep K H' d v := Rep.tw k.toTKw r
theorem Reps.tk {K : PySem.W.Frag} {H H' : Hp} (k : TK H H') {ds : List D} {vs : List V} (r : Reps K H ds vs) : Reps K H' ds vs := Reps.tw k.toTKw r
section
variable {K : PySem.W.Frag} {H H' : Hp}
theorem Reps.length : ∀ {ds : List D} {vs : List V}, Reps K H ds vs → vs.length = ds.length
  | [], _, h => by cases (show _ = _ from h); rfl
  | d :: ds, _, h => by
    obtain ⟨x, xs, rfl, _, rs⟩ := h
    simp [Reps.length rs]
theorem Reps.get : ∀ {ds : List D} {vs : List V} {i : Nat} {d : D}, Reps K H ds vs → ds[i]? = some d → ∃ v, vs[i]? = some v ∧ Rep K H d v
  | [], _, _, _, _, e => by simp at e
  | d :: ds, _, 0, _, h, e => by
    obtain ⟨x, xs, rfl, r, rs⟩ := h
    simp at e; subst e
    exact ⟨x, rfl, r⟩
  | d :: ds, _, i + 1, _, h, e => by
    obtain ⟨x, xs, rfl, r, rs⟩ := h
    obtain ⟨v, e1, r1⟩ := Reps.get (i := i) rs (by simpa using e)
    exact ⟨v, by simpa using e1, r1⟩
theorem Reps.nil : Reps K H [] [] := rfl
theorem Reps.cons {d : D} {v : V} {ds : List D} {vs : List V} (r : Rep K H d v) (rs : Reps K H ds vs) : Reps K H (d :: ds) (v :: vs) := ⟨v, vs, rfl, r, rs⟩
theorem Reps.append : ∀ {ds es : List D} {vs ws : List V}, Reps K H ds vs → Reps K H es ws → Reps K H (ds ++ es) (vs ++ ws)
  | [], _, _, _, h, g => by cases (show _ = _ from h); exact g
  | d :: ds, _, _, _, h, g => by
    obtain ⟨x, xs, rfl, r, rs⟩ := h
    exact ⟨x, _, rfl, r, Reps.append rs g⟩
theorem Reps.take : ∀ {ds : List D} {vs : List V} (n : Nat), Reps K H ds vs → Reps K H (ds.take n) (vs.take n)
  | _, _, 0, _ => rfl
  | [], _, n + 1, h => by cases (show _ = _ from h); rfl
  | d :: ds, _, n + 1, h => by
    obtain ⟨x, xs, rfl, r, rs⟩ := h
    exact ⟨x, _, rfl, r, Reps.take n rs⟩
theorem Reps.drop : ∀ {ds : List D} {vs : List V} (n : Nat), Reps K H ds vs → Reps K H (ds.drop n) (vs.drop n)
  | _, _, 0, h => h
  | [], _, n + 1, h => by cases (show _ = _ from h); rfl
  | d :: ds, _, n + 1, h => by
    obtain ⟨x, xs, rfl, r, rs⟩ := h
    exact Reps.drop n rs
theorem Reps.reverse : ∀ {ds : List D} {vs : List V}, Reps K H ds vs → Reps K H ds.reverse vs.reverse
  | [], _, h => by cases (show _ = _ from h); rfl
  | d :: ds, _, h => by
    obtain ⟨x, xs, rfl, r, rs⟩ := h
    rw [List.reverse_cons, List.reverse_cons]
    exact (Reps.reverse rs).append (.cons r .nil)
theorem Reps.set {e : D} {w : V} (q : Rep K H e w) : ∀ {ds : List D} {vs : List V} (i : Nat), Reps K H ds vs → Reps K H (ds.set i e) (vs.set i w)
  | [], _, _, h => by cases (show _ = _ from h); rfl
  | d :: ds, _, 0, h => by
    obtain ⟨x, xs, rfl, r, rs⟩ := h
    exact ⟨_, _, rfl, q, rs⟩
  | d :: ds, _, i + 1, h => by
    obtain ⟨x, xs, rfl, r, rs⟩ := h
    exact ⟨_, _, rfl, r, Reps.set q i rs⟩
theorem Reps.eraseIdx : ∀ {ds : List D} {vs : List V} (i : Nat), Reps K H ds vs → Reps K H (ds.eraseIdx i) (vs.eraseIdx i)
  | [], _, _, h => by cases (show _ = _ from h); rfl
  | d :: ds, _, 0, h => by
    obtain ⟨x, xs, rfl, r, rs⟩ := h
    exact rs
  | d :: ds, _, i + 1, h => by
    obtain ⟨x, xs, rfl, r, rs⟩ := h
    exact ⟨_, _, rfl, r, Reps.eraseIdx i rs⟩
theorem Reps.dropLast {ds : List D} {vs : List V} (h : Reps K H ds vs) : Reps K H ds.dropLast vs.dropLast := by
  rw [List.dropLast_eq_take, List.dropLast_eq_take, h.length]
  exact h.take _
theorem Reps.isEmpty {ds : List D} {vs : List V} (h : Reps K H ds vs) : vs.isEmpty = ds.isEmpty := by
  cases ds with
  | nil => cases (show _ = _ from h); rfl
  | cons d ds => obtain ⟨x, xs, rfl, _, _⟩ := h; rfl
end

/-! ### what changes -/
inductive DO where
  | lst (xs : List D)
  | dK (kvs : List (Key × D))
  | dT (kvs : List (List Key × D))
  | ins (C : Str) (fs : List (Str × D))
  | xd (fs : List (Str × D))
  /-- a dict that a loop walks -/
  | fdK (kvs : List (Key × D))
abbrev DH := Addr → Option DO
def updD (h : DH) (a : Addr) (o : DO) : DH := fun b => if b = a then some o else h b
theorem updD_same {h : DH} {a : Addr} {o : DO} : updD h a o a = some o := by unfold updD; rw [if_pos rfl]
theorem updD_ne {h : DH} {a b : Addr} {o : DO} (e : b ≠ a) : updD h a o b = h b := by unfold updD; rw [if_neg e]
theorem updD_updD {h : DH} {a : Addr} {o u : DO} : updD (updD h a o) a u = updD h a u := by
  funext b; unfold updD; split <;> rfl
def RepKV {κ : Type} (K : PySem.W.Frag) (H : Hp) : List (κ × D) → List (κ × V) → Prop := Paired fun p q => p.1 = q.1 ∧ Rep K H p.2 q.2
def RepO (K : PySem.W.Frag) (H : Hp) (a : Addr) : DO → Prop
  | .lst ds => ∃ xs, H a = some (.lst xs) ∧ Reps K H ds xs
  | .dK kvs => ∃ vs, H a = some (.dK vs) ∧ RepKV K H kvs vs
  | .dT kvs => ∃ vs, H a = some (.dT vs) ∧ RepKV K H kvs vs
  | .ins C fs => ∃ dx vs, H a = some (.ins (He.ga K C) dx vs) ∧ RepKV K H fs vs
  | .xd fs => ∃ vs, H a = some (.xd vs) ∧ RepKV K H fs vs
  | .fdK kvs => ∃ od vs, H a = some (.frz od (.dK vs)) ∧ RepKV K H kvs vs
def RepH (K : PySem.W.Frag) (H : Hp) (h : DH) : Prop := ∀ a o, h a = some o → RepO K H a o
def Sub (h h' : DH) : Prop := ∀ a o, h a = some o → h' a = some o
theorem Sub.refl (h : DH) : Sub h h := fun _ _ e => e
theorem Sub.trans {h h1 h2 : DH} (a : Sub h h1) (b : Sub h1 h2) : Sub h h2 := fun x o e => b x o (a x o e)
theorem Sub.new {h : DH} {p : Addr} {o : DO} (e : h p = none) : Sub h (updD h p o) := fun a u q => by
  rw [updD_ne]
  · exact q
  · rintro rfl; rw [e] at q; cases q
theorem neD {h : DH} {a b : Addr} {o : DO} (e : h a = some o) (n : h b = none) : a ≠ b := by
  rintro rfl; rw [e] at n; cases n
theorem Sub.mut {h h' : DH} {p : Addr} {o : DO} (s : Sub h h') (n : h p = none) : Sub h (updD h' p o) := fun a u q => by
  rw [updD_ne (neD q n)]; exact s a u q
theorem Sub.both {h h' : DH} {p : Addr} {o : DO} (s : Sub h h') : Sub (updD h p o) (updD h' p o) := fun a u q => by
  by_cases e : a = p
  · subst e; rw [updD_same] at q ⊢; exact q
  · rw [updD_ne e] at q ⊢; exact s a u q
theorem Sub.free {h h' : DH} {p : Addr} (s : Sub h h') (n : h' p = none) : h p = none := by
  cases e : h p with
  | none => rfl
  | some o => rw [s p o e] at n; cases n
section
variable {K : PySem.W.Frag} {H H' : Hp} {h h' : DH}
theorem RepKV.tw {κ : Type} (k : TKw H H') {ds : List (κ × D)} {vs : List (κ × V)} (r : RepKV K H ds vs) : RepKV K H' ds vs := Paired.mapP r fun _ _ q => ⟨q.1, q.2.tw k⟩
theorem RepKV.tk {κ : Type} (k : TK H H') {ds : List (κ × D)} {vs : List (κ × V)} (r : RepKV K H ds vs) : RepKV K H' ds vs := r.tw k.toTKw
theorem RepO.stayw {a : Addr} {o : DO} (k : TKw H H') (e : H' a = H a) (r : RepO K H a o) : RepO K H' a o := by
  cases o with
  | lst ds => obtain ⟨xs, q, r⟩ := r; exact ⟨xs, e.trans q, r.tw k⟩
  | dK kvs => obtain ⟨xs, q, r⟩ := r; exact ⟨xs, e.trans q, r.tw k⟩
  | dT kvs => obtain ⟨xs, q, r⟩ := r; exact ⟨xs, e.trans q, r.tw k⟩
  | ins C fs => obtain ⟨dx, xs, q, r⟩ := r; exact ⟨dx, xs, e.trans q, r.tw k⟩
  | xd fs => obtain ⟨xs, q, r⟩ := r; exact ⟨xs, e.trans q, r.tw k⟩
  | fdK fs => obtain ⟨od, xs, q, r⟩ := r; exact ⟨od, xs, e.trans q, r.tw k⟩
theorem RepO.stay {a : Addr} {o : DO} (k : TK H H') (e : H' a = H a) (r : RepO K H a o) : RepO K H' a o := r.stayw k.toTKw e
theorem RepO.there {a : Addr} {o : DO} (r : RepO K H a o) : ∃ u, H a = some u := by
  cases o with
  | lst ds => obtain ⟨xs, q, _⟩ := r; exact ⟨_, q⟩
  | dK kvs => obtain ⟨xs, q, _⟩ := r; exact ⟨_, q⟩
  | dT kvs => obtain ⟨xs, q, _⟩ := r; exact ⟨_, q⟩
  | ins C fs => obtain ⟨dx, xs, q, _⟩ := r; exact ⟨_, q⟩
  | xd fs => obtain ⟨xs, q, _⟩ := r; exact ⟨_, q⟩
  | fdK fs => obtain ⟨od, xs, q, _⟩ := r; exact ⟨_, q⟩
theorem RepH.free (r : RepH K H h) {p : Addr} (n : H p = none) : h p = none := by
  cases e : h p with
  | none => rfl
  | some o => obtain ⟨u, q⟩ := (r p o e).there; rw [n] at q; cases q
theorem RepH.sub (r : RepH K H h') (s : Sub h h') : RepH K H h := fun a o e => r a o (s a o e)
theorem RepH.ne (r : RepH K H h) {a p : Addr} {o : DO} (e : h a = some o) (n : H p = none) : a ≠ p := by
  rintro rfl; rw [r.free n] at e; cases e
/-- a new object at p that is not tracked here -/
theorem RepH.skip (r : RepH K H h) {p : Addr} {o : HO} (n : H p = none) : RepH K (upd H p o) h := fun a u e =>
  (r a u e).stay (TK.new n) (upd_ne (r.ne e n))
theorem RepH.new (r : RepH K H h) {p : Addr} {o : HO} {u : DO} (n : H p = none) (q : RepO K (upd H p o) p u) : RepH K (upd H p o) (updD h p u) := fun a w e => by
  by_cases z : a = p
  · subst z; rw [updD_same] at e; cases e; exact q
  · rw [updD_ne z] at e; exact r.skip n a w e
theorem RepH.mut (r : RepH K H h) {p : Addr} {o : HO} {u : DO} (m : Mut (H p)) (q : RepO K (upd H p o) p u) : RepH K (upd H p o) (updD h p u) := fun a w e => by
  by_cases z : a = p
  · subst z; rw [updD_same] at e; cases e; exact q
  · rw [updD_ne z] at e; exact (r a w e).stay (TK.mut m) (upd_ne z)
end

/-! ### slots -/
abbrev DSt := List (Option D)
structure RepS (K : PySem.W.Frag) (H : Hp) (τ : DSt) (σ : L2.St) : Prop where
  at_ : ∀ (i : Nat) (d : D), τ[i]? = some (some d) → ∃ v, σ[i]? = some (some v) ∧ Rep K H d v
  len : τ.length = σ.length
theorem RepS.tk {K : PySem.W.Frag} {H H' : Hp} {τ : DSt} {σ : L2.St} (r : RepS K H τ σ) (k : TK H H') : RepS K H' τ σ :=
  ⟨fun i d e => let ⟨v, a, b⟩ := r.at_ i d e; ⟨v, a, b.tk k⟩, r.len⟩
theorem RepS.set {K : PySem.W.Frag} {H : Hp} {τ : DSt} {σ : L2.St} (r : RepS K H τ σ) {d : D} {v : V} (q : Rep K H d v) (i : Nat) : RepS K H (τ.set i (some d)) (σ.set i (some v)) := by
  refine ⟨fun j e he => ?_, by simpa using r.len⟩
  by_cases hj : i = j
  · subst hj
    have hi : i < τ.length := by
      by_cases hi : i < τ.length
      · exact hi
      · rw [List.getElem?_eq_none (by simpa using hi)] at he; cases he
    rw [List.getElem?_set_self hi] at he
    cases he
    exact ⟨v, by rw [List.getElem?_set_self (by rw [← r.len]; exact hi)], q⟩
  · rw [List.getElem?_set_ne hj] at he ⊢
    exact r.at_ j e he

/-! ### readings over D -/
abbrev DK := D → DH → Prop
abbrev DTE := DSt → DH → DK → Prop
abbrev DTT := DSt → DH → (Bool → DH → Prop) → Prop
abbrev DTA := DSt → DH → (List D → DH → Prop) → Prop
/-- what the end of a reading over D asks of the abstract heap -/
def Cl (K : PySem.W.Frag) (H : Hp) (Q : VK) : DK := fun d h => ∀ v H', Rep K H' d v → RepH K H' h → TK H H' → Q v H'
def ClB (K : PySem.W.Frag) (H : Hp) (Q : Bool → Hp → Prop) : Bool → DH → Prop := fun b h => ∀ H', RepH K H' h → TK H H' → Q b H'
def ClA (K : PySem.W.Frag) (H : Hp) (Q : List V → Hp → Prop) : List D → DH → Prop := fun ds h => ∀ vs H', Reps K H' ds vs → RepH K H' h → TK H H' → Q vs H'
theorem Cl.tk {K : PySem.W.Frag} {H H1 : Hp} {Q : VK} (k : TK H H1) {d : D} {h : DH} (c : Cl K H Q d h) : Cl K H1 Q d h := fun v H' a b e => c v H' a b (k.trans e)
theorem ClB.tk {K : PySem.W.Frag} {H H1 : Hp} {Q : Bool → Hp → Prop} (k : TK H H1) {d : Bool} {h : DH} (c : ClB K H Q d h) : ClB K H1 Q d h := fun H' b e => c H' b (k.trans e)
theorem ClA.tk {K : PySem.W.Frag} {H H1 : Hp} {Q : List V → Hp → Prop} (k : TK H H1) {d : List D} {h : DH} (c : ClA K H Q d h) : ClA K H1 Q d h := fun v H' a b e => c v H' a b (k.trans e)
/-- a wish that bears more objects -/
def Up {α : Type} (Q : α → DH → Prop) : Prop := ∀ a h h', Sub h h' → Q a h → Q a h'
theorem Cl.up {K : PySem.W.Frag} {H : Hp} {Q : VK} : Up (Cl K H Q) := fun _ _ _ s c v H' a b e => c v H' a (b.sub s) e
def LE (K : PySem.W.Frag) (t : DTE) : TE := fun σ H Q => ∃ τ h, RepS K H τ σ ∧ RepH K H h ∧ t τ h (Cl K H Q)
def LT (K : PySem.W.Frag) (t : DTT) : TT := fun σ H Q => ∃ τ h, RepS K H τ σ ∧ RepH K H h ∧ t τ h (ClB K H Q)
def LA (K : PySem.W.Frag) (t : DTA) : TA := fun σ H Q => ∃ τ h, RepS K H τ σ ∧ RepH K H h ∧ t τ h (ClA K H Q)
def Mono {α : Type} (t : DSt → DH → (α → DH → Prop) → Prop) : Prop := ∀ τ h Q Q', (∀ d h', Q d h' → Q' d h') → t τ h Q → t τ h Q'
section
variable {K : PySem.W.Frag} {H : Hp} {τ : DSt} {σ : L2.St} {h : DH}
theorem LE.of {t : DTE} {Qd : DK} {R : VK} (m : Mono t) (rs : RepS K H τ σ) (rh : RepH K H h) (q : t τ h Qd)
    (k : ∀ d h1 v H1, Qd d h1 → Rep K H1 d v → RepH K H1 h1 → TK H H1 → R v H1) : LE K t σ H R :=
  ⟨τ, h, rs, rh, m _ _ _ _ (fun d h1 q v H1 a b c => k d h1 v H1 q a b c) q⟩
theorem LT.of {t : DTT} {Qd : Bool → DH → Prop} {R : Bool → Hp → Prop} (m : Mono t) (rs : RepS K H τ σ) (rh : RepH K H h) (q : t τ h Qd)
    (k : ∀ d h1 H1, Qd d h1 → RepH K H1 h1 → TK H H1 → R d H1) : LT K t σ H R :=
  ⟨τ, h, rs, rh, m _ _ _ _ (fun d h1 q H1 b c => k d h1 H1 q b c) q⟩
theorem LA.of {t : DTA} {Qd : List D → DH → Prop} {R : List V → Hp → Prop} (m : Mono t) (rs : RepS K H τ σ) (rh : RepH K H h) (q : t τ h Qd)
    (k : ∀ d h1 v H1, Qd d h1 → Reps K H1 d v → RepH K H1 h1 → TK H H1 → R v H1) : LA K t σ H R :=
  ⟨τ, h, rs, rh, m _ _ _ _ (fun d h1 q v H1 a b c => k d h1 v H1 q a b c) q⟩
end
/-- weaken -/
theorem _root_.L2.PE.wk {X : Cx} {e : Expr} {t t' : TE} (p : PE X e t) (k : ∀ σ H Q, t' σ H Q → t σ H Q) : PE X e t' := ⟨fun pins s σ H Q I h => p.run pins s σ H Q I (k _ _ _ h)⟩
theorem _root_.L2.PT.wk {X : Cx} {e : Expr} {t t' : TT} (p : PT X e t) (k : ∀ σ H Q, t' σ H Q → t σ H Q) : PT X e t' := ⟨fun pins s σ H Q I h => p.run pins s σ H Q I (k _ _ _ h)⟩
theorem _root_.L2.PW.wk {X : Cx} {e : Expr} {t t' : TT} (p : PW X e t) (k : ∀ σ H Q, t' σ H Q → t σ H Q) : PW X e t' := ⟨fun wh pins s σ H Q I h => p.run wh pins s σ H Q I (k _ _ _ h)⟩
theorem _root_.L2.PA.wk {X : Cx} {e : List Expr} {t t' : TA} (p : PA X e t) (k : ∀ σ H Q, t' σ H Q → t σ H Q) : PA X e t' := ⟨fun pos pins s σ H Q I h => p.run pos pins s σ H Q I (k _ _ _ h)⟩
theorem _root_.L2.PS.wk {X : Cx} {st : Stmt} {t t' : TS} (p : PS X st t) (k : ∀ D σ H, t' D σ H → t D σ H) : PS X st t' := ⟨fun pins s σ H D I h => p.run pins s σ H D I (k _ _ _ h)⟩
theorem _root_.L2.PSs.wk {X : Cx} {st : List Stmt} {t t' : TS} (p : PSs X st t) (k : ∀ D σ H, t' D σ H → t D σ H) : PSs X st t' := ⟨fun pins s σ H D I h => p.run pins s σ H D I (k _ _ _ h)⟩

structure DE (X : Cx) (e : Expr) (t : DTE) : Prop where
  run : PE X e (LE X.K t)
  mono : Mono t
structure DT (X : Cx) (e : Expr) (t : DTT) : Prop where
  run : PT X e (LT X.K t)
  mono : Mono t
structure DW (X : Cx) (e : Expr) (t : DTT) : Prop where
  run : PW X e (LT X.K t)
  mono : Mono t
structure DA (X : Cx) (es : List Expr) (t : DTA) : Prop where
  run : PA X es (LA X.K t)
  mono : Mono t

/-! ### names and constants -/
def dVar (i : Nat) : DTE := fun τ h Q => ∃ d, τ[i]? = some (some d) ∧ Q d h
def dC (d : D) : DTE := fun _ h Q => Q d h
section
variable {X : Cx} {pos : Pos}
theorem de_var (i : Nat) {x : Str} (hN : X.N[i]? = some x := by rfl) (hv : Vis X.env.scope x := by first | exact Or.inl rfl | exact Or.inr (Or.inl rfl) | exact Or.inr (Or.inr rfl)) (hd : (x == ("__debug__" : Str)) = false := by decide)
    (hcd : (x == ("__classdict__" : Str)) = false := by decide) : DE X (.Name x pos) (dVar i) := by
  refine ⟨(pv i hN hv hd hcd).wk fun σ H Q h => ?_, fun τ h Q Q' k ⟨d, e, q⟩ => ⟨d, e, k _ _ q⟩⟩
  obtain ⟨τ, h, rs, rh, d, e, q⟩ := h
  obtain ⟨v, e1, r⟩ := rs.at_ i d e
  exact ⟨v, e1, q v H r rh (.refl H)⟩
theorem de_c {e : Expr} {d : D} {v : V} (p : PE X e (tC v)) (r : ∀ H, Rep X.K H d v) : DE X e (dC d) := by
  refine ⟨p.wk fun σ H Q h => ?_, fun τ h Q Q' k q => k _ _ q⟩
  obtain ⟨τ, h, rs, rh, q⟩ := h
  exact q v H (r H) rh (.refl H)
theorem de_int {i j} : DE X (.Constant (.int i) j pos) (dC (.int i)) := de_c pe_int fun _ => rfl
theorem de_bl {b j} : DE X (.Constant (.bool b) j pos) (dC (.bl b)) := de_c pe_bl fun _ => rfl
theorem de_non {j} : DE X (.Constant .none j pos) (dC .non) := de_c pe_non fun _ => rfl
theorem de_str {x j} : DE X (.Constant (.str x) j pos) (dC (.str x)) := de_c pe_str fun _ => rfl
/-- a module's constant -/
theorem de_glob {x : Str} {d : D} {v : V} {u : Value} (hg : Gl X x) (hm : X.mg x = some u) (r : RelV v u) (rd : ∀ H, Rep X.K H d v) (hd : (x == ("__debug__" : Str)) = false := by decide) : DE X (.Name x pos) (dC d) := de_c (pe_glob hg hm r hd) rd
theorem de_bltn {x : Str} {d : D} {v : V} {u : Value} (hg : Gl X x) (hm : X.mg x = none) (hv : bootBuiltins x = some u) (r : RelV v u) (rd : ∀ H, Rep X.K H d v) (hn : x ≠ "__name__" := by decide) (hd : (x == ("__debug__" : Str)) = false := by decide) : DE X (.Name x pos) (dC d) :=
  de_c (pe_bltn hg hm hv r hn hd) rd
end

/-! ### two-place operations by values -/
abbrev RD2 := D → D → DH → DK → Prop
structure DOp (X : Cx) (f : Value → Value → Sem Value) (rd : RD2) : Prop where
  run : ∀ (pins : List (Addr × Obj)) (s : Shared) (σ : L2.St) (H : Hp) (x y : V) (u v : Value) (dx dy : D) (h : DH) (Q : VK), Inv X pins σ H s → RelV x u → RelV y v → Rep X.K H dx x → Rep X.K H dy y → RepH X.K H h → rd dx dy h (Cl X.K H Q) →
    wpAny (model X.prog X.w) X.A (f u v) (EP X pins σ Q) X.xe s
  mono : ∀ x y h Q Q', (∀ d h', Q d h' → Q' d h') → rd x y h Q → rd x y h Q'
/-- from a rule of the layer -/
theorem DOp.of {X : Cx} {f : Value → Value → Sem Value} {r : R2} {rd : RD2} (o : OpR X f r) (k : ∀ H x y dx dy h Q, Rep X.K H dx x → Rep X.K H dy y → RepH X.K H h → rd dx dy h (Cl X.K H Q) → r x y H Q)
    (m : ∀ x y h Q Q', (∀ d h', Q d h' → Q' d h') → rd x y h Q → rd x y h Q') : DOp X f rd :=
  ⟨fun pins s σ H x y u v dx dy h Q I r1 r2 p1 p2 rh q => o pins s σ H x y u v Q I r1 r2 (k H x y dx dy h Q p1 p2 rh q), m⟩
def rL (K : PySem.W.Frag) (rd : RD2) : R2 := fun x y H Q => ∃ dx dy h, Rep K H dx x ∧ Rep K H dy y ∧ RepH K H h ∧ rd dx dy h (Cl K H Q)
theorem DOp.opr {X : Cx} {f : Value → Value → Sem Value} {rd : RD2} (o : DOp X f rd) : OpR X f (rL X.K rd) := fun pins s σ H x y u v Q I r1 r2 ⟨dx, dy, h, p1, p2, rh, q⟩ =>
  o.run pins s σ H x y u v dx dy h Q I r1 r2 p1 p2 rh q
def dOp (rd : RD2) (ta tb : DTE) : DTE := fun τ h Q => ta τ h fun x h1 => tb τ h1 fun y h2 => rd x y h2 Q
theorem dOp_mono {rd : RD2} {ta tb : DTE} (m : ∀ x y h Q Q', (∀ d h', Q d h' → Q' d h') → rd x y h Q → rd x y h Q') (ma : Mono ta) (mb : Mono tb) : Mono (dOp rd ta tb) := fun τ h Q Q' k q =>
  ma _ _ _ _ (fun x h1 q1 => mb _ _ _ _ (fun y h2 q2 => m _ _ _ _ _ k q2) q1) q
theorem dOp_lift {K : PySem.W.Frag} {rd : RD2} {ta tb : DTE} (m : ∀ x y h Q Q', (∀ d h', Q d h' → Q' d h') → rd x y h Q → rd x y h Q') (ma : Mono ta) (mb : Mono tb) {σ : L2.St} {H : Hp} {Q : VK} (q : LE K (dOp rd ta tb) σ H Q) :
    tOp (rL K rd) (LE K ta) (LE K tb) σ H Q := by
  obtain ⟨τ, h, rs, rh, q⟩ := q
  refine LE.of ma rs rh q fun d h1 v H1 q1 r1 rh1 k1 => ?_
  refine LE.of mb (rs.tk k1) rh1 q1 fun d2 h2 v2 H2 q2 r2 rh2 k2 => ?_
  exact ⟨d, d2, h2, r1.tk k2, r2, rh2, m _ _ _ _ _ (fun _ _ c => c.tk (k1.trans k2)) q2⟩
section
variable {X : Cx} {a b : Expr} {ta tb : DTE} {pos : Pos}
theorem de_op {op : Operator} {rd : RD2} (ho : DOp X (binaryOp op) rd) (ha : DE X a ta) (hb : DE X b tb) : DE X (.BinOp a op b pos) (dOp rd ta tb) :=
  ⟨(pe_op ho.opr ha.run hb.run).wk fun _ _ _ q => dOp_lift ho.mono ha.mono hb.mono q, dOp_mono ho.mono ha.mono hb.mono⟩
theorem de_cmp {op : CmpOp} {rd : RD2} (ho : DOp X (compareOp op) rd) (ha : DE X a ta) (hb : DE X b tb) (hm : behindInMarks op b = false := by first | exact nomark _ | with_unfolding_all rfl) : DE X (.Compare a [op] [b] pos) (dOp rd ta tb) :=
  ⟨(pe_cmpR ho.opr ha.run hb.run hm).wk fun _ _ _ q => dOp_lift ho.mono ha.mono hb.mono q, dOp_mono ho.mono ha.mono hb.mono⟩
end
end DL

/-! DOps: operations over D. -/
namespace DL
open PySem PySem.Spec PyProof.Rows L2

section
variable {K : PySem.W.Frag} {H : Hp} {h : DH}
theorem rep_int {v : V} {i : Int} (r : Rep K H (.int i) v) : v = .int i := r
theorem rep_str {v : V} {i : Str} (r : Rep K H (.str i) v) : v = .str i := r
theorem rep_bl {v : V} {i : Bool} (r : Rep K H (.bl i) v) : v = .bl i := r
theorem rep_tup {v : V} {ds : List D} (r : Rep K H (.tup ds) v) : ∃ a xs, v = .ref a ∧ SqT K H a xs ∧ Reps K H ds xs := r
theorem rep_ref {v : V} {a : Addr} (r : Rep K H (.ref a) v) : v = .ref a := r
theorem RepH.lst (rh : RepH K H h) {a : Addr} {ds : List D} (e : h a = some (.lst ds)) : ∃ xs, H a = some (.lst xs) ∧ Reps K H ds xs := rh a _ e
theorem mut_lst {a : Addr} {xs : List V} (e : H a = some (.lst xs)) : Mut (H a) := by rw [e]; trivial
/-- a new list -/
theorem Cl.newL {Q : VK} {ds : List D} {xs : List V} (rh : RepH K H h) (r : Reps K H ds xs) {p : Addr} (n : H p = none) (q : Cl K H Q (.ref p) (updD h p (.lst ds))) : Q (.ref p) (upd H p (.lst xs)) :=
  q _ _ rfl (rh.new n ⟨xs, upd_same, r.tk (.new n)⟩) (.new n)
/-- a new tuple -/
theorem Cl.newT {Q : VK} {ds : List D} {xs : List V} (rh : RepH K H h) (r : Reps K H ds xs) {p : Addr} (n : H p = none) (q : Cl K H Q (.tup ds) h) : Q (.ref p) (upd H p (.tup xs)) :=
  q _ _ ⟨p, xs, rfl, .of upd_same, r.tk (.new n)⟩ (rh.skip n) (.new n)
/-- the same heap -/
theorem Cl.same {Q : VK} {d : D} {v : V} (q : Cl K H Q d h) (rh : RepH K H h) (r : Rep K H d v) : Q v H := q v H r rh (.refl H)
/-- a list written -/
theorem Cl.setL {Q : VK} {d : D} {v : V} {ds : List D} {xs ys : List V} {a : Addr} (rh : RepH K H h) (e : H a = some (.lst xs)) (r : Reps K H ds ys) (rd : Rep K H d v) (q : Cl K H Q d (updD h a (.lst ds))) : Q v (upd H a (.lst ys)) :=
  have m := mut_lst e
  q v _ (rd.tk (.mut m)) (rh.mut m ⟨ys, upd_same, r.tk (.mut m)⟩) (.mut m)
end

/-! ### + - * // % -/
/-- * of two factors of together less than a hundred million bits -/
def CMulX (i j : Int) : Prop := i.natAbs.log2 + j.natAbs.log2 < 100000000
theorem CMulX.ok {i j : Int} (h : CMulX i j) : IntMulOk i j := by
  have b : ∀ x : Int, Builtin.Int.intBits x ≤ x.natAbs.log2 + 1 := fun x => by
    unfold Builtin.Int.intBits
    split <;> omega
  have h1 := b i
  have h2 := b j
  have h3 : i.natAbs.log2 + j.natAbs.log2 < 100000000 := h
  have e : bitsLine = 134217728 := by decide
  unfold IntMulOk
  intro z
  rw [Bool.and_eq_true] at z
  have z2 := z.2
  unfold Builtin.Int.intTooBig at z2
  have z3 := of_decide_eq_true z2
  rw [e] at z3
  omega
theorem op_mulX {X : Cx} : OpR X (binaryOp .Mult) (rI CMulX fun i j => .int (i * j)) := opI fun _ _ _ _ _ _ _ hc q => mul_int q hc.ok
theorem log2_le {n k : Nat} (h : n < 2 ^ k) : n.log2 ≤ k := by
  by_cases z : n = 0
  · subst z; simp
  · exact Nat.le_of_lt ((Nat.log2_lt z).mpr h)
theorem mulX {i j : Int} {a b : Nat} (ha : i.natAbs < 2 ^ a) (hb : j.natAbs < 2 ^ b) (h : a + b < 100000000) : CMulX i j := by
  have x := log2_le ha
  have y := log2_le hb
  unfold CMulX
  omega

def addD (x y : D) (h : DH) (Q : DK) : Prop := match x, y with
  | .int i, .int j => Q (.int (i + j)) h
  | .str a, .str b => a.length + b.length ≤ sizeLine ∧ Q (.str (a ++ b)) h
  | .tup a, .tup b => a.length + b.length ≤ sizeLine ∧ Q (.tup (a ++ b)) h
  | .ref a, .ref b => ∃ xs ys, h a = some (.lst xs) ∧ h b = some (.lst ys) ∧ xs.length + ys.length ≤ sizeLine ∧ ∀ p, h p = none → Q (.ref p) (updD h p (.lst (xs ++ ys)))
  | _, _ => False
def subD (x y : D) (h : DH) (Q : DK) : Prop := match x, y with
  | .int i, .int j => Q (.int (i - j)) h
  | _, _ => False
def mulD (x y : D) (h : DH) (Q : DK) : Prop := match x, y with
  | .int i, .int j => CMulX i j ∧ Q (.int (i * j)) h
  | _, _ => False
def fdivD (x y : D) (h : DH) (Q : DK) : Prop := match x, y with
  | .int i, .int j => CDivW i j ∧ Q (.int (i / j)) h
  | _, _ => False
def modD (x y : D) (h : DH) (Q : DK) : Prop := match x, y with
  | .int i, .int j => 0 < j ∧ Q (.int (i % j)) h
  | _, _ => False
section
variable {X : Cx}
theorem DOp.ints {f : Value → Value → Sem Value} {C : Int → Int → Prop} {g : Int → Int → V} {gD : Int → Int → D} {rd : RD2} (o : OpR X f (rI C g)) (hr : ∀ H i j, Rep X.K H (gD i j) (g i j))
    (e : ∀ x y h Q, rd x y h Q → ∃ i j, x = .int i ∧ y = .int j ∧ C i j ∧ Q (gD i j) h) (m : ∀ x y h Q Q', (∀ d h', Q d h' → Q' d h') → rd x y h Q → rd x y h Q') : DOp X f rd := by
  refine .of o (fun H x y dx dy h Q r1 r2 rh q => ?_) m
  obtain ⟨i, j, rfl, rfl, c, q⟩ := e _ _ _ _ q
  cases rep_int r1
  cases rep_int r2
  exact ⟨i, j, rfl, rfl, c, Cl.same q rh (hr H i j)⟩
theorem dop_add : DOp X (binaryOp .Add) addD := by
  refine ⟨fun pins s σ H x y u v dx dy h Q I e1 e2 r1 r2 rh q => ?_, fun x y h Q Q' k q => ?_⟩
  · cases dx <;> cases dy <;> first | exact False.elim q | skip
    · cases rep_int r1; cases rep_int r2
      exact op_add pins s σ H _ _ u v Q I e1 e2 ⟨_, _, rfl, rfl, Cl.same q rh rfl⟩
    · cases rep_str r1; cases rep_str r2
      obtain ⟨l, q⟩ := q
      exact op_add_str pins s σ H _ _ u v Q I e1 e2 ⟨_, _, rfl, rfl, l, Cl.same q rh rfl⟩
    · obtain ⟨a, xs, rfl, s1, p1⟩ := r1
      obtain ⟨b, ys, rfl, s2, p2⟩ := r2
      obtain ⟨l, q⟩ := q
      refine op_catA pins s σ H _ _ u v Q I e1 e2 ⟨a, b, xs, ys, rfl, rfl, s1, s2, by rw [p1.length, p2.length]; exact l, fun e => ?_, fun _ e => ?_, fun _ _ p n => Cl.newT rh (p1.append p2) n q⟩
      · subst e
        have : _ = [] := List.eq_nil_of_length_eq_zero p1.length.symm
        subst this
        exact Cl.same q rh ⟨b, ys, rfl, s2, p2⟩
      · subst e
        have : _ = [] := List.eq_nil_of_length_eq_zero p2.length.symm
        subst this
        rw [List.append_nil] at q
        exact Cl.same q rh ⟨a, xs, rfl, s1, p1⟩
    · cases rep_ref r1; cases rep_ref r2
      obtain ⟨xs, ys, ha, hb, l, q⟩ := q
      obtain ⟨vs, ea, pa⟩ := rh.lst ha
      obtain ⟨ws, eb, pb⟩ := rh.lst hb
      exact op_cat pins s σ H _ _ u v Q I e1 e2 ⟨_, _, vs, ws, rfl, rfl, ea, eb, by rw [pa.length, pb.length]; exact l, fun p n => Cl.newL rh (pa.append pb) n (q p (rh.free n))⟩
  · cases x <;> cases y <;> first | exact False.elim q | skip
    · exact k _ _ q
    · exact ⟨q.1, k _ _ q.2⟩
    · exact ⟨q.1, k _ _ q.2⟩
    · obtain ⟨xs, ys, ha, hb, l, q⟩ := q
      exact ⟨xs, ys, ha, hb, l, fun p n => k _ _ (q p n)⟩
theorem dop_sub : DOp X (binaryOp .Sub) subD := by
  refine .of op_sub (fun H x y dx dy h Q r1 r2 rh q => ?_) (fun x y h Q Q' k q => ?_)
  · cases dx <;> cases dy <;> first | exact False.elim q | skip
    cases rep_int r1; cases rep_int r2
    exact ⟨_, _, rfl, rfl, Cl.same q rh rfl⟩
  · cases x <;> cases y <;> first | exact False.elim q | exact k _ _ q
theorem dop_mul : DOp X (binaryOp .Mult) mulD := by
  refine .of op_mulX (fun H x y dx dy h Q r1 r2 rh q => ?_) (fun x y h Q Q' k q => ?_)
  · cases dx <;> cases dy <;> first | exact False.elim q | skip
    cases rep_int r1; cases rep_int r2
    exact ⟨_, _, rfl, rfl, q.1, Cl.same q.2 rh rfl⟩
  · cases x <;> cases y <;> first | exact False.elim q | exact ⟨q.1, k _ _ q.2⟩
theorem dop_fdiv : DOp X (binaryOp .FloorDiv) fdivD := by
  refine .of op_fdivW (fun H x y dx dy h Q r1 r2 rh q => ?_) (fun x y h Q Q' k q => ?_)
  · cases dx <;> cases dy <;> first | exact False.elim q | skip
    cases rep_int r1; cases rep_int r2
    exact ⟨_, _, rfl, rfl, q.1, Cl.same q.2 rh rfl⟩
  · cases x <;> cases y <;> first | exact False.elim q | exact ⟨q.1, k _ _ q.2⟩
theorem dop_mod : DOp X (binaryOp .Mod) modD := by
  refine .of op_mod (fun H x y dx dy h Q r1 r2 rh q => ?_) (fun x y h Q Q' k q => ?_)
  · cases dx <;> cases dy <;> first | exact False.elim q | skip
    cases rep_int r1; cases rep_int r2
    exact ⟨_, _, rfl, rfl, q.1, Cl.same q.2 rh rfl⟩
  · cases x <;> cases y <;> first | exact False.elim q | exact ⟨q.1, k _ _ q.2⟩
end

/-! ### data, == -/
mutual
def py : D → PyData
  | .non => .none
  | .bl b => .bool b
  | .int i => .int i
  | .str x => .str x
  | .tup ds => .tuple (pys ds)
  | .lsv ds => .list (pys ds)
  | .ref _ => .dict []
  | .ty _ => .dict []
def pys : List D → List PyData
  | [] => []
  | d :: ds => py d :: pys ds
end
mutual
/-- data: no objects in it, the texts proper -/
def okD : D → Bool
  | .non => true
  | .bl _ => true
  | .int _ => true
  | .str x => PyData.strOk x
  | .tup ds => okDs ds
  | .lsv ds => okDs ds
  | .ref _ => false
  | .ty _ => false
def okDs : List D → Bool
  | [] => true
  | d :: ds => okD d && okDs ds
end
mutual
def dep : D → Nat
  | .tup ds => deps ds + 1
  | .lsv ds => deps ds + 1
  | .non => 0
  | .bl _ => 0
  | .int _ => 0
  | .str _ => 0
  | .ref _ => 0
  | .ty _ => 0
def deps : List D → Nat
  | [] => 0
  | d :: ds => max (dep d) (deps ds)
end
mutual
/-- == of data -/
def deq : D → D → Bool
  | .non, y => match y with
    | .non => true
    | _ => false
  | .bl a, y => match y with
    | .bl b => a == b
    | .int j => (if a then 1 else 0) == j
    | _ => false
  | .int i, y => match y with
    | .bl b => i == (if b then 1 else 0)
    | .int j => i == j
    | _ => false
  | .str x, y => match y with
    | .str z => x == z
    | _ => false
  | .tup xs, y => match y with
    | .tup ys => deqs xs ys
    | _ => false
  | .lsv xs, y => match y with
    | .lsv ys => deqs xs ys
    | _ => false
  | .ref _, _ => false
  | .ty _, _ => false
def deqs : List D → List D → Bool
  | [], ys => match ys with
    | [] => true
    | _ => false
  | x :: xs, ys => match ys with
    | y :: zs => deq x y && deqs xs zs
    | [] => false
end
mutual
theorem py_lay : ∀ d : D, okD d = true → (py d).canLay0 = true
  | .non, _ => by simp [py, PyData.canLay0]
  | .bl _, _ => by simp [py, PyData.canLay0]
  | .int _, _ => by simp [py, PyData.canLay0]
  | .str x, h => by simpa [py, PyData.canLay0, okD] using h
  | .tup ds, h => by
    have := pys_lay ds (by simpa [okD] using h)
    simpa [py, PyData.canLay0] using this
  | .lsv ds, h => by
    have := pys_lay ds (by simpa [okD] using h)
    simpa [py, PyData.canLay0] using this
  | .ref _, h => by simp [okD] at h
  | .ty _, h => by simp [okD] at h
theorem pys_lay : ∀ ds : List D, okDs ds = true → PyData.canLayAll0 (pys ds) = true
  | [], _ => by simp [pys, PyData.canLayAll0]
  | d :: ds, h => by
    simp only [okDs, Bool.and_eq_true] at h
    simp [pys, PyData.canLayAll0, py_lay d h.1, pys_lay ds h.2]
end
mutual
theorem py_dep : ∀ d : D, okD d = true → (py d).depth = dep d
  | .non, _ => by simp [py, PyData.depth, dep]
  | .bl _, _ => by simp [py, PyData.depth, dep]
  | .int _, _ => by simp [py, PyData.depth, dep]
  | .str x, h => by simp [py, PyData.depth, dep]
  | .tup ds, h => by simp [py, PyData.depth, dep, pys_dep ds (by simpa [okD] using h)]
  | .lsv ds, h => by simp [py, PyData.depth, dep, pys_dep ds (by simpa [okD] using h)]
  | .ref _, h => by simp [okD] at h
  | .ty _, h => by simp [okD] at h
theorem pys_dep : ∀ ds : List D, okDs ds = true → PyData.depthAll (pys ds) = deps ds
  | [], _ => by simp [pys, PyData.depthAll, deps]
  | d :: ds, h => by
    simp only [okDs, Bool.and_eq_true] at h
    simp [pys, PyData.depthAll, deps, py_dep d h.1, pys_dep ds h.2]
end
mutual
theorem py_eqv : ∀ d e : D, okD d = true → okD e = true → PyData.eqv (py d) (py e) = deq d e
  | .non, e, _, h => by cases e <;> simp_all [py, PyData.eqv, deq, okD]
  | .bl _, e, _, h => by cases e <;> simp_all [py, PyData.eqv, deq, okD]
  | .int _, e, _, h => by cases e <;> simp_all [py, PyData.eqv, deq, okD]
  | .str x, e, _, h => by cases e <;> simp_all [py, PyData.eqv, deq, okD]
  | .tup ds, e, g, h => by
    cases e with
    | tup es => simp only [py, PyData.eqv, deq]; exact pys_eqv ds es (by simpa [okD] using g) (by simpa [okD] using h)
    | _ => simp_all [py, PyData.eqv, deq, okD]
  | .lsv ds, e, g, h => by
    cases e with
    | lsv es => simp only [py, PyData.eqv, deq]; exact pys_eqv ds es (by simpa [okD] using g) (by simpa [okD] using h)
    | _ => simp_all [py, PyData.eqv, deq, okD]
  | .ref _, _, h, _ => by simp [okD] at h
  | .ty _, _, h, _ => by simp [okD] at h
theorem pys_eqv : ∀ ds es : List D, okDs ds = true → okDs es = true → PyData.eqvAll (pys ds) (pys es) = deqs ds es
  | [], [], _, _ => by simp [pys, PyData.eqvAll, deqs]
  | [], _ :: _, _, _ => by simp [pys, PyData.eqvAll, deqs]
  | _ :: _, [], _, _ => by simp [pys, PyData.eqvAll, deqs]
  | d :: ds, e :: es, g, h => by
    simp only [okDs, Bool.and_eq_true] at g h
    simp [pys, PyData.eqvAll, deqs, py_eqv d e g.1 h.1, pys_eqv ds es g.2 h.2]
end
mutual
theorem Rep.dp {K : PySem.W.Frag} {H : Hp} : ∀ {d : D} {v : V}, okD d = true → Rep K H d v → Dp K H v (py d)
  | .non, _, _, r => by cases (show _ = _ from r); exact .non
  | .bl _, _, _, r => by cases (show _ = _ from r); exact .bl _
  | .int _, _, _, r => by cases (show _ = _ from r); exact .int _
  | .str x, _, _, r => by cases (show _ = _ from r); exact .str _
  | .tup ds, _, h, r => by
    obtain ⟨a, xs, rfl, s, rs⟩ := r
    rw [py]
    exact .tup s (Reps.dp (by simpa [okD] using h) rs)
  | .lsv ds, _, h, r => by
    obtain ⟨a, xs, rfl, s, rs⟩ := r
    rw [py]
    exact .lst s.sq (Reps.dp (by simpa [okD] using h) rs)
  | .ref _, _, h, _ => by simp [okD] at h
  | .ty _, _, h, _ => by simp [okD] at h
theorem Reps.dp {K : PySem.W.Frag} {H : Hp} : ∀ {ds : List D} {vs : List V}, okDs ds = true → Reps K H ds vs → DpAll K H vs (pys ds)
  | [], _, _, r => by cases (show _ = _ from r); rw [pys]; exact .nil
  | d :: ds, _, h, r => by
    simp only [okDs, Bool.and_eq_true] at h
    obtain ⟨x, xs, rfl, r, rs⟩ := r
    rw [pys]
    exact .cons (Rep.dp h.1 r) (Reps.dp h.2 rs)
end
/-- the data that a value is: itself, or the list it names -/
def datD (h : DH) : D → Option D
  | .ref a => match h a with
    | some (.lst ds) => some (.lsv ds)
    | _ => none
  | d => some d
theorem datD_dp {K : PySem.W.Frag} {H : Hp} {h : DH} (rh : RepH K H h) {d e : D} {v : V} (k : datD h d = some e) (ok : okD e = true) (r : Rep K H d v) : Dp K H v (py e) := by
  cases d with
  | ref a =>
    cases q : h a with
    | none => rw [datD, q] at k; cases k
    | some o =>
      cases o with
      | lst ds =>
        rw [datD, q] at k
        cases k
        obtain ⟨xs, ea, rs⟩ := rh.lst q
        cases rep_ref r
        rw [py]
        exact .lst (.of ea) (Reps.dp (by simpa [okD] using ok) rs)
      | _ => rw [datD, q] at k; cases k
  | _ => cases k; exact Rep.dp ok r
/-- what == may look at -/
def EqOk (x y : D) : Prop := okD x = true ∧ okD y = true ∧ min (dep x) (dep y) ≤ 64
def eqD (x y : D) (h : DH) (Q : DK) : Prop := ∃ d e, datD h x = some d ∧ datD h y = some e ∧ EqOk d e ∧ Q (.bl (deq d e)) h
def neD' (x y : D) (h : DH) (Q : DK) : Prop := ∃ d e, datD h x = some d ∧ datD h y = some e ∧ EqOk d e ∧ Q (.bl (!deq d e)) h
section
variable {X : Cx}
theorem dop_eq (hu : X.A.units + 64 < cLine) : DOp X (compareOp .Eq) eqD := by
  refine ⟨fun pins s σ H x y u v dx dy h Q I e1 e2 r1 r2 rh q => ?_, fun x y h Q Q' k ⟨d, e, a, b, c, q⟩ => ⟨d, e, a, b, c, k _ _ q⟩⟩
  obtain ⟨d, e, a, b, ⟨c1, c2, c3⟩, q⟩ := q
  obtain ⟨as, p1⟩ := Dp.reads I _ x u (datD_dp rh a c1 r1) e1
  obtain ⟨bs, p2⟩ := Dp.reads I _ y v (datD_dp rh b c2 r2) e2
  refine SeqAt.compareEq_reads p1 p2 (py_lay _ c1) (py_lay _ c2) ?_ ⟨.bl _, H, I, rfl, ?_⟩
  · rw [py_dep _ c1, py_dep _ c2]; omega
  · rw [py_eqv _ _ c1 c2]; exact Cl.same q rh rfl
theorem dop_ne (hu : X.A.units + 64 < cLine) : DOp X (compareOp .NotEq) neD' := by
  refine ⟨fun pins s σ H x y u v dx dy h Q I e1 e2 r1 r2 rh q => ?_, fun x y h Q Q' k ⟨d, e, a, b, c, q⟩ => ⟨d, e, a, b, c, k _ _ q⟩⟩
  obtain ⟨d, e, a, b, ⟨c1, c2, c3⟩, q⟩ := q
  obtain ⟨as, p1⟩ := Dp.reads I _ x u (datD_dp rh a c1 r1) e1
  obtain ⟨bs, p2⟩ := Dp.reads I _ y v (datD_dp rh b c2 r2) e2
  refine SeqAt.compareNe_reads p1 p2 (py_lay _ c1) (py_lay _ c2) ?_ ⟨.bl _, H, I, rfl, ?_⟩
  · rw [py_dep _ c1, py_dep _ c2]; omega
  · rw [py_eqv _ _ c1 c2]; exact Cl.same q rh rfl
end
/-- x in l, l a list or a tuple of data -/
def inL (x y : D) (h : DH) (Q : Bool → Prop) : Prop := ∃ ds, (y = .tup ds ∨ datD h y = some (.lsv ds)) ∧ okD x = true ∧ okDs ds = true ∧ dep x ≤ 64 ∧ Q (ds.any fun z => deq z x)
theorem any_pys {x : D} (hx : okD x = true) : ∀ {ds : List D}, okDs ds = true → ((pys ds).any fun z => PyData.eqv z (py x)) = ds.any fun z => deq z x
  | [], _ => by simp [pys]
  | d :: ds, h => by
    simp only [okDs, Bool.and_eq_true] at h
    rw [pys, List.any_cons, List.any_cons, py_eqv d x h.1 hx, any_pys hx h.2]
def inD (x y : D) (h : DH) (Q : DK) : Prop := match y with
  | .str z => ∃ c, x = .str ⟨#[c]⟩ ∧ Q (.bl (decide (c ∈ z.cps.toList))) h
  | y => inL x y h fun b => Q (.bl b) h
def notInD (x y : D) (h : DH) (Q : DK) : Prop := match y with
  | .str z => ∃ c, x = .str ⟨#[c]⟩ ∧ Q (.bl (!decide (c ∈ z.cps.toList))) h
  | y => inL x y h fun b => Q (.bl (!b)) h
end DL

/-! DOps2: in, <, is None, truth, subscripts, slices, built-ins. -/
namespace DL
open PySem PySem.Spec PyProof.Rows L2

section
variable {X : Cx}
theorem dd_dp {H : Hp} {h : DH} (rh : RepH X.K H h) {y : D} {ds : List D} {v : V} (k : y = .tup ds ∨ datD h y = some (.lsv ds)) (ok : okDs ds = true) (r : Rep X.K H y v) : Dp X.K H v (.tuple (pys ds)) ∨ Dp X.K H v (.list (pys ds)) := by
  rcases k with k | k
  · subst k
    have := Rep.dp (show okD (.tup ds) = true by simpa [okD] using ok) r
    rw [py] at this
    exact .inl this
  · have := datD_dp rh k (show okD (.lsv ds) = true by simpa [okD] using ok) r
    rw [py] at this
    exact .inr this
theorem inL_run (hu : X.A.units + 65 < cLine) {pins : List (Addr × Obj)} {s : Shared} {σ : L2.St} {H : Hp} {x y : V} {u v : Value} {dx dy : D} {h : DH} {Q : VK} {neg : Bool} (I : Inv X pins σ H s) (e1 : RelV x u) (e2 : RelV y v) (r1 : Rep X.K H dx x) (r2 : Rep X.K H dy y)
    (rh : RepH X.K H h) (q : inL dx dy h fun b => Cl X.K H Q (.bl (if neg then !b else b)) h) : wpAny (model X.prog X.w) X.A (compareOp (if neg then .NotIn else .In) u v) (EP X pins σ Q) X.xe s := by
  obtain ⟨ds, k, c1, c2, c3, q⟩ := q
  obtain ⟨as, p1⟩ := Dp.reads I _ x u (Rep.dp c1 r1) e1
  have hd : (py dx).depth ≤ 64 := by rw [py_dep _ c1]; exact c3
  rcases dd_dp rh k c2 r2 with r | r
  · obtain ⟨bs, p2⟩ := Dp.reads I _ y v r e2
    cases neg with
    | false => exact SeqAt.in_tuple_reads p2 p1 (pys_lay _ c2) (py_lay _ c1) (by omega) ⟨.bl _, H, I, rfl, by rw [any_pys c1 c2]; exact Cl.same q rh rfl⟩
    | true => exact SeqAt.notIn_tuple_reads p2 p1 (pys_lay _ c2) (py_lay _ c1) (by omega) ⟨.bl _, H, I, rfl, by rw [any_pys c1 c2]; exact Cl.same q rh rfl⟩
  · obtain ⟨bs, p2⟩ := Dp.reads I _ y v r e2
    cases neg with
    | false => exact SeqAt.in_list_reads p2 p1 (pys_lay _ c2) (py_lay _ c1) (by omega) ⟨.bl _, H, I, rfl, by rw [any_pys c1 c2]; exact Cl.same q rh rfl⟩
    | true => exact SeqAt.notIn_list_reads p2 p1 (pys_lay _ c2) (py_lay _ c1) (by omega) ⟨.bl _, H, I, rfl, by rw [any_pys c1 c2]; exact Cl.same q rh rfl⟩
theorem inD_of {x y : D} {h : DH} {Q : DK} (n : ∀ z, y ≠ .str z) (q : inD x y h Q) : inL x y h fun b => Q (.bl b) h := by
  cases y <;> first | exact q | exact absurd rfl (n _)
theorem notInD_of {x y : D} {h : DH} {Q : DK} (n : ∀ z, y ≠ .str z) (q : notInD x y h Q) : inL x y h fun b => Q (.bl (!b)) h := by
  cases y <;> first | exact q | exact absurd rfl (n _)
theorem inL_mono {x y : D} {h : DH} {Q Q' : Bool → Prop} (k : ∀ b, Q b → Q' b) (q : inL x y h Q) : inL x y h Q' := let ⟨ds, a, b, c, d, q⟩ := q; ⟨ds, a, b, c, d, k _ q⟩
theorem dop_in (hu : X.A.units + 65 < cLine) : DOp X (compareOp .In) inD := by
  refine ⟨fun pins s σ H x y u v dx dy h Q I e1 e2 r1 r2 rh q => ?_, fun x y h Q Q' k q => ?_⟩
  · by_cases n : ∃ z, dy = .str z
    · obtain ⟨z, rfl⟩ := n
      obtain ⟨c, rfl, q⟩ := q
      cases rep_str r1
      cases rep_str r2
      exact op_in_sign pins s σ H _ _ u v Q I e1 e2 ⟨c, z, rfl, rfl, Cl.same q rh rfl⟩
    · exact inL_run (neg := false) hu I e1 e2 r1 r2 rh (inD_of (fun z e => n ⟨z, e⟩) q)
  · by_cases n : ∃ z, y = .str z
    · obtain ⟨z, rfl⟩ := n
      obtain ⟨c, rfl, q⟩ := q
      exact ⟨c, rfl, k _ _ q⟩
    · have q2 := inL_mono (fun b q => k _ _ q) (inD_of (fun z e => n ⟨z, e⟩) q)
      cases y <;> first | exact q2 | exact absurd ⟨_, rfl⟩ n
theorem dop_notIn (hu : X.A.units + 65 < cLine) : DOp X (compareOp .NotIn) notInD := by
  refine ⟨fun pins s σ H x y u v dx dy h Q I e1 e2 r1 r2 rh q => ?_, fun x y h Q Q' k q => ?_⟩
  · by_cases n : ∃ z, dy = .str z
    · obtain ⟨z, rfl⟩ := n
      obtain ⟨c, rfl, q⟩ := q
      cases rep_str r1
      cases rep_str r2
      exact op_notIn_sign pins s σ H _ _ u v Q I e1 e2 ⟨c, z, rfl, rfl, Cl.same q rh rfl⟩
    · exact inL_run (neg := true) hu I e1 e2 r1 r2 rh (notInD_of (fun z e => n ⟨z, e⟩) q)
  · by_cases n : ∃ z, y = .str z
    · obtain ⟨z, rfl⟩ := n
      obtain ⟨c, rfl, q⟩ := q
      exact ⟨c, rfl, k _ _ q⟩
    · have q2 := inL_mono (fun b q => k _ _ q) (notInD_of (fun z e => n ⟨z, e⟩) q)
      cases y <;> first | exact q2 | exact absurd ⟨_, rfl⟩ n
end
/-! ### < <= > >= -/
def ltD (x y : D) (h : DH) (Q : DK) : Prop := match x, y with
  | .int i, .int j => Q (.bl (decide (i < j))) h
  | .str a, .str b => Q (.bl (decide (a.cps.toList < b.cps.toList))) h
  | _, _ => False
def leD (x y : D) (h : DH) (Q : DK) : Prop := match x, y with
  | .int i, .int j => Q (.bl (decide (i ≤ j))) h
  | _, _ => False
def gtD (x y : D) (h : DH) (Q : DK) : Prop := match x, y with
  | .int i, .int j => Q (.bl (decide (j < i))) h
  | _, _ => False
def geD (x y : D) (h : DH) (Q : DK) : Prop := match x, y with
  | .int i, .int j => Q (.bl (decide (j ≤ i))) h
  | _, _ => False
def isNon : D → Bool
  | .non => true
  | _ => false
def isD (x y : D) (h : DH) (Q : DK) : Prop := match y with
  | .non => Q (.bl (isNon x)) h
  | _ => False
def isNotD (x y : D) (h : DH) (Q : DK) : Prop := match y with
  | .non => Q (.bl (!isNon x)) h
  | _ => False
section
variable {X : Cx}
theorem dop_lt : DOp X (compareOp .Lt) ltD := by
  refine ⟨fun pins s σ H x y u v dx dy h Q I e1 e2 r1 r2 rh q => ?_, fun x y h Q Q' k q => ?_⟩
  · cases dx <;> cases dy <;> first | exact False.elim q | skip
    · cases rep_int r1; cases rep_int r2
      exact op_lt pins s σ H _ _ u v Q I e1 e2 ⟨_, _, rfl, rfl, Cl.same q rh rfl⟩
    · cases rep_str r1; cases rep_str r2
      exact op_lt_str pins s σ H _ _ u v Q I e1 e2 ⟨_, _, rfl, rfl, Cl.same q rh rfl⟩
  · cases x <;> cases y <;> first | exact False.elim q | exact k _ _ q
theorem dop_le : DOp X (compareOp .LtE) leD := by
  refine .of op_le (fun H x y dx dy h Q r1 r2 rh q => ?_) (fun x y h Q Q' k q => ?_)
  · cases dx <;> cases dy <;> first | exact False.elim q | skip
    cases rep_int r1; cases rep_int r2
    exact ⟨_, _, rfl, rfl, Cl.same q rh rfl⟩
  · cases x <;> cases y <;> first | exact False.elim q | exact k _ _ q
theorem dop_gt : DOp X (compareOp .Gt) gtD := by
  refine .of op_gt (fun H x y dx dy h Q r1 r2 rh q => ?_) (fun x y h Q Q' k q => ?_)
  · cases dx <;> cases dy <;> first | exact False.elim q | skip
    cases rep_int r1; cases rep_int r2
    exact ⟨_, _, rfl, rfl, Cl.same q rh rfl⟩
  · cases x <;> cases y <;> first | exact False.elim q | exact k _ _ q
theorem dop_ge : DOp X (compareOp .GtE) geD := by
  refine .of op_ge (fun H x y dx dy h Q r1 r2 rh q => ?_) (fun x y h Q Q' k q => ?_)
  · cases dx <;> cases dy <;> first | exact False.elim q | skip
    cases rep_int r1; cases rep_int r2
    exact ⟨_, _, rfl, rfl, Cl.same q rh rfl⟩
  · cases x <;> cases y <;> first | exact False.elim q | exact k _ _ q
theorem rep_non {K : PySem.W.Frag} {H : Hp} {d : D} {v : V} (r : Rep K H d v) : decide (v = .non) = isNon d := by
  cases d with
  | non => cases (show _ = _ from r); rfl
  | tup ds => obtain ⟨a, xs, rfl, _⟩ := r; rfl
  | lsv ds => obtain ⟨a, xs, rfl, _⟩ := r; rfl
  | _ => cases (show _ = _ from r); rfl
theorem dop_is : DOp X (compareOp .Is) isD := by
  refine .of op_isN (fun H x y dx dy h Q r1 r2 rh q => ?_) (fun x y h Q Q' k q => ?_)
  · cases dy <;> first | exact False.elim q | skip
    refine ⟨show _ = _ from r2, ?_⟩
    rw [rep_non r1]
    exact Cl.same q rh rfl
  · cases y <;> first | exact False.elim q | exact k _ _ q
theorem dop_isNot : DOp X (compareOp .IsNot) isNotD := by
  refine .of op_notN (fun H x y dx dy h Q r1 r2 rh q => ?_) (fun x y h Q Q' k q => ?_)
  · cases dy <;> first | exact False.elim q | skip
    refine ⟨show _ = _ from r2, ?_⟩
    rw [rep_non r1]
    exact Cl.same q rh rfl
  · cases y <;> first | exact False.elim q | exact k _ _ q
end

/-! ### truth, not, and, or -/
def truR (o : Option DO) (Q : Bool → Prop) : Prop := match o with
  | some (.lst ds) => Q (!ds.isEmpty)
  | some (.dK kvs) => Q (!kvs.isEmpty)
  | _ => False
theorem truR_mono {o : Option DO} {Q Q' : Bool → Prop} (k : ∀ b, Q b → Q' b) (q : truR o Q) : truR o Q' := by
  cases o with
  | none => exact q.elim
  | some o =>
    cases o with
    | lst ds => exact k _ q
    | dK ds => exact k _ q
    | _ => exact q.elim
def truD (x : D) (h : DH) (Q : Bool → Prop) : Prop := match x with
  | .non => Q false
  | .bl b => Q b
  | .int i => Q (i != 0)
  | .str y => y.length ≤ sizeLine ∧ Q ((y.length : Int) != 0)
  | .tup ds => Q (!ds.isEmpty)
  | .lsv ds => Q (!ds.isEmpty)
  | .ref a => truR (h a) Q
  | .ty _ => False
theorem truD_mono {x : D} {h : DH} {Q Q' : Bool → Prop} (k : ∀ b, Q b → Q' b) (q : truD x h Q) : truD x h Q' := by
  cases x with
  | str y => exact ⟨q.1, k _ q.2⟩
  | ref a => exact truR_mono k q
  | ty n => exact q.elim
  | _ => exact k _ q
theorem paired_isEmpty {α β : Type} {F : α → β → Prop} {l : List α} {m : List β} (r : Paired F l m) : m.isEmpty = l.isEmpty := by
  cases r <;> rfl
theorem truD_V {K : PySem.W.Frag} {H : Hp} {x : D} {v : V} {h : DH} {Q : Bool → Prop} (r : Rep K H x v) (rh : RepH K H h) (q : truD x h Q) : ∃ k, TruV K v H k ∧ Q k := by
  cases x with
  | non => cases (show _ = _ from r); exact ⟨_, rfl, q⟩
  | bl b => cases (show _ = _ from r); exact ⟨_, rfl, q⟩
  | int i => cases (show _ = _ from r); exact ⟨_, rfl, q⟩
  | str y => cases (show _ = _ from r); exact ⟨_, ⟨q.1, rfl⟩, q.2⟩
  | tup ds =>
    obtain ⟨a, xs, rfl, s, rs⟩ := r
    exact ⟨_, .inr (.inl ⟨xs, s, rfl⟩), by rw [rs.isEmpty]; exact q⟩
  | lsv ds =>
    obtain ⟨a, xs, rfl, s, rs⟩ := r
    exact ⟨_, .inl ⟨xs, s.sq, rfl⟩, by rw [rs.isEmpty]; exact q⟩
  | ref a =>
    cases (show _ = _ from r)
    have q : truR (h a) Q := q
    cases e : h a with
    | none => rw [e] at q; exact q.elim
    | some o =>
      rw [e] at q
      cases o with
      | lst ds =>
        obtain ⟨xs, ea, rs⟩ := rh.lst e
        exact ⟨_, .inl ⟨xs, .of ea, rfl⟩, by rw [rs.isEmpty]; exact q⟩
      | dK ds =>
        obtain ⟨xs, ea, rs⟩ := rh a _ e
        exact ⟨_, .inr (.inr ⟨xs, ea, rfl⟩), by rw [paired_isEmpty rs]; exact q⟩
      | _ => exact q.elim
  | ty n => exact q.elim
/-- a bool as a test -/
def dB (t : DTE) : DTT := fun τ h Q => t τ h fun x h1 => ∃ b, x = .bl b ∧ Q b h1
def dTru (t : DTE) : DTT := fun τ h Q => t τ h fun x h1 => truD x h1 fun b => Q b h1
def dNot (t : DTT) : DTT := fun τ h Q => t τ h fun b h1 => Q (!b) h1
def dAnd (t u : DTT) : DTT := fun τ h Q => t τ h fun b h1 => if b = true then u τ h1 Q else Q false h1
def dOr (t u : DTT) : DTT := fun τ h Q => t τ h fun b h1 => if b = true then Q true h1 else u τ h1 Q
def dNotV (t : DTE) : DTE := fun τ h Q => t τ h fun x h1 => truD x h1 fun b => Q (.bl (!b)) h1
def dAndV (ta tb : DTE) : DTE := fun τ h Q => ta τ h fun x h1 => truD x h1 fun b => if b = true then tb τ h1 Q else Q x h1
def dOrV (ta tb : DTE) : DTE := fun τ h Q => ta τ h fun x h1 => truD x h1 fun b => if b = true then Q x h1 else tb τ h1 Q
def dIf (t : DTT) (ta tb : DTE) : DTE := fun τ h Q => t τ h fun b h1 => if b = true then ta τ h1 Q else tb τ h1 Q
section
variable {X : Cx} {e a b c : Expr} {ta tb : DTE} {t u : DTT} {pos : Pos} {rest : List Expr}
theorem ite_mono {b : Bool} {A B A' B' : Prop} (h1 : A → A') (h2 : B → B') (h : if b = true then A else B) : if b = true then A' else B' := by
  cases b
  · exact h2 h
  · exact h1 h
theorem dt_tru (he : DE X e ta) (hp : ∀ whole, isTrue e X.env whole = (do let v ← whole; standAt e.pos; holding [v] (truthy v)) := by intro _; rfl) : DT X e (dTru ta) := by
  refine ⟨(pt_truth he.run hp).wk fun σ H Q q => ?_, fun τ h Q Q' k q => he.mono _ _ _ _ (fun x h1 q1 => truD_mono (fun b q => k _ _ q) q1) q⟩
  obtain ⟨τ, h, rs, rh, q⟩ := q
  refine LE.of he.mono rs rh q fun d h1 v H1 q1 r1 rh1 k1 => ?_
  obtain ⟨k, e, q⟩ := truD_V r1 rh1 q1
  exact ⟨k, e, q H1 rh1 k1⟩
theorem dB_mono {t : DTE} (m : Mono t) : Mono (dB t) := fun τ h Q Q' k q => m _ _ _ _ (fun x h1 ⟨b, e, q⟩ => ⟨b, e, k _ _ q⟩) q
theorem rep_B {K : PySem.W.Frag} {H : Hp} {d : D} {v : V} (r : Rep K H d v) {b : Bool} (e : d = .bl b) : v = .bl b := by subst e; exact r
theorem dt_cmp {op : CmpOp} {rd : RD2} (ho : DOp X (compareOp op) rd) (ha : DE X a ta) (hb : DE X b tb) (hm : behindInMarks op b = false := by first | exact nomark _ | with_unfolding_all rfl) : DT X (.Compare a [op] [b] pos) (dB (dOp rd ta tb)) := by
  have m := dOp_mono ho.mono ha.mono hb.mono
  refine ⟨(pt_cmpR ho.opr ha.run hb.run hm).wk fun σ H Q q => ?_, dB_mono m⟩
  have q2 : LE X.K (dOp rd ta tb) σ H (fun x H' => ∃ k, x = .bl k ∧ Q k H') := by
    obtain ⟨τ, h, rs, rh, q⟩ := q
    exact LE.of m rs rh q fun d h1 v H1 ⟨b, e, q⟩ r1 rh1 k1 => ⟨b, rep_B r1 e, q H1 rh1 k1⟩
  exact dOp_lift ho.mono ha.mono hb.mono q2
theorem dt_not (ha : DT X a t) : DT X (.UnaryOp .Not a pos) (dNot t) := by
  refine ⟨(pt_not ha.run).wk fun σ H Q q => ?_, fun τ h Q Q' k q => ha.mono _ _ _ _ (fun b h1 q => k _ _ q) q⟩
  obtain ⟨τ, h, rs, rh, q⟩ := q
  exact LT.of ha.mono rs rh q fun d h1 H1 q1 rh1 k1 => q1 H1 rh1 k1
theorem DW.dt (h : DW X e t) : DT X e t := ⟨h.run.pt, h.mono⟩
theorem dw_and1 (ha : DT X a t) : DW X (.BoolOp .And [a] pos) t := ⟨pw_and1 ha.run, ha.mono⟩
theorem dw_or1 (ha : DT X a t) : DW X (.BoolOp .Or [a] pos) t := ⟨pw_or1 ha.run, ha.mono⟩
theorem dw_and (ha : DT X a t) (hb : DW X (.BoolOp .And (b :: rest) pos) u) : DW X (.BoolOp .And (a :: b :: rest) pos) (dAnd t u) := by
  refine ⟨(pw_and ha.run hb.run).wk fun σ H Q q => ?_, fun τ h Q Q' k q => ha.mono _ _ _ _ (fun b h1 q => ite_mono (hb.mono _ _ _ _ k) (k _ _) q) q⟩
  obtain ⟨τ, h, rs, rh, q⟩ := q
  refine LT.of ha.mono rs rh q fun d h1 H1 q1 rh1 k1 => ?_
  cases d with
  | true => exact LT.of hb.mono (rs.tk k1) rh1 q1 fun d h2 H2 q2 rh2 k2 => q2 H2 rh2 (k1.trans k2)
  | false => exact q1 H1 rh1 k1
theorem dw_or (ha : DT X a t) (hb : DW X (.BoolOp .Or (b :: rest) pos) u) : DW X (.BoolOp .Or (a :: b :: rest) pos) (dOr t u) := by
  refine ⟨(pw_or ha.run hb.run).wk fun σ H Q q => ?_, fun τ h Q Q' k q => ha.mono _ _ _ _ (fun b h1 q => ite_mono (k _ _) (hb.mono _ _ _ _ k) q) q⟩
  obtain ⟨τ, h, rs, rh, q⟩ := q
  refine LT.of ha.mono rs rh q fun d h1 H1 q1 rh1 k1 => ?_
  cases d with
  | false => exact LT.of hb.mono (rs.tk k1) rh1 q1 fun d h2 H2 q2 rh2 k2 => q2 H2 rh2 (k1.trans k2)
  | true => exact q1 H1 rh1 k1
/-- .. as values -/
theorem de_one {op} (h : DE X a ta) : DE X (.BoolOp op [a] pos) ta := ⟨pe_one h.run, h.mono⟩
theorem de_and (ha : DE X a ta) (hb : DE X (.BoolOp .And (b :: rest) pos) tb) : DE X (.BoolOp .And (a :: b :: rest) pos) (dAndV ta tb) := by
  refine ⟨(pe_andT ha.run hb.run).wk fun σ H Q q => ?_, fun τ h Q Q' k q => ha.mono _ _ _ _ (fun x h1 q => truD_mono (fun b q => ite_mono (hb.mono _ _ _ _ k) (k _ _) q) q) q⟩
  obtain ⟨τ, h, rs, rh, q⟩ := q
  refine LE.of ha.mono rs rh q fun d h1 v H1 q1 r1 rh1 k1 => ?_
  obtain ⟨b, e, q2⟩ := truD_V r1 rh1 q1
  refine ⟨b, e, ite_mono (fun q => ?_) (fun q => q v H1 r1 rh1 k1) q2⟩
  exact LE.of hb.mono (rs.tk k1) rh1 q fun d h2 v H2 q2 r2 rh2 k2 => q2 v H2 r2 rh2 (k1.trans k2)
theorem de_or (ha : DE X a ta) (hb : DE X (.BoolOp .Or (b :: rest) pos) tb) : DE X (.BoolOp .Or (a :: b :: rest) pos) (dOrV ta tb) := by
  refine ⟨(pe_orT ha.run hb.run).wk fun σ H Q q => ?_, fun τ h Q Q' k q => ha.mono _ _ _ _ (fun x h1 q => truD_mono (fun b q => ite_mono (k _ _) (hb.mono _ _ _ _ k) q) q) q⟩
  obtain ⟨τ, h, rs, rh, q⟩ := q
  refine LE.of ha.mono rs rh q fun d h1 v H1 q1 r1 rh1 k1 => ?_
  obtain ⟨b, e, q2⟩ := truD_V r1 rh1 q1
  refine ⟨b, e, ite_mono (fun q => q v H1 r1 rh1 k1) (fun q => ?_) q2⟩
  exact LE.of hb.mono (rs.tk k1) rh1 q fun d h2 v H2 q2 r2 rh2 k2 => q2 v H2 r2 rh2 (k1.trans k2)
theorem de_not (ha : DE X a ta) : DE X (.UnaryOp .Not a pos) (dNotV ta) := by
  refine ⟨(pe_notT ha.run).wk fun σ H Q q => ?_, fun τ h Q Q' k q => ha.mono _ _ _ _ (fun x h1 q => truD_mono (fun b q => k _ _ q) q) q⟩
  obtain ⟨τ, h, rs, rh, q⟩ := q
  refine LE.of ha.mono rs rh q fun d h1 v H1 q1 r1 rh1 k1 => ?_
  obtain ⟨b, e, q2⟩ := truD_V r1 rh1 q1
  exact ⟨b, e, q2 (.bl (!b)) H1 rfl rh1 k1⟩
theorem de_ifExp (hc : DT X c t) (ha : DE X a ta) (hb : DE X b tb) : DE X (.IfExp c a b pos) (dIf t ta tb) := by
  refine ⟨(pe_ifExp hc.run ha.run hb.run).wk fun σ H Q q => ?_, fun τ h Q Q' k q => hc.mono _ _ _ _ (fun b h1 q => ite_mono (ha.mono _ _ _ _ k) (hb.mono _ _ _ _ k) q) q⟩
  obtain ⟨τ, h, rs, rh, q⟩ := q
  refine LT.of hc.mono rs rh q fun d h1 H1 q1 rh1 k1 => ?_
  exact ite_mono (fun q => LE.of ha.mono (rs.tk k1) rh1 q fun d h2 v H2 q2 r2 rh2 k2 => q2 v H2 r2 rh2 (k1.trans k2)) (fun q => LE.of hb.mono (rs.tk k1) rh1 q fun d h2 v H2 q2 r2 rh2 k2 => q2 v H2 r2 rh2 (k1.trans k2)) q1
/-- -a -/
def dNeg (ta : DTE) : DTE := fun τ h Q => ta τ h fun x h1 => ∃ i, x = .int i ∧ Q (.int (-i)) h1
theorem de_neg (ha : DE X a ta) : DE X (.UnaryOp .USub a pos) (dNeg ta) := by
  refine ⟨(pe_un un_neg ha.run).wk fun σ H Q q => ?_, fun τ h Q Q' k q => ha.mono _ _ _ _ (fun x h1 ⟨i, e, q⟩ => ⟨i, e, k _ _ q⟩) q⟩
  obtain ⟨τ, h, rs, rh, q⟩ := q
  refine LE.of ha.mono rs rh q fun d h1 v H1 ⟨i, e, q1⟩ r1 rh1 k1 => ?_
  subst e
  exact ⟨i, r1, q1 _ H1 rfl rh1 k1⟩
/-- a op1 b op2 c -/
def dChain (r r' : RD2) (ta tb tc : DTE) : DTE := fun τ h Q => ta τ h fun x h1 => tb τ h1 fun y h2 => r x y h2 fun z h3 => ∃ k, z = .bl k ∧ (if k = true then tc τ h3 fun w h4 => r' y w h4 Q else Q (.bl false) h3)
end
end DL

/-! DCall: arguments, displays, subscripts, slices, calls of built-ins and of their methods. -/
namespace DL
open PySem PySem.Spec PyProof.Rows L2

/-! ### arguments, displays -/
def dNil : DTA := fun _ h Q => Q [] h
def dCons (ta : DTE) (tr : DTA) : DTA := fun τ h Q => ta τ h fun x h1 => tr τ h1 fun xs h2 => Q (x :: xs) h2
def dTup (t : DTA) : DTE := fun τ h Q => t τ h fun xs h1 => xs.length ≤ sizeLine ∧ Q (.tup xs) h1
def dLst (t : DTA) : DTE := fun τ h Q => t τ h fun xs h1 => xs.length ≤ sizeLine ∧ ∀ p, h1 p = none → Q (.ref p) (updD h1 p (.lst xs))
section
variable {X : Cx} {e : Expr} {es : List Expr} {te : DTE} {t : DTA} {pos : Pos}
theorem da_nil : DA X [] dNil := by
  refine ⟨pa_nil.wk fun σ H Q q => ?_, fun τ h Q Q' k q => k _ _ q⟩
  obtain ⟨τ, h, rs, rh, q⟩ := q
  exact q [] H .nil rh (.refl H)
theorem da_cons (ha : DE X e te) (hr : DA X es t) (hs : starEach (e :: es) X.env = (false, eval e X.env) :: starEach es X.env := by rfl) : DA X (e :: es) (dCons te t) := by
  refine ⟨(pa_cons ha.run hr.run hs).wk fun σ H Q q => ?_, fun τ h Q Q' k q => ha.mono _ _ _ _ (fun x h1 q => hr.mono _ _ _ _ (fun xs h2 q => k _ _ q) q) q⟩
  obtain ⟨τ, h, rs, rh, q⟩ := q
  refine LE.of ha.mono rs rh q fun d h1 v H1 q1 r1 rh1 k1 => ?_
  exact LA.of hr.mono (rs.tk k1) rh1 q1 fun ds h2 vs H2 q2 r2 rh2 k2 => q2 (v :: vs) H2 (.cons (r1.tk k2) r2) rh2 (k1.trans k2)
theorem de_tup {x1} (ha : DA X es t) : DE X (.Tuple es x1 pos) (dTup t) := by
  refine ⟨(pe_tup ha.run).wk fun σ H Q q => ?_, fun τ h Q Q' k q => ha.mono _ _ _ _ (fun xs h1 q => ⟨q.1, k _ _ q.2⟩) q⟩
  obtain ⟨τ, h, rs, rh, q⟩ := q
  exact LA.of ha.mono rs rh q fun ds h1 vs H1 q1 r1 rh1 k1 => ⟨by rw [r1.length]; exact q1.1, fun p n => Cl.newT rh1 r1 n (q1.2.tk k1)⟩
theorem de_lst (ha : DA X es t) : DE X (.List es pos) (dLst t) := by
  refine ⟨(pe_lst ha.run).wk fun σ H Q q => ?_, fun τ h Q Q' k q => ha.mono _ _ _ _ (fun xs h1 q => ⟨q.1, fun p n => k _ _ (q.2 p n)⟩) q⟩
  obtain ⟨τ, h, rs, rh, q⟩ := q
  exact LA.of ha.mono rs rh q fun ds h1 vs H1 q1 r1 rh1 k1 => ⟨by rw [r1.length]; exact q1.1, fun p n => Cl.newL rh1 r1 n ((q1.2 p (rh1.free n)).tk k1)⟩
end

/-! ### subscripts -/
def ixD (x y : D) (h : DH) (Q : DK) : Prop := match x, y with
  | .tup ds, .int i => ∃ v, atI ds i = some v ∧ Q v h
  | .lsv ds, .int i => ∃ v, atI ds i = some v ∧ Q v h
  | .str z, .int i => ∃ c, z.length ≤ sizeLine ∧ atI z.cps.toList i = some c ∧ Q (.str ⟨#[c]⟩) h
  | .ref a, .int i => ∃ ds v, h a = some (.lst ds) ∧ atI ds i = some v ∧ Q v h
  | _, _ => False
theorem ixD_mono {x y : D} {h : DH} {Q Q' : DK} (k : ∀ d h', Q d h' → Q' d h') (q : ixD x y h Q) : ixD x y h Q' := by
  cases x <;> cases y <;> first | exact False.elim q | skip
  · obtain ⟨c, l, e, q⟩ := q; exact ⟨c, l, e, k _ _ q⟩
  · obtain ⟨v, e, q⟩ := q; exact ⟨v, e, k _ _ q⟩
  · obtain ⟨v, e, q⟩ := q; exact ⟨v, e, k _ _ q⟩
  · obtain ⟨ds, v, e1, e, q⟩ := q; exact ⟨ds, v, e1, e, k _ _ q⟩
theorem Reps.at {K : PySem.W.Frag} {H : Hp} {ds : List D} {vs : List V} {i : Int} {d : D} (r : Reps K H ds vs) (e : atI ds i = some d) : ∃ v, atI vs i = some v ∧ Rep K H d v := by
  unfold atI at e ⊢
  rw [r.length]
  cases q : ixN ds.length i with
  | none => rw [q] at e; cases e
  | some j =>
    rw [q] at e
    exact r.get e
section
variable {X : Cx} {a b : Expr} {ta tb : DTE} {pos : Pos}
theorem ixr_seq : IxR X (rL X.K ixD) := by
  intro value slice pins s σ H x y v u Q I rx ry q hs
  obtain ⟨dx, dy, h, r1, r2, rh, q⟩ := q
  cases dx <;> cases dy <;> first | exact False.elim q | skip
  · cases rep_str r1; cases rep_int r2
    obtain ⟨c, l, e, q⟩ := q
    exact ix_str value slice pins s σ H _ _ v u Q I rx ry ⟨_, _, c, rfl, rfl, l, e, Cl.same q rh rfl⟩ hs
  · obtain ⟨a, xs, rfl, s1, p1⟩ := r1
    cases rep_int r2
    obtain ⟨d, e, q⟩ := q
    obtain ⟨w, e2, r⟩ := p1.at e
    exact ix_tup value slice pins s σ H _ _ v u Q I rx ry ⟨a, xs, _, w, rfl, rfl, s1, e2, Cl.same q rh r⟩ hs
  · obtain ⟨a, xs, rfl, s1, p1⟩ := r1
    cases rep_int r2
    obtain ⟨d, e, q⟩ := q
    obtain ⟨w, e2, r⟩ := p1.at e
    exact ix_list value slice pins s σ H _ _ v u Q I rx ry ⟨a, xs, _, w, rfl, rfl, s1.sq, e2, Cl.same q rh r⟩ hs
  · cases rep_ref r1; cases rep_int r2
    obtain ⟨ds, d, ea, e, q⟩ := q
    obtain ⟨xs, s1, p1⟩ := rh.lst ea
    obtain ⟨w, e2, r⟩ := p1.at e
    exact ix_list value slice pins s σ H _ _ v u Q I rx ry ⟨_, xs, _, w, rfl, rfl, .of s1, e2, Cl.same q rh r⟩ hs
theorem de_ix (ha : DE X a ta) (hb : DE X b tb) (hs : PlainIx b := by exact fun _ _ => rfl) : DE X (.Subscript a b pos) (dOp ixD ta tb) :=
  ⟨(pe_ix ixr_seq ha.run hb.run hs).wk fun _ _ _ q => dOp_lift (rd := ixD) (fun _ _ _ _ _ k q => ixD_mono k q) ha.mono hb.mono q, dOp_mono (rd := ixD) (fun _ _ _ _ _ k q => ixD_mono k q) ha.mono hb.mono⟩
end

/-! ### slices -/
def cutD {α : Type} (xs : List α) (lo hi : Option Int) : List α := (xs.drop (HT.sIx xs.length 0 lo)).take (HT.sIx xs.length xs.length hi - HT.sIx xs.length 0 lo)
def cutSD (z : Str) (lo hi : Option Int) : Str := cutS z lo hi
def slD (x : D) (lo hi : Option Int) (h : DH) (Q : DK) : Prop := match x with
  | .tup ds => Q (.tup (cutD ds lo hi)) h
  | .str z => z.length ≤ sizeLine ∧ Q (.str (cutS z lo hi)) h
  | .ref a => ∃ ds, h a = some (.lst ds) ∧ ∀ p, h p = none → Q (.ref p) (updD h p (.lst (cutD ds lo hi)))
  | .lsv ds => ∀ p, h p = none → Q (.ref p) (updD h p (.lst (cutD ds lo hi)))
  | _ => False
theorem slD_mono {x : D} {lo hi : Option Int} {h : DH} {Q Q' : DK} (k : ∀ d h', Q d h' → Q' d h') (q : slD x lo hi h Q) : slD x lo hi h Q' := by
  cases x <;> first | exact False.elim q | skip
  · exact ⟨q.1, k _ _ q.2⟩
  · exact k _ _ q
  · exact fun p n => k _ _ (q p n)
  · obtain ⟨ds, e, q⟩ := q; exact ⟨ds, e, fun p n => k _ _ (q p n)⟩
theorem Reps.cut {K : PySem.W.Frag} {H : Hp} {ds : List D} {vs : List V} (r : Reps K H ds vs) (lo hi : Option Int) : Reps K H (cutD ds lo hi) (cutV vs lo hi) := by
  unfold cutD cutV
  rw [r.length]
  exact (r.drop _).take _
theorem cutD_whole {α : Type} {xs : List α} {lo hi : Option Int} (h : HT.sIx xs.length 0 lo = 0 ∧ HT.sIx xs.length xs.length hi = xs.length) : cutD xs lo hi = xs := by
  unfold cutD
  rw [h.1, h.2]
  simp
abbrev DTO := DSt → DH → (Option Int → DH → Prop) → Prop
def ClO (K : PySem.W.Frag) (H : Hp) (Q : Option Int → Hp → Prop) : Option Int → DH → Prop := fun b h => ∀ H', RepH K H' h → TK H H' → Q b H'
def LO (K : PySem.W.Frag) (t : DTO) : TO := fun σ H Q => ∃ τ h, RepS K H τ σ ∧ RepH K H h ∧ t τ h (ClO K H Q)
structure DOo (X : Cx) (e : Option Expr) (t : DTO) : Prop where
  run : PO X e (LO X.K t)
  mono : Mono t
theorem _root_.L2.PO.wk {X : Cx} {e : Option Expr} {t t' : TO} (p : PO X e t) (k : ∀ σ H Q, t' σ H Q → t σ H Q) : PO X e t' := ⟨fun pins s σ H Q I h => p.run pins s σ H Q I (k _ _ _ h)⟩
def dNoPart : DTO := fun _ h Q => Q none h
def dPart (t : DTE) : DTO := fun τ h Q => t τ h fun x h1 => ∃ i, x = .int i ∧ Q (some i) h1
def dSl (te : DTE) (tl th : DTO) : DTE := fun τ h Q => te τ h fun x h1 => tl τ h1 fun l h2 => th τ h2 fun u h3 => slD x l u h3 Q
section
variable {X : Cx} {e : Expr} {te : DTE} {pos p2 : Pos} {lo hi : Option Expr} {tl th : DTO}
theorem do_none : DOo X none dNoPart := by
  refine ⟨po_none.wk fun σ H Q q => ?_, fun τ h Q Q' k q => k _ _ q⟩
  obtain ⟨τ, h, rs, rh, q⟩ := q
  exact q H rh (.refl H)
theorem do_some (he : DE X e te) : DOo X (some e) (dPart te) := by
  refine ⟨(po_some he.run).wk fun σ H Q q => ?_, fun τ h Q Q' k q => he.mono _ _ _ _ (fun x h1 ⟨i, e, q⟩ => ⟨i, e, k _ _ q⟩) q⟩
  obtain ⟨τ, h, rs, rh, q⟩ := q
  refine LE.of he.mono rs rh q fun d h1 v H1 ⟨i, e, q1⟩ r1 rh1 k1 => ?_
  subst e
  exact ⟨i, r1, q1 H1 rh1 k1⟩
def rSlD (K : PySem.W.Frag) : V → Option Int → Option Int → Hp → VK → Prop := fun x lo hi H Q => ∃ dx h, Rep K H dx x ∧ RepH K H h ∧ slD dx lo hi h (Cl K H Q)
theorem slr_seq : SlR X (rSlD X.K) := by
  intro pins s σ H x v vl vu lo hi sl Q I rx hs pl pu q
  obtain ⟨dx, h, r1, rh, q⟩ := q
  cases dx <;> first | exact False.elim q | skip
  · cases rep_str r1
    exact sl_str pins s σ H _ v vl vu lo hi sl Q I rx hs pl pu ⟨_, rfl, q.1, Cl.same q.2 rh rfl⟩
  · obtain ⟨a, xs, rfl, s1, p1⟩ := r1
    refine sl_tupA pins s σ H _ v vl vu lo hi sl Q I rx hs pl pu ⟨a, xs, rfl, s1, fun z => ?_, fun _ p n => Cl.newT rh (p1.cut lo hi) n q⟩
    rw [p1.length] at z
    have q2 : Cl X.K H Q (.tup (cutD _ lo hi)) h := q
    rw [cutD_whole z] at q2
    exact Cl.same q2 rh ⟨a, xs, rfl, s1, p1⟩
  · obtain ⟨a, xs, rfl, s1, p1⟩ := r1
    exact sl_list pins s σ H _ v vl vu lo hi sl Q I rx hs pl pu ⟨a, xs, rfl, s1.sq, fun p n => Cl.newL rh (p1.cut lo hi) n (q p (rh.free n))⟩
  · cases rep_ref r1
    obtain ⟨ds, ea, q⟩ := q
    obtain ⟨xs, s1, p1⟩ := rh.lst ea
    exact sl_list pins s σ H _ v vl vu lo hi sl Q I rx hs pl pu ⟨_, xs, rfl, .of s1, fun p n => Cl.newL rh (p1.cut lo hi) n (q p (rh.free n))⟩
theorem de_slice (he : DE X e te) (hl : DOo X lo tl) (hu : DOo X hi th) : DE X (.Subscript e (.Slice lo hi none p2) pos) (dSl te tl th) := by
  refine ⟨(pe_slice slr_seq he.run hl.run hu.run).wk fun σ H Q q => ?_, fun τ h Q Q' k q => he.mono _ _ _ _ (fun x h1 q => hl.mono _ _ _ _ (fun l h2 q => hu.mono _ _ _ _ (fun u h3 q => slD_mono k q) q) q) q⟩
  obtain ⟨τ, h, rs, rh, q⟩ := q
  refine LE.of he.mono rs rh q fun d h1 v H1 q1 r1 rh1 k1 => ?_
  refine ⟨τ, h1, rs.tk k1, rh1, hl.mono _ _ _ _ (fun l h2 q2 H2 rh2 k2 => ?_) q1⟩
  refine ⟨τ, h2, rs.tk (k1.trans k2), rh2, hu.mono _ _ _ _ (fun u h3 q3 H3 rh3 k3 => ?_) q2⟩
  exact ⟨d, h3, r1.tk (k2.trans k3), rh3, slD_mono (fun _ _ c => c.tk (k1.trans (k2.trans k3))) q3⟩
end

/-! ### calls of built-ins -/
abbrev RDC := List D → DH → DK → Prop
def rLA (K : PySem.W.Frag) (rd : RDC) : List V → Hp → VK → Prop := fun xs H Q => ∃ ds h, Reps K H ds xs ∧ RepH K H h ∧ rd ds h (Cl K H Q)
structure DCallR (X : Cx) (f : Value) (rd : RDC) : Prop where
  run : CallR X f (rLA X.K rd)
  mono : ∀ ds h Q Q', (∀ d h', Q d h' → Q' d h') → rd ds h Q → rd ds h Q'
theorem DCallR.of {X : Cx} {f : Value} {r : List V → Hp → VK → Prop} {rd : RDC} (o : CallR X f r) (k : ∀ H xs ds h Q, Reps X.K H ds xs → RepH X.K H h → rd ds h (Cl X.K H Q) → r xs H Q)
    (m : ∀ ds h Q Q', (∀ d h', Q d h' → Q' d h') → rd ds h Q → rd ds h Q') : DCallR X f rd :=
  ⟨fun pins s σ H xs us Q I r ⟨ds, h, rs, rh, q⟩ => o pins s σ H xs us Q I r (k H xs ds h Q rs rh q), m⟩
def dCB (rd : RDC) (t : DTA) : DTE := fun τ h Q => t τ h fun ds h1 => rd ds h1 Q
section
variable {X : Cx} {x : Str} {p pos : Pos} {e : Expr} {es : List Expr} {t : DTA} {id T : String} {rd : RDC}
theorem dCB_lift (m : ∀ ds h Q Q', (∀ d h', Q d h' → Q' d h') → rd ds h Q → rd ds h Q') (ma : Mono t) {σ : L2.St} {H : Hp} {Q : VK} (q : LE X.K (dCB rd t) σ H Q) : tCB (rLA X.K rd) (LA X.K t) σ H Q := by
  obtain ⟨τ, h, rs, rh, q⟩ := q
  exact LA.of ma rs rh q fun ds h1 vs H1 q1 r1 rh1 k1 => ⟨ds, h1, r1, rh1, m _ _ _ _ (fun _ _ c => c.tk k1) q1⟩
theorem de_callB (hc : DCallR X (.builtin id) rd) (hg : Gl X x) (hm : X.mg x = none) (hv : bootBuiltins x = some (.builtin id)) (ha : DA X (e :: es) t) (hn : x ≠ "__name__" := by decide) (hdb : (x == ("__debug__" : Str)) = false := by decide)
    (he : starEach (e :: es) X.env = (false, eval e X.env) :: starEach es X.env := by rfl) (hpl : (backTo pos (starEach es X.env)).any (·.1) = false := by rfl) : DE X (.Call (.Name x p) (e :: es) [] pos) (dCB rd t) :=
  ⟨(pe_callB hc.run hg hm hv ha.run hn hdb he hpl).wk fun _ _ _ q => dCB_lift hc.mono ha.mono q, fun τ h Q Q' k q => ha.mono _ _ _ _ (fun ds h1 q => hc.mono _ _ _ _ k q) q⟩
theorem de_callTy (hc : DCallR X (.type T) rd) (hg : Gl X x) (hm : X.mg x = none) (hv : bootBuiltins x = some (.type T)) (ha : DA X (e :: es) t) (hn : x ≠ "__name__" := by decide) (hdb : (x == ("__debug__" : Str)) = false := by decide)
    (he : starEach (e :: es) X.env = (false, eval e X.env) :: starEach es X.env := by rfl) (hpl : (backTo pos (starEach es X.env)).any (·.1) = false := by rfl) : DE X (.Call (.Name x p) (e :: es) [] pos) (dCB rd t) :=
  ⟨(pe_callTy hc.run hg hm hv ha.run hn hdb he hpl).wk fun _ _ _ q => dCB_lift hc.mono ha.mono q, fun τ h Q Q' k q => ha.mono _ _ _ _ (fun ds h1 q => hc.mono _ _ _ _ k q) q⟩
theorem de_callTy0 (hc : DCallR X (.type T) rd) (hg : Gl X x) (hm : X.mg x = none) (hv : bootBuiltins x = some (.type T)) (hn : x ≠ "__name__" := by decide) (hdb : (x == ("__debug__" : Str)) = false := by decide) :
    DE X (.Call (.Name x p) [] [] pos) (dCB rd dNil) := by
  refine ⟨(pe_callTy0 hc.run hg hm hv hn hdb).wk fun σ H Q q => ?_, fun τ h Q Q' k q => hc.mono _ _ _ _ k q⟩
  obtain ⟨τ, h, rs, rh, q⟩ := q
  exact ⟨[], h, .nil, rh, q⟩
end
/-- one argument -/
theorem reps1 {K : PySem.W.Frag} {H : Hp} {d : D} {xs : List V} (r : Reps K H [d] xs) : ∃ x, xs = [x] ∧ Rep K H d x := by
  obtain ⟨x, ys, rfl, r, e⟩ := r
  cases (show _ = _ from e)
  exact ⟨x, rfl, r⟩
theorem reps2 {K : PySem.W.Frag} {H : Hp} {d e : D} {xs : List V} (r : Reps K H [d, e] xs) : ∃ x y, xs = [x, y] ∧ Rep K H d x ∧ Rep K H e y := by
  obtain ⟨x, ys, rfl, r, q⟩ := r
  obtain ⟨y, rfl, r2⟩ := reps1 q
  exact ⟨x, y, rfl, r, r2⟩
def lenD : RDC := fun xs h Q => match xs with
  | [.tup ds] => ds.length ≤ sizeLine → Q (.int ds.length) h
  | [.lsv ds] => ds.length ≤ sizeLine → Q (.int ds.length) h
  | [.str z] => z.length ≤ sizeLine ∧ Q (.int z.length) h
  | [.ref a] => ∃ ds, h a = some (.lst ds) ∧ (ds.length ≤ sizeLine → Q (.int ds.length) h)
  | _ => False
def absD : RDC := fun xs h Q => match xs with
  | [.int i] => Q (.int (if i < 0 then -i else i)) h
  | _ => False
def intD : RDC := fun xs h Q => match xs with
  | [.int i] => Q (.int i) h
  | _ => False
def max2D : RDC := fun xs h Q => match xs with
  | [.int i, .int j] => Q (.int (if j > i then j else i)) h
  | _ => False
def min2D : RDC := fun xs h Q => match xs with
  | [.int i, .int j] => Q (.int (if j < i then j else i)) h
  | _ => False
def listD : RDC := fun xs h Q => match xs with
  | [.tup ds] => ∀ p, h p = none → Q (.ref p) (updD h p (.lst ds))
  | [.lsv ds] => ∀ p, h p = none → Q (.ref p) (updD h p (.lst ds))
  | [.ref a] => ∃ ds, h a = some (.lst ds) ∧ ∀ p, h p = none → Q (.ref p) (updD h p (.lst ds))
  | _ => False
def tupleD : RDC := fun xs h Q => match xs with
  | [.tup ds] => Q (.tup ds) h
  | [.ref a] => ∃ ds, h a = some (.lst ds) ∧ Q (.tup ds) h
  | _ => False
/-- the built-in type's name -/
def tyN (h : DH) : D → Option String
  | .non => some "NoneType"
  | .bl _ => some "bool"
  | .int _ => some "int"
  | .str _ => some "str"
  | .tup _ => some "tuple"
  | .lsv _ => some "list"
  | .ref a => match h a with
    | some (.lst _) => some "list"
    | some (.dK _) => some "dict"
    | some (.dT _) => some "dict"
    | _ => none
  | .ty _ => none
def isiD : RDC := fun xs h Q => match xs with
  | [x, .ty n] => ∃ t b, tyN h x = some t ∧ kitB t n = some b ∧ Q (.bl b) h
  | _ => False
section
variable {X : Cx}
theorem dc_len : DCallR X (.builtin "len") lenD := by
  refine ⟨fun pins s σ H xs us Q I r ⟨ds, h, rs, rh, q⟩ => ?_, fun ds h Q Q' k q => ?_⟩
  · refine call_len pins s σ H xs us Q I r ?_
    unfold lenD at q
    split at q <;> first | exact False.elim q | skip
    · obtain ⟨x, rfl, a, xs, rfl, s1, r1⟩ := reps1 rs
      have hz := (I.tuple s1).choose_spec.2.2
      rw [r1.length] at hz
      exact ⟨_, _, rfl, .inr ⟨xs, s1, rfl⟩, by rw [r1.length]; exact Cl.same (q hz) rh rfl⟩
    · obtain ⟨x, rfl, a, xs, rfl, s1, r1⟩ := reps1 rs
      have hz := (I.list s1.sq).choose_spec.2.2
      rw [r1.length] at hz
      exact ⟨_, _, rfl, .inl ⟨xs, s1.sq, rfl⟩, by rw [r1.length]; exact Cl.same (q hz) rh rfl⟩
    · obtain ⟨x, rfl, r1⟩ := reps1 rs
      cases rep_str r1
      exact ⟨_, _, rfl, ⟨q.1, rfl⟩, Cl.same q.2 rh rfl⟩
    · obtain ⟨x, rfl, r1⟩ := reps1 rs
      cases rep_ref r1
      obtain ⟨ds, ea, q⟩ := q
      obtain ⟨xs, s1, p1⟩ := rh.lst ea
      have hz := (I.list (SqL.of s1)).choose_spec.2.2
      rw [p1.length] at hz
      exact ⟨_, _, rfl, .inl ⟨xs, .of s1, rfl⟩, by rw [p1.length]; exact Cl.same (q hz) rh rfl⟩
  · unfold lenD at q ⊢
    split at q <;> first | exact False.elim q | skip
    · exact fun z => k _ _ (q z)
    · exact fun z => k _ _ (q z)
    · exact ⟨q.1, k _ _ q.2⟩
    · obtain ⟨ds, e, q⟩ := q; exact ⟨ds, e, fun z => k _ _ (q z)⟩
theorem dc_abs : DCallR X (.builtin "abs") absD := by
  refine .of call_abs (fun H xs ds h Q rs rh q => ?_) (fun ds h Q Q' k q => ?_)
  · unfold absD at q
    split at q <;> first | exact False.elim q | skip
    obtain ⟨x, rfl, r⟩ := reps1 rs
    cases rep_int r
    exact ⟨_, rfl, Cl.same q rh rfl⟩
  · unfold absD at q ⊢
    split at q <;> first | exact False.elim q | exact k _ _ q
theorem dc_int : DCallR X (.type "int") intD := by
  refine .of call_int1 (fun H xs ds h Q rs rh q => ?_) (fun ds h Q Q' k q => ?_)
  · unfold intD at q
    split at q <;> first | exact False.elim q | skip
    obtain ⟨x, rfl, r⟩ := reps1 rs
    cases rep_int r
    exact .inl ⟨_, rfl, Cl.same q rh rfl⟩
  · unfold intD at q ⊢
    split at q <;> first | exact False.elim q | exact k _ _ q
theorem dc_max2 (hc : X.calm = true) : DCallR X (.builtin "max") max2D := by
  refine .of (call_max2 hc) (fun H xs ds h Q rs rh q => ?_) (fun ds h Q Q' k q => ?_)
  · unfold max2D at q
    split at q <;> first | exact False.elim q | skip
    obtain ⟨x, y, rfl, r1, r2⟩ := reps2 rs
    cases rep_int r1; cases rep_int r2
    exact ⟨_, _, rfl, Cl.same q rh rfl⟩
  · unfold max2D at q ⊢
    split at q <;> first | exact False.elim q | exact k _ _ q
theorem dc_min2 (hc : X.calm = true) : DCallR X (.builtin "min") min2D := by
  refine .of (call_min2 hc) (fun H xs ds h Q rs rh q => ?_) (fun ds h Q Q' k q => ?_)
  · unfold min2D at q
    split at q <;> first | exact False.elim q | skip
    obtain ⟨x, y, rfl, r1, r2⟩ := reps2 rs
    cases rep_int r1; cases rep_int r2
    exact ⟨_, _, rfl, Cl.same q rh rfl⟩
  · unfold min2D at q ⊢
    split at q <;> first | exact False.elim q | exact k _ _ q
theorem dc_list : DCallR X (.type "list") listD := by
  refine .of call_list_of (fun H xs ds h Q rs rh q => ?_) (fun ds h Q Q' k q => ?_)
  · unfold listD at q
    split at q <;> first | exact False.elim q | skip
    · obtain ⟨x, rfl, a, xs, rfl, s, r⟩ := reps1 rs
      exact ⟨_, xs, rfl, .inr s, fun p n => Cl.newL rh r n (q p (rh.free n))⟩
    · obtain ⟨x, rfl, a, xs, rfl, s, r⟩ := reps1 rs
      exact ⟨_, xs, rfl, .inl s.sq, fun p n => Cl.newL rh r n (q p (rh.free n))⟩
    · obtain ⟨x, rfl, r⟩ := reps1 rs
      cases rep_ref r
      obtain ⟨ds, ea, q⟩ := q
      obtain ⟨xs, s1, p1⟩ := rh.lst ea
      exact ⟨_, xs, rfl, .inl (.of s1), fun p n => Cl.newL rh p1 n (q p (rh.free n))⟩
  · unfold listD at q ⊢
    split at q <;> first | exact False.elim q | skip
    · exact fun p n => k _ _ (q p n)
    · exact fun p n => k _ _ (q p n)
    · obtain ⟨ds, e, q⟩ := q; exact ⟨ds, e, fun p n => k _ _ (q p n)⟩
theorem dc_tuple : DCallR X (.type "tuple") tupleD := by
  refine .of call_tuple_of (fun H xs ds h Q rs rh q => ?_) (fun ds h Q Q' k q => ?_)
  · unfold tupleD at q
    split at q <;> first | exact False.elim q | skip
    · obtain ⟨x, rfl, a, xs, rfl, s, r⟩ := reps1 rs
      exact ⟨_, xs, rfl, .inr ⟨s, Cl.same q rh ⟨a, xs, rfl, s, r⟩⟩⟩
    · obtain ⟨x, rfl, r⟩ := reps1 rs
      cases rep_ref r
      obtain ⟨ds, ea, q⟩ := q
      obtain ⟨xs, s1, p1⟩ := rh.lst ea
      exact ⟨_, xs, rfl, .inl ⟨.of s1, fun p n => Cl.newT rh p1 n q⟩⟩
  · unfold tupleD at q ⊢
    split at q <;> first | exact False.elim q | skip
    · exact k _ _ q
    · obtain ⟨ds, e, q⟩ := q; exact ⟨ds, e, k _ _ q⟩
theorem tyN_X {H : Hp} {h : DH} (rh : RepH X.K H h) {x : D} {v : V} {t : String} (r : Rep X.K H x v) (e : tyN h x = some t) : TyX X.K H v (.type t) := by
  cases x with
  | non => cases (show _ = _ from r); cases e; exact .base .non
  | bl b => cases (show _ = _ from r); cases e; exact .base (.bl _)
  | int b => cases (show _ = _ from r); cases e; exact .base (.int _)
  | str b => cases (show _ = _ from r); cases e; exact .base (.str _)
  | tup ds =>
    obtain ⟨a, xs, rfl, s, rs⟩ := r
    cases e
    rcases s with (s | ⟨o, s⟩) | ⟨o, its, n, s, c, _⟩
    · exact .base (.tup s)
    · exact .fTuple s
    · exact .kTuple s c
  | lsv ds =>
    obtain ⟨a, xs, rfl, s, rs⟩ := r
    cases e
    rcases s with ⟨o, s⟩ | ⟨o, its, n, s, c, _⟩
    · exact .base (.frz s)
    · exact .kList s c
  | ref a =>
    cases (show _ = _ from r)
    cases q : h a with
    | none => rw [tyN, q] at e; cases e
    | some o =>
      rw [tyN, q] at e
      cases o with
      | lst ds => cases e; obtain ⟨xs, ea, rs⟩ := rh.lst q; exact .base (.lst ea)
      | dK ds => cases e; obtain ⟨xs, ea, rs⟩ := rh a _ q; exact .base (.dK ea)
      | dT ds => cases e; obtain ⟨xs, ea, rs⟩ := rh a _ q; exact .base (.dT ea)
      | ins C fs => cases e
      | xd fs => cases e
      | fdK fs => cases e
  | ty n => cases e
theorem dc_isi : DCallR X (.builtin "isinstance") isiD := by
  refine .of call_isi (fun H xs ds h Q rs rh q => ?_) (fun ds h Q Q' k q => ?_)
  · unfold isiD at q
    split at q <;> first | exact False.elim q | skip
    obtain ⟨x, y, rfl, r1, r2⟩ := reps2 rs
    obtain ⟨t, b, e1, e2, q⟩ := q
    exact ⟨x, y, .type t, _, b, rfl, by cases (show _ = _ from r2); exact .ty _, tyN_X rh r1 e1, kit_ty e2, Cl.same q rh rfl⟩
  · unfold isiD at q ⊢
    split at q <;> first | exact False.elim q | skip
    obtain ⟨t, b, e1, e2, q⟩ := q
    exact ⟨t, b, e1, e2, k _ _ q⟩
end
end DL

/-! DStmt: statements, targets, loops over D. -/
namespace DL
open PySem PySem.Spec PyProof.Rows L2

/-- a wish about an exception: its class, its dict -/
abbrev DXK := Str → Option Addr → DH → Prop
structure DEnds where
  nx : DSt → DH → Prop
  rt : DK
  bk : DSt → DH → Prop := fun _ _ => False
  ct : DSt → DH → Prop := fun _ _ => False
  ex : DSt → DXK := fun _ _ _ _ => False
abbrev DTS := DEnds → DSt → DH → Prop
structure DEnds.Le (D D' : DEnds) : Prop where
  nx : ∀ τ h, D.nx τ h → D'.nx τ h
  rt : ∀ d h, D.rt d h → D'.rt d h
  bk : ∀ τ h, D.bk τ h → D'.bk τ h
  ct : ∀ τ h, D.ct τ h → D'.ct τ h
  ex : ∀ τ C d h, D.ex τ C d h → D'.ex τ C d h
theorem DEnds.Le.refl (D : DEnds) : D.Le D := ⟨fun _ _ h => h, fun _ _ h => h, fun _ _ h => h, fun _ _ h => h, fun _ _ _ _ h => h⟩
def MonoS (t : DTS) : Prop := ∀ D D' τ h, D.Le D' → t D τ h → t D' τ h
/-- a wish about slots and heap, on the abstract heap -/
def ClS (K : PySem.W.Frag) (H : Hp) (Q : L2.St → Hp → Prop) : DSt → DH → Prop := fun τ h => ∀ σ' H', RepS K H' τ σ' → RepH K H' h → TK H H' → Q σ' H'
theorem ClS.tk {K : PySem.W.Frag} {H H1 : Hp} {Q : L2.St → Hp → Prop} (k : TK H H1) {τ : DSt} {h : DH} (c : ClS K H Q τ h) : ClS K H1 Q τ h := fun σ' H' a b e => c σ' H' a b (k.trans e)
/-- .. of an exception -/
def ClX (K : PySem.W.Frag) (W : WX) (H : Hp) : DSt → DXK := fun τ C d h => ∀ σ' H', RepS K H' τ σ' → RepH K H' h → TK H H' → W (.ref (He.ga K C)) d σ' H'
theorem ClX.tk {K : PySem.W.Frag} {W : WX} {H H1 : Hp} (k : TK H H1) {τ : DSt} {C : Str} {d : Option Addr} {h : DH} (c : ClX K W H τ C d h) : ClX K W H1 τ C d h := fun σ' H' a b e => c σ' H' a b (k.trans e)
def ClE (K : PySem.W.Frag) (W : WX) (H : Hp) (E : Ends) : DEnds := ⟨ClS K H E.nx, Cl K H E.rt, ClS K H E.bk, ClS K H E.ct, ClX K W H⟩
theorem ClE.tk {K : PySem.W.Frag} {H H1 : Hp} {E : Ends} {W : WX} (k : TK H H1) : (ClE K W H E).Le (ClE K W H1 E) := ⟨fun _ _ c => ClS.tk k c, fun _ _ c => Cl.tk k c, fun _ _ c => ClS.tk k c, fun _ _ c => ClS.tk k c, fun _ _ _ _ c => ClX.tk k c⟩
def LS (K : PySem.W.Frag) (W : WX) (t : DTS) : TS := fun E σ H => ∃ τ h, RepS K H τ σ ∧ RepH K H h ∧ t (ClE K W H E) τ h
structure DS (X : Cx) (W : WX) (st : Stmt) (t : DTS) : Prop where
  run : PS X st (LS X.K W t)
  mono : MonoS t
structure DSs (X : Cx) (W : WX) (st : List Stmt) (t : DTS) : Prop where
  run : PSs X st (LS X.K W t)
  mono : MonoS t
/-- another end, nearer -/
theorem LS.of {K : PySem.W.Frag} {t : DTS} {H1 : Hp} {τ : DSt} {σ : L2.St} {h : DH} {D : DEnds} {E : Ends} (m : MonoS t) (rs : RepS K H1 τ σ) (rh : RepH K H1 h) {W : WX} (q : t D τ h) (le : D.Le (ClE K W H1 E)) : LS K W t E σ H1 :=
  ⟨τ, h, rs, rh, m _ _ _ _ le q⟩

def dNext : DTS := fun D τ h => D.nx τ h
def dSeq (t u : DTS) : DTS := fun D τ h => t { D with nx := u D } τ h
def dBreak : DTS := fun D τ h => D.bk τ h
def dCont : DTS := fun D τ h => D.ct τ h
def dDrop (te : DTE) : DTS := fun D τ h => te τ h fun _ h1 => D.nx τ h1
def dRet (te : DTE) : DTS := fun D τ h => te τ h D.rt
def dRetN : DTS := fun D _ h => D.rt .non h
def dIfS (c : DTT) (t u : DTS) : DTS := fun D τ h => c τ h fun b h1 => if b = true then t D τ h1 else u D τ h1
def dNever : DTS := fun _ _ _ => False
section
variable {X : Cx} {W : WX} {st : Stmt} {rest : List Stmt} {t u : DTS} {e : Expr} {te : DTE} {pos : Pos}
theorem dss_nil : DSs X W [] dNext := by
  refine ⟨pss_nil.wk fun E σ H q => ?_, fun D D' τ h le q => le.nx _ _ q⟩
  obtain ⟨τ, h, rs, rh, q⟩ := q
  exact q σ H rs rh (.refl H)
theorem le_seq {K : PySem.W.Frag} {H : Hp} {E : Ends} {u : DTS} {W : WX} (m : MonoS u) : DEnds.Le { (ClE K W H E) with nx := u (ClE K W H E) } (ClE K W H { E with nx := LS K W u E }) :=
  ⟨fun τ h q σ' H' rs rh k => ⟨τ, h, rs, rh, m _ _ _ _ (ClE.tk k) q⟩, fun _ _ q => q, fun _ _ q => q, fun _ _ q => q, fun _ _ _ _ q => q⟩
theorem dss_cons (h1 : DS X W st t) (h2 : DSs X W rest u) : DSs X W (st :: rest) (dSeq t u) := by
  refine ⟨(pss_cons h1.run h2.run).wk fun E σ H q => ?_, fun D D' τ h le q => h1.mono { D with nx := u D } { D' with nx := u D' } _ _ ⟨fun τ h q => h2.mono _ _ _ _ le q, le.rt, le.bk, le.ct, le.ex⟩ q⟩
  obtain ⟨τ, h, rs, rh, q⟩ := q
  exact ⟨τ, h, rs, rh, h1.mono _ _ _ _ (le_seq h2.mono) q⟩
theorem dss_one (h1 : DS X W st t) : DSs X W [st] t := ⟨pss_one h1.run, h1.mono⟩
theorem ds_pass : DS X W (.Pass pos) dNext := by
  refine ⟨ps_pass.wk fun E σ H q => ?_, fun D D' τ h le q => le.nx _ _ q⟩
  obtain ⟨τ, h, rs, rh, q⟩ := q
  exact q σ H rs rh (.refl H)
theorem ds_break : DS X W (.Break pos) dBreak := by
  refine ⟨ps_break.wk fun E σ H q => ?_, fun D D' τ h le q => le.bk _ _ q⟩
  obtain ⟨τ, h, rs, rh, q⟩ := q
  exact q σ H rs rh (.refl H)
theorem ds_continue : DS X W (.Continue pos) dCont := by
  refine ⟨ps_continue.wk fun E σ H q => ?_, fun D D' τ h le q => le.ct _ _ q⟩
  obtain ⟨τ, h, rs, rh, q⟩ := q
  exact q σ H rs rh (.refl H)
theorem ds_never : DS X W st dNever := ⟨ps_never.wk fun E σ H ⟨_, _, _, _, q⟩ => q, fun _ _ _ _ _ q => q⟩
theorem dss_never {sts : List Stmt} : DSs X W sts dNever := ⟨pss_never.wk fun E σ H ⟨_, _, _, _, q⟩ => q, fun _ _ _ _ _ q => q⟩
theorem ds_expr (he : DE X e te) (hs : swapsWith e none pos.line X.env = pure false := by rfl) : DS X W (.Expr e pos) (dDrop te) := by
  refine ⟨(ps_expr he.run hs).wk fun E σ H q => ?_, fun D D' τ h le q => he.mono _ _ _ _ (fun _ _ q => le.nx _ _ q) q⟩
  obtain ⟨τ, h, rs, rh, q⟩ := q
  exact LE.of he.mono rs rh q fun d h1 v H1 q1 r1 rh1 k1 => q1 σ H1 (rs.tk k1) rh1 k1
theorem ds_ret (he : DE X e te) : DS X W (.Return (some e) pos) (dRet te) := by
  refine ⟨(ps_ret he.run).wk fun E σ H q => ?_, fun D D' τ h le q => he.mono _ _ _ _ (fun _ _ q => le.rt _ _ q) q⟩
  obtain ⟨τ, h, rs, rh, q⟩ := q
  exact LE.of he.mono rs rh q fun d h1 v H1 q1 r1 rh1 k1 => q1 v H1 r1 rh1 k1
theorem ds_retN : DS X W (.Return none pos) dRetN := by
  refine ⟨ps_retN.wk fun E σ H q => ?_, fun D D' τ h le q => le.rt _ _ q⟩
  obtain ⟨τ, h, rs, rh, q⟩ := q
  exact q .non H rfl rh (.refl H)
theorem ds_if {c : Expr} {a b : List Stmt} {tc : DTT} (hc : DT X c tc) (ha : DSs X W a t) (hb : DSs X W b u) : DS X W (.If c a b pos) (dIfS tc t u) := by
  refine ⟨(ps_if hc.run ha.run hb.run).wk fun E σ H q => ?_, fun D D' τ h le q => hc.mono _ _ _ _ (fun b h1 q => ite_mono (ha.mono _ _ _ _ le) (hb.mono _ _ _ _ le) q) q⟩
  obtain ⟨τ, h, rs, rh, q⟩ := q
  exact LT.of hc.mono rs rh q fun b h1 H1 q1 rh1 k1 => ite_mono (fun q => LS.of ha.mono (rs.tk k1) rh1 q (ClE.tk k1)) (fun q => LS.of hb.mono (rs.tk k1) rh1 q (ClE.tk k1)) q1
end

/-! ### targets -/
abbrev DTG := D → DSt → DH → (DSt → DH → Prop) → Prop
abbrev DTGs := List D → DSt → DH → (DSt → DH → Prop) → Prop
def LG (K : PySem.W.Frag) (t : DTG) : TG := fun v σ H Q => ∃ d τ h, Rep K H d v ∧ RepS K H τ σ ∧ RepH K H h ∧ t d τ h (ClS K H Q)
def LGs (K : PySem.W.Frag) (t : DTGs) : TGs := fun vs σ H Q => ∃ ds τ h, Reps K H ds vs ∧ RepS K H τ σ ∧ RepH K H h ∧ t ds τ h (ClS K H Q)
def MonoG {α : Type} (t : α → DSt → DH → (DSt → DH → Prop) → Prop) : Prop := ∀ d τ h Q Q', (∀ τ h, Q τ h → Q' τ h) → t d τ h Q → t d τ h Q'
structure DG (X : Cx) (tg : Expr) (t : DTG) : Prop where
  run : PG X tg (LG X.K t)
  mono : MonoG t
structure DGs (X : Cx) (tg : List Expr) (t : DTGs) : Prop where
  run : PGs X tg (LGs X.K t)
  mono : MonoG t
theorem _root_.L2.PG.wk {X : Cx} {e : Expr} {t t' : TG} (p : PG X e t) (k : ∀ v σ H Q, t' v σ H Q → t v σ H Q) : PG X e t' := ⟨fun pins s σ H v u Q I r h => p.run pins s σ H v u Q I r (k _ _ _ _ h)⟩
theorem _root_.L2.PGs.wk {X : Cx} {e : List Expr} {t t' : TGs} (p : PGs X e t) (k : ∀ v σ H Q, t' v σ H Q → t v σ H Q) : PGs X e t' := ⟨fun pins s σ H v u Q I r h => p.run pins s σ H v u Q I r (k _ _ _ _ h)⟩
def dgName (i : Nat) : DTG := fun d τ h Q => Q (τ.set i (some d)) h
def dgNil : DTGs := fun ds τ h Q => ds = [] ∧ Q τ h
def dgCons (t : DTG) (u : DTGs) : DTGs := fun ds τ h Q => ∃ d r, ds = d :: r ∧ t d τ h fun τ' h' => u r τ' h' Q
def dgTup (n : Nat) (t : DTGs) : DTG := fun d τ h Q => ∃ ds, d = .tup ds ∧ ds.length = n ∧ t ds τ h Q
section
variable {X : Cx} {W : WX} {pos : Pos} {e : Expr} {te : DTE} {g : DTG} {tg : Expr}
theorem dg_name {i : Nat} {x : Str} (hN : X.N.Nodup) (hi : X.N[i]? = some x) (hx : Loc X.env.scope x) (hf : X.fn x = true ∨ X.env.scope.names.lookup x = some .local := by first | exact .inl rfl | exact .inr rfl | assumption) : DG X (.Name x pos) (dgName i) := by
  refine ⟨(pg_name hN hi hx hf).wk fun v σ H Q q => ?_, fun d τ h Q Q' k q => k _ _ q⟩
  obtain ⟨d, τ, h, r, rs, rh, q⟩ := q
  exact q _ _ (rs.set r i) rh (.refl H)
theorem dgs_nil : DGs X [] dgNil := by
  refine ⟨pgs_nil.wk fun v σ H Q q => ?_, fun d τ h Q Q' k q => ⟨q.1, k _ _ q.2⟩⟩
  obtain ⟨d, τ, h, r, rs, rh, e, q⟩ := q
  subst e
  cases (show _ = _ from r)
  exact ⟨rfl, q σ H rs rh (.refl H)⟩
theorem dgs_cons {es : List Expr} {t : DTG} {u : DTGs} (h1 : DG X e t) (h2 : DGs X es u)
    (hs : (assignEach (e :: es) X.env).map (·.2) = assign e X.env :: (assignEach es X.env).map (·.2) := by rfl) : DGs X (e :: es) (dgCons t u) := by
  refine ⟨(pgs_cons h1.run h2.run hs).wk fun v σ H Q q => ?_, fun d τ h Q Q' k ⟨x, r, e, q⟩ => ⟨x, r, e, h1.mono _ _ _ _ _ (fun τ h q => h2.mono _ _ _ _ _ k q) q⟩⟩
  obtain ⟨d, τ, h, r, rs, rh, x, ds, e, q⟩ := q
  subst e
  obtain ⟨y, ys, rfl, r1, r2⟩ := r
  refine ⟨y, ys, rfl, x, τ, h, r1, rs, rh, h1.mono _ _ _ _ _ (fun τ' h' q σ' H' rs' rh' k' => ?_) q⟩
  exact ⟨ds, τ', h', r2.tk k', rs', rh', h2.mono _ _ _ _ _ (fun _ _ c => ClS.tk k' c) q⟩
theorem dg_tup {es : List Expr} {k : Nat} {t : DTGs} {n : Nat} (hc : X.calm = true) (h : DGs X es t)
    (hn : (assignEach es X.env).length = n := by rfl) (hst : (assignEach es X.env).findIdx? (·.1) = none := by rfl) : DG X (.Tuple es k pos) (dgTup n t) := by
  refine ⟨(pg_tup hc h.run hn hst).wk fun v σ H Q q => ?_, fun d τ h' Q Q' k ⟨ds, e, l, q⟩ => ⟨ds, e, l, h.mono _ _ _ _ _ k q⟩⟩
  obtain ⟨d, τ, h', r, rs, rh, ds, e, l, q⟩ := q
  subst e
  obtain ⟨a, xs, rfl, s, r⟩ := r
  exact ⟨a, xs, rfl, s, by rw [r.length]; exact l, ds, τ, h', r, rs, rh, q⟩
def dAsg (te : DTE) (g : DTG) : DTS := fun D τ h => te τ h fun x h1 => g x τ h1 D.nx
theorem dAsg_mono (m : Mono te) (mg : MonoG g) : MonoS (dAsg te g) := fun D D' τ h le q => m _ _ _ _ (fun x h1 q => mg _ _ _ _ _ le.nx q) q
theorem dAsg_lift {K : PySem.W.Frag} (m : Mono te) (mg : MonoG g) {E : Ends} {σ : L2.St} {H : Hp} (q : LS K W (dAsg te g) E σ H) : tAsg (LE K te) (LG K g) E σ H := by
  obtain ⟨τ, h, rs, rh, q⟩ := q
  exact LE.of m rs rh q fun d h1 v H1 q1 r1 rh1 k1 => ⟨d, τ, h1, r1, rs.tk k1, rh1, mg _ _ _ _ _ (fun _ _ c => ClS.tk k1 c) q1⟩
theorem ds_asg (he : DE X e te) (hg : DG X tg g) (hs : swapsWithSole [tg] e pos.line X.env = pure false := by rfl) (hw : swappedStores [tg] e X.env = pure none := by rfl)
    (h1 : (assignEach [tg] X.env).map (·.2) = [assign tg X.env] := by rfl) : DS X W (.Assign [tg] e pos) (dAsg te g) :=
  ⟨(ps_asg he.run hg.run hs hw h1).wk fun E σ H q => dAsg_lift he.mono hg.mono q, dAsg_mono he.mono hg.mono⟩
theorem dgName_mono {i : Nat} : MonoG (dgName i) := fun d τ h Q Q' k q => k _ _ q
theorem ds_set {i : Nat} {x : Str} {pos' : Pos} (hN : X.N.Nodup) (hi : X.N[i]? = some x) (hx : Loc X.env.scope x) (he : DE X e te) (hs : swapsWith e (some (.Name x pos')) pos.line X.env = pure false := by rfl) (hf : X.fn x = true ∨ X.env.scope.names.lookup x = some .local := by first | exact .inl rfl | exact .inr rfl | assumption) :
    DS X W (.Assign [.Name x pos'] e pos) (dAsg te (dgName i)) := by
  refine ⟨(ps_set hN hi hx he.run hs hf).wk fun E σ H q => ?_, dAsg_mono he.mono dgName_mono⟩
  obtain ⟨τ, h, rs, rh, q⟩ := q
  exact LE.of he.mono rs rh q fun d h1 v H1 q1 r1 rh1 k1 => q1 _ _ ((rs.tk k1).set r1 i) rh1 k1
/-- o[i] = v -/
abbrev DTSet := D → D → D → DH → (DH → Prop) → Prop
def setD : DTSet := fun o i v h Q => match o, i with
  | .ref a, .int k => ∃ ds j, h a = some (.lst ds) ∧ ixN ds.length k = some j ∧ Q (updD h a (.lst (ds.set j v)))
  | _, _ => False
theorem setD_mono {o i v : D} {h : DH} {Q Q' : DH → Prop} (k : ∀ h, Q h → Q' h) (q : setD o i v h Q) : setD o i v h Q' := by
  unfold setD at q ⊢
  split at q <;> first | exact False.elim q | skip
  obtain ⟨ds, j, e1, e2, q⟩ := q
  exact ⟨ds, j, e1, e2, k _ q⟩
def dgSub (to ti : DTE) (t : DTSet) : DTG := fun v τ h Q => to τ h fun o h1 => ti τ h1 fun i h2 => t o i v h2 fun h3 => Q τ h3
theorem dg_subL {o i : Expr} {to ti : DTE} (ho : DE X o to) (hi : DE X i ti)
    (ha : ∀ v, assign (.Subscript o i pos) X.env v = (do
      let ov ← holding [v] (eval o X.env)
      let iv ← holding [v, ov] (eval i X.env)
      standAt pos
      holding [v, ov, iv] (setItem ov iv v)
      release [v, ov, iv] []) := by intro _; rfl) : DG X (.Subscript o i pos) (dgSub to ti setD) := by
  refine ⟨(pg_sub ho.run hi.run set_list ha).wk fun v σ H Q q => ?_, fun d τ h Q Q' k q => ho.mono _ _ _ _ (fun _ _ q => hi.mono _ _ _ _ (fun _ _ q => setD_mono (fun h q => k _ _ q) q) q) q⟩
  obtain ⟨d, τ, h, r, rs, rh, q⟩ := q
  refine LE.of ho.mono rs rh q fun o h1 vo H1 q1 r1 rh1 k1 => ?_
  refine LE.of hi.mono (rs.tk k1) rh1 q1 fun i h2 vi H2 q2 r2 rh2 k2 => ?_
  unfold setD at q2
  split at q2 <;> first | exact False.elim q2 | skip
  obtain ⟨ds, j, e1, e2, q⟩ := q2
  obtain ⟨xs, ea, p⟩ := rh2.lst e1
  cases rep_ref r1
  cases rep_int r2
  have m := mut_lst ea
  refine ⟨_, xs, _, j, rfl, rfl, ea, by rw [p.length]; exact e2, ?_⟩
  have kk := (k1.trans k2).trans (TK.mut (o := .lst (xs.set j v)) m)
  exact q σ _ (rs.tk kk) (rh2.mut m ⟨_, upd_same, Reps.tk (.mut m) (p.set (r.tk (k1.trans k2)) j)⟩) kk
end

/-! ### what is walked -/
/-- J walks the items, while st holds (H0: where the walk began) -/
structure ItD (K : PySem.W.Frag) (H0 : Hp) (J : It) (items : List D) (st : DH → Prop) : Prop where
  go : ∀ (i : Nat) (H : Hp) (h : DH), i < items.length → TK H0 H → RepH K H h → st h → J.go i H
  yld : ∀ (i : Nat) (H : Hp) (h : DH) (x : V) (H' : Hp) (d : D), items[i]? = some d → TK H0 H → RepH K H h → st h → J.yld i H x H' → Rep K H' d x ∧ RepH K H' h ∧ TK H H'
  stop : ∀ (H : Hp) (h : DH), TK H0 H → RepH K H h → st h → J.stop items.length H
abbrev DIK := List D → (DH → Prop) → DH → Prop
abbrev DTI := DSt → DH → DIK → Prop
def ClI (K : PySem.W.Frag) (H : Hp) (R : It → Hp → Prop) : DIK := fun items st h1 => ∀ J H1, ItD K H1 J items st → RepH K H1 h1 → TK H H1 → R J H1
def LI (K : PySem.W.Frag) (wi : DTI) : TI := fun σ H R => ∃ τ h, RepS K H τ σ ∧ RepH K H h ∧ wi τ h (ClI K H R)
def MonoI (wi : DTI) : Prop := ∀ τ h R R', (∀ items st h', R items st h' → R' items st h') → wi τ h R → wi τ h R'
structure DI (X : Cx) (tg iter : Expr) (wi : DTI) : Prop where
  run : PI X tg iter (LI X.K wi)
  mono : MonoI wi
theorem _root_.L2.PI.wk {X : Cx} {tg e : Expr} {t t' : TI} (p : PI X tg e t) (k : ∀ σ H R, t' σ H R → t σ H R) : PI X tg e t' := ⟨fun pins s σ H R I h => p.run pins s σ H R I (k _ _ _ h)⟩
section
variable {K : PySem.W.Frag}
theorem itd_tup {H0 : Hp} {a : Addr} {xs : List V} {ds : List D} (s : SqT K H0 a xs) (r : Reps K H0 ds xs) : ItD K H0 (Itt K a) ds fun _ => True where
  go := fun i H h l k rh _ => by
    obtain ⟨v, e, _⟩ := r.get (List.getElem?_eq_getElem l)
    exact ⟨xs, v, k.sqT s, e⟩
  yld := fun i H h x H' d e k rh _ y => by
    obtain ⟨rfl, y⟩ := y
    obtain ⟨v, e2, q⟩ := r.get e
    rw [y xs (k.sqT s)] at e2
    cases e2
    exact ⟨q.tk k, rh, .refl _⟩
  stop := fun H h k rh _ => ⟨xs, k.sqT s, Nat.le_of_eq r.length⟩
theorem itd_lsv {H0 : Hp} {a : Addr} {xs : List V} {ds : List D} (s : LsK K H0 a xs) (r : Reps K H0 ds xs) : ItD K H0 (Itl K a) ds fun _ => True where
  go := fun i H h l k rh _ => by
    obtain ⟨v, e, _⟩ := r.get (List.getElem?_eq_getElem l)
    exact ⟨xs, v, (k.lsK s).sq, e⟩
  yld := fun i H h x H' d e k rh _ y => by
    obtain ⟨rfl, y⟩ := y
    obtain ⟨v, e2, q⟩ := r.get e
    rw [y xs (k.lsK s).sq] at e2
    cases e2
    exact ⟨q.tk k, rh, .refl _⟩
  stop := fun H h k rh _ => ⟨xs, (k.lsK s).sq, Nat.le_of_eq r.length⟩
theorem itd_lst {H0 : Hp} {a : Addr} {ds : List D} : ItD K H0 (Itl K a) ds fun h => h a = some (.lst ds) where
  go := fun i H h l k rh e => by
    obtain ⟨xs, ea, r⟩ := rh.lst e
    obtain ⟨v, e, _⟩ := r.get (List.getElem?_eq_getElem l)
    exact ⟨xs, v, .of ea, e⟩
  yld := fun i H h x H' d e k rh eh y => by
    obtain ⟨xs, ea, r⟩ := rh.lst eh
    obtain ⟨rfl, y⟩ := y
    obtain ⟨v, e2, q⟩ := r.get e
    rw [y xs (.of ea)] at e2
    cases e2
    exact ⟨q, rh, .refl _⟩
  stop := fun H h k rh e => by
    obtain ⟨xs, ea, r⟩ := rh.lst e
    exact ⟨xs, .of ea, Nat.le_of_eq r.length⟩
/-- lo, lo + 1, .. -/
def rangeD (lo : Int) (n : Nat) : List D := (List.range n).map fun i => .int (lo + (i : Nat))
theorem rangeD_length {lo : Int} {n : Nat} : (rangeD lo n).length = n := by simp [rangeD]
theorem rangeD_get {lo : Int} {n i : Nat} {d : D} (h : (rangeD lo n)[i]? = some d) : i < n ∧ d = .int (lo + (i : Nat)) := by
  unfold rangeD at h
  rw [List.getElem?_map] at h
  by_cases l : i < n
  · rw [List.getElem?_range l] at h
    cases h
    exact ⟨l, rfl⟩
  · rw [List.getElem?_eq_none (by simpa using l)] at h
    cases h
theorem itd_range {H0 : Hp} {lo : Int} {n : Nat} : ItD K H0 (Itr lo n) (rangeD lo n) fun _ => True where
  go := fun i H h l k rh _ => by rw [rangeD_length] at l; exact l
  yld := fun i H h x H' d e k rh _ y => by
    obtain ⟨rfl, rfl⟩ := y
    obtain ⟨_, rfl⟩ := rangeD_get e
    exact ⟨rfl, rh, .refl _⟩
  stop := fun H h k rh _ => by rw [rangeD_length]; exact Nat.le_refl n
end
/-- over a list or a tuple, by its value -/
def seqI (x : D) (h : DH) (R : DIK) : Prop := match x with
  | .tup ds => R ds (fun _ => True) h
  | .lsv ds => R ds (fun _ => True) h
  | .ref a => ∃ ds, h a = some (.lst ds) ∧ R ds (fun h => h a = some (.lst ds)) h
  | _ => False
def diSeq (te : DTE) : DTI := fun τ h R => te τ h fun x h1 => seqI x h1 R
theorem seqI_mono {x : D} {h : DH} {R R' : DIK} (k : ∀ ds st h, R ds st h → R' ds st h) (q : seqI x h R) : seqI x h R' := by
  cases x <;> first | exact False.elim q | exact k _ _ _ q | skip
  obtain ⟨ds, e, q⟩ := q
  exact ⟨ds, e, k _ _ _ q⟩
/-- a fresh iterator's footprint -/
theorem fp_new {X : Cx} {pins : List (Addr × Obj)} {σ : L2.St} {H : Hp} {s : Shared} (I : Inv X pins σ H s) : ∀ b ∈ [s.heap.objs.size], FpOk X pins H b := fun b hb => by
  obtain rfl : b = s.heap.objs.size := by simpa using hb
  exact I.fpOk (Nat.le_refl _) (I.hok.fresh (Nat.le_refl _))
def iAny (K : PySem.W.Frag) (tl : TE) : TI := fun σ H R => tl σ H fun x H1 =>
  ∃ a, x = .ref a ∧ (((∃ xs, SqL K H1 a xs) ∧ R (Itl K a) H1) ∨ ((∃ xs, SqT K H1 a xs) ∧ R (Itt K a) H1))
theorem pi_any {X : Cx} {tg l : Expr} {tl : TE} (hl : PE X l tl) : PI X tg l (iAny X.K tl) := ⟨fun pins s σ H R I h => by
  apply thn (hl.run pins s σ H _ I h)
  rintro v s1 ⟨x, H1, I1, r1, a, rfl, q⟩
  cases r1
  rcases q with ⟨⟨xs, hq⟩, q⟩ | ⟨⟨xs, hq⟩, q⟩
  · obtain ⟨its, rv, p, hz⟩ := I1.list hq
    exact wpAny_pyIter_list p.isList ⟨_, [s1.heap.objs.size], _, _, H1, rfl, I1.kept (t' := s1.toks) fun b o e => Heap.get?_push_of_some _ e, turn_list a _,
      ⟨_, Heap.get?_push_size _ rfl, rfl, rfl⟩, fp_new I1, q⟩
  · obtain ⟨its, rv, p, hz⟩ := I1.tuple hq
    exact wpAny_pyIter_tuple (show s1.heap.IsTuple a its.toArray from p) ⟨_, [s1.heap.objs.size], _, _, H1, rfl, I1.kept (t' := s1.toks) fun b o e => Heap.get?_push_of_some _ e, turn_tuple a _,
      ⟨_, Heap.get?_push_size _ rfl, rfl, rfl⟩, fp_new I1, q⟩⟩
def diTup (te : DTE) : DTI := fun τ h R => te τ h fun x h1 => ∃ ds, x = .tup ds ∧ R ds (fun _ => True) h1
def diLst (te : DTE) : DTI := fun τ h R => te τ h fun x h1 => (∃ ds, x = .lsv ds ∧ R ds (fun _ => True) h1) ∨ ∃ a ds, x = .ref a ∧ h1 a = some (.lst ds) ∧ R ds (fun h => h a = some (.lst ds)) h1
def diRng1 (t : DTA) : DTI := fun τ h R => t τ h fun xs h1 => ∃ j : Int, xs = [.int j] ∧ -(2 ^ 62) ≤ j ∧ j < 2 ^ 62 ∧ R (rangeD 0 j.toNat) (fun _ => True) h1
def diRng2 (t : DTA) : DTI := fun τ h R => t τ h fun xs h1 => ∃ i j : Int, xs = [.int i, .int j] ∧ (-(2 ^ 62) ≤ i ∧ i < 2 ^ 62 ∧ -(2 ^ 62) ≤ j ∧ j < 2 ^ 62) ∧ R (rangeD i (j - i).toNat) (fun _ => True) h1
section
variable {X : Cx} {tg e a b : Expr} {te : DTE} {t : DTA} {p pos : Pos}
theorem di_tup (he : DE X e te) : DI X tg e (diTup te) := by
  refine ⟨(pi_tup he.run).wk fun σ H R q => ?_, fun τ h R R' k q => he.mono _ _ _ _ (fun x h1 ⟨ds, e, q⟩ => ⟨ds, e, k _ _ _ q⟩) q⟩
  obtain ⟨τ, h, rs, rh, q⟩ := q
  refine LE.of he.mono rs rh q fun d h1 v H1 ⟨ds, e, q⟩ r1 rh1 k1 => ?_
  subst e
  obtain ⟨a, xs, rfl, s, r⟩ := r1
  exact ⟨a, rfl, ⟨xs, s⟩, q _ H1 (itd_tup s r) rh1 k1⟩
theorem di_lst (he : DE X e te) : DI X tg e (diLst te) := by
  refine ⟨(pi_list he.run).wk fun σ H R q => ?_, fun τ h R R' k q => he.mono _ _ _ _ (fun x h1 q => ?_) q⟩
  · obtain ⟨τ, h, rs, rh, q⟩ := q
    refine LE.of he.mono rs rh q fun d h1 v H1 q r1 rh1 k1 => ?_
    rcases q with ⟨ds, e, q⟩ | ⟨a, ds, e, ea, q⟩
    · subst e
      obtain ⟨a, xs, rfl, s, r⟩ := r1
      exact ⟨a, rfl, ⟨xs, s.sq⟩, q _ H1 (itd_lsv s r) rh1 k1⟩
    · subst e
      cases rep_ref r1
      obtain ⟨xs, e2, r⟩ := rh1.lst ea
      exact ⟨a, rfl, ⟨xs, .of e2⟩, q _ H1 itd_lst rh1 k1⟩
  · rcases q with ⟨ds, e, q⟩ | ⟨a, ds, e, ea, q⟩
    · exact .inl ⟨ds, e, k _ _ _ q⟩
    · exact .inr ⟨a, ds, e, ea, k _ _ _ q⟩
theorem di_seq (he : DE X e te) : DI X tg e (diSeq te) := by
  refine ⟨(pi_any he.run).wk fun σ H R q => ?_, fun τ h R R' k q => he.mono _ _ _ _ (fun x h1 q => seqI_mono k q) q⟩
  obtain ⟨τ, h, rs, rh, q⟩ := q
  refine LE.of he.mono rs rh q fun d h1 v H1 q r1 rh1 k1 => ?_
  cases d with
  | tup ds =>
    obtain ⟨a, xs, rfl, s, r⟩ := r1
    exact ⟨a, rfl, .inr ⟨⟨xs, s⟩, q _ H1 (itd_tup s r) rh1 k1⟩⟩
  | lsv ds =>
    obtain ⟨a, xs, rfl, s, r⟩ := r1
    exact ⟨a, rfl, .inl ⟨⟨xs, s.sq⟩, q _ H1 (itd_lsv s r) rh1 k1⟩⟩
  | ref a =>
    obtain ⟨ds, ea, q⟩ := q
    cases rep_ref r1
    obtain ⟨xs, e2, r⟩ := rh1.lst ea
    exact ⟨a, rfl, .inl ⟨⟨xs, .of e2⟩, q _ H1 itd_lst rh1 k1⟩⟩
  | _ => exact False.elim q
theorem di_rng1 (hg : Gl X "range") (hm : X.mg "range" = none) (ha : DA X [a] t) (hs : starEach [a] X.env = [(false, eval a X.env)] := by rfl) : DI X tg (.Call (.Name "range" p) [a] [] pos) (diRng1 t) := by
  refine ⟨(pi_range1 hg hm ha.run hs).wk fun σ H R q => ?_, fun τ h R R' k q => ha.mono _ _ _ _ (fun x h1 ⟨j, e, l1, l2, q⟩ => ⟨j, e, l1, l2, k _ _ _ q⟩) q⟩
  obtain ⟨τ, h, rs, rh, q⟩ := q
  refine LA.of ha.mono rs rh q fun d h1 v H1 ⟨j, e, l1, l2, q⟩ r1 rh1 k1 => ?_
  subst e
  obtain ⟨x, rfl, r⟩ := reps1 r1
  cases rep_int r
  exact ⟨j, rfl, l1, l2, q _ H1 itd_range rh1 k1⟩
theorem di_rng2 (hg : Gl X "range") (hm : X.mg "range" = none) (ha : DA X [a, b] t) (hs : starEach [a, b] X.env = [(false, eval a X.env), (false, eval b X.env)] := by rfl) (hs2 : starEach [b] X.env = [(false, eval b X.env)] := by rfl) : DI X tg (.Call (.Name "range" p) [a, b] [] pos) (diRng2 t) := by
  refine ⟨(pi_range2 hg hm ha.run hs hs2).wk fun σ H R q => ?_, fun τ h R R' k q => ha.mono _ _ _ _ (fun x h1 ⟨i, j, e, l, q⟩ => ⟨i, j, e, l, k _ _ _ q⟩) q⟩
  obtain ⟨τ, h, rs, rh, q⟩ := q
  refine LA.of ha.mono rs rh q fun d h1 v H1 ⟨i, j, e, l, q⟩ r1 rh1 k1 => ?_
  subst e
  obtain ⟨x, y, rfl, r1, r2⟩ := reps2 r1
  cases rep_int r1
  cases rep_int r2
  exact ⟨i, j, rfl, l, q _ H1 itd_range rh1 k1⟩
end
/-! ### for, while -/
/-- Pv: the invariant by the turn -/
def dFor (wi : DTI) (g : DTG) (tb : DTS) : DTS := fun D τ h => wi τ h fun items st h1 => ∃ Pv : Nat → DSt → DH → Prop, Pv 0 τ h1 ∧ (∀ i τ h, Pv i τ h → st h) ∧
  (∀ i d τ h, items[i]? = some d → Pv i τ h → g d τ h fun τ2 h2 => tb { D with nx := Pv (i + 1), ct := Pv (i + 1), bk := D.nx } τ2 h2) ∧ ∀ τ h, Pv items.length τ h → D.nx τ h
def dWhile (c : DTT) (tb : DTS) : DTS := fun D τ h => ∃ W : Nat → DSt → DH → Prop, (∃ m, W m τ h) ∧ ∀ m τ h, W m τ h →
  c τ h fun b h1 => if b = true then tb { D with nx := fun τ' h' => ∃ m', m' < m ∧ W m' τ' h', ct := fun τ' h' => ∃ m', m' < m ∧ W m' τ' h', bk := D.nx } τ h1 else D.nx τ h1
section
variable {X : Cx} {W : WX} {pos : Pos} {tg iter : Expr} {body : List Stmt} {wi : DTI} {g : DTG} {tb : DTS}
theorem dFor_lift (mi : MonoI wi) (mg : MonoG g) (mb : MonoS tb) {K : PySem.W.Frag} {E : Ends} {σ : L2.St} {H : Hp} (q : LS K W (dFor wi g tb) E σ H) : tFor (LI K wi) (LG K g) (LS K W tb) E σ H := by
    obtain ⟨τ, h, rs, rh, q⟩ := q
    refine ⟨τ, h, rs, rh, mi _ _ _ _ (fun items st h1 q J H1 it rh1 k1 => ?_) q⟩
    obtain ⟨Pv, p0, pst, step, pend⟩ := q
    refine ⟨fun i m σ H => m = items.length - i ∧ i ≤ items.length ∧ ∃ τ h, RepS K H τ σ ∧ RepH K H h ∧ TK H1 H ∧ Pv i τ h, ⟨_, rfl, Nat.zero_le _, τ, h1, rs.tk k1, rh1, .refl _, p0⟩, ?_⟩
    rintro i m σ' H' ⟨rfl, hi', τ', h', rs', rh', k', p⟩
    by_cases hlt : i < items.length
    · refine .inr ⟨it.go i H' h' hlt k' rh' (pst _ _ _ p), fun σ' H' => i + 1 ≤ items.length ∧ ∃ τ h, RepS K H' τ σ' ∧ RepH K H' h ∧ TK H1 H' ∧ Pv (i + 1) τ h, fun σ2 H2 ⟨l, q⟩ => ⟨items.length - (i + 1), by omega, rfl, l, q⟩, fun x H2 y => ?_⟩
      have ed : items[i]? = some items[i] := List.getElem?_eq_getElem hlt
      obtain ⟨r2, rh2, k2⟩ := it.yld i H' h' x H2 _ ed k' rh' (pst _ _ _ p) y
      refine ⟨_, τ', h', r2, rs'.tk k2, rh2, mg _ _ _ _ _ (fun τ3 h3 q σ3 H3 rs3 rh3 k3 => ?_) (step i _ τ' h' ed p)⟩
      refine ⟨τ3, h3, rs3, rh3, mb _ _ _ _ ?_ q⟩
      have kk : TK H1 H3 := k'.trans (k2.trans k3)
      exact ⟨fun τ4 h4 q σ4 H4 rs4 rh4 k4 => ⟨hlt, τ4, h4, rs4, rh4, kk.trans k4, q⟩, fun _ _ c => Cl.tk (k1.trans kk) c, fun _ _ c => ClS.tk (k1.trans kk) c, fun τ4 h4 q σ4 H4 rs4 rh4 k4 => ⟨hlt, τ4, h4, rs4, rh4, kk.trans k4, q⟩, fun _ _ _ _ c => ClX.tk (k1.trans kk) c⟩
    · have e : i = items.length := by omega
      subst e
      exact .inl ⟨it.stop H' h' k' rh' (pst _ _ _ p), pend τ' h' p σ' H' rs' rh' (k1.trans k')⟩
theorem dFor_mono (mi : MonoI wi) (mg : MonoG g) (mb : MonoS tb) : MonoS (dFor wi g tb) := fun D D' τ h le q => mi _ _ _ _ (fun items st h' q => by
    obtain ⟨Pv, p0, pst, step, pend⟩ := q
    exact ⟨Pv, p0, pst, fun i d τ h e p => mg _ _ _ _ _ (fun τ2 h2 q => mb { D with nx := Pv (i + 1), ct := Pv (i + 1), bk := D.nx } { D' with nx := Pv (i + 1), ct := Pv (i + 1), bk := D'.nx } _ _ ⟨fun _ _ q => q, le.rt, le.nx, fun _ _ q => q, le.ex⟩ q) (step i d τ h e p), fun τ h p => le.nx _ _ (pend τ h p)⟩) q
theorem ds_for (hp : PassesOwn (model X.prog X.w) X.A X.env X.xe) (hc : X.calm = true) (hi : DI X tg iter wi) (hg : DG X tg g) (hb : DSs X W body tb)
    (hs : ∀ x, foldedSetIterable iter X.env x = pure x := by intro _; rfl) : DS X W (.For tg iter body [] pos) (dFor wi g tb) :=
  ⟨(ps_for hp hc hi.run hg.run hb.run hs).wk fun E σ H q => dFor_lift hi.mono hg.mono hb.mono q, dFor_mono hi.mono hg.mono hb.mono⟩
theorem ds_while {c : Expr} {tc : DTT} (hp : PassesOwn (model X.prog X.w) X.A X.env X.xe) (hc : DT X c tc) (hb : DSs X W body tb) : DS X W (.While c body [] pos) (dWhile tc tb) := by
  refine ⟨(ps_while hp hc.run hb.run).wk fun E σ H q => ?_, fun D D' τ h le q => ?_⟩
  · obtain ⟨τ, h, rs, rh, W, ⟨m0, w0⟩, turn⟩ := q
    refine ⟨fun m σ' H' => ∃ τ h, RepS X.K H' τ σ' ∧ RepH X.K H' h ∧ TK H H' ∧ W m τ h, ⟨m0, τ, h, rs, rh, .refl _, w0⟩, ?_⟩
    rintro m σ1 H1 ⟨τ1, h1, rs1, rh1, k1, w1⟩
    refine LT.of hc.mono rs1 rh1 (turn m τ1 h1 w1) fun b h2 H2 q2 rh2 k2 => ?_
    cases b with
    | true =>
      have kk := k1.trans k2
      refine ⟨fun σ' H' => ∃ m', m' < m ∧ ∃ τ h, RepS X.K H' τ σ' ∧ RepH X.K H' h ∧ TK H H' ∧ W m' τ h, fun σ' H' q => q, τ1, h2, rs1.tk k2, rh2, hb.mono _ _ _ _ ?_ q2⟩
      exact ⟨fun τ4 h4 ⟨m', l, w⟩ σ4 H4 rs4 rh4 k4 => ⟨m', l, τ4, h4, rs4, rh4, kk.trans k4, w⟩, fun _ _ c => Cl.tk kk c, fun _ _ c => ClS.tk kk c, fun τ4 h4 ⟨m', l, w⟩ σ4 H4 rs4 rh4 k4 => ⟨m', l, τ4, h4, rs4, rh4, kk.trans k4, w⟩, fun _ _ _ _ c => ClX.tk kk c⟩
    | false => exact q2 σ1 H2 (rs1.tk k2) rh2 (k1.trans k2)
  · obtain ⟨W, w0, turn⟩ := q
    exact ⟨W, w0, fun m τ h w => hc.mono _ _ _ _ (fun b h1 q => ite_mono (hb.mono { D with nx := fun τ' h' => ∃ m', m' < m ∧ W m' τ' h', ct := fun τ' h' => ∃ m', m' < m ∧ W m' τ' h', bk := D.nx } { D' with nx := fun τ' h' => ∃ m', m' < m ∧ W m' τ' h', ct := fun τ' h' => ∃ m', m' < m ∧ W m' τ' h', bk := D'.nx } _ _ ⟨fun _ _ q => q, le.rt, le.nx, fun _ _ q => q, le.ex⟩) (le.nx _ _) q) (turn m τ h w)⟩
end
end DL

/-! DFun: methods of lists, comprehensions, defs. -/
namespace DL
open PySem PySem.Spec PyProof.Rows L2

/-! ### methods of built-in types -/
abbrev RDM := D → List D → DH → DK → Prop
def rLM (K : PySem.W.Frag) (rd : RDM) : V → List V → Hp → VK → Prop := fun x xs H Q => ∃ d ds h, Rep K H d x ∧ Reps K H ds xs ∧ RepH K H h ∧ rd d ds h (Cl K H Q)
structure DMt (X : Cx) (T id : String) (ty : D → DH → Prop) (rd : RDM) : Prop where
  is : ∀ (H : Hp) (h : DH) (d : D) (v : V), Rep X.K H d v → RepH X.K H h → ty d h → tyV X.K T v H
  run : MtR X id (rLM X.K rd)
  mono : ∀ x ds h Q Q', (∀ d h', Q d h' → Q' d h') → rd x ds h Q → rd x ds h Q'
def dBM (ty : D → DH → Prop) (rd : RDM) (to : DTE) (t : DTA) : DTE := fun τ h Q => to τ h fun x h1 => ty x h1 ∧ t τ h1 fun xs h2 => rd x xs h2 Q
section
variable {X : Cx} {o e : Expr} {es : List Expr} {to : DTE} {t : DTA} {name : Str} {apos cpos : Pos} {T id : String} {ty : D → DH → Prop} {rd : RDM}
theorem de_bm (pa : PlainAttrs T) (slot : Slot T name id) (hty : typeOf (.builtin id) = pure (.type "method_descriptor")) (hm : DMt X T id ty rd) (ho : DE X o to) (ha : DA X (e :: es) t)
    (hbase : attributeBase o name X.env (eval o X.env) = eval o X.env := by rfl)
    (hfew : ((backTo cpos (starEach (e :: es) X.env)).all (fun x => !x.1) && (backToKw cpos (keywordEach [] X.env)).all (fun x => x.1.isSome)
      && decide ((e :: es).length + ([] : List Keyword).length + (if ([] : List Keyword).isEmpty then 0 else 1) < 30)) = true := by rfl)
    (hline : (apos.endLine == cpos.line) = true := by rfl) (hs : starEach (e :: es) X.env = (false, eval e X.env) :: starEach es X.env := by rfl) (hplain : (backTo cpos (starEach es X.env)).any (·.1) = false := by rfl) :
    DE X (.Call (.Attribute o name apos) (e :: es) [] cpos) (dBM ty rd to t) := by
  refine ⟨(pe_bm pa slot hty hm.run ho.run ha.run hbase hfew hline hs hplain).wk fun σ H Q q => ?_, fun τ h Q Q' k q => ho.mono _ _ _ _ (fun x h1 q => ⟨q.1, ha.mono _ _ _ _ (fun xs h2 q => hm.mono _ _ _ _ _ k q) q.2⟩) q⟩
  obtain ⟨τ, h, rs, rh, q⟩ := q
  refine LE.of ho.mono rs rh q fun d h1 v H1 q1 r1 rh1 k1 => ⟨hm.is H1 h1 d v r1 rh1 q1.1, ?_⟩
  exact LA.of ha.mono (rs.tk k1) rh1 q1.2 fun ds h2 vs H2 q2 r2 rh2 k2 => ⟨d, ds, h2, r1.tk k2, r2, rh2, hm.mono _ _ _ _ _ (fun _ _ c => c.tk (k1.trans k2)) q2⟩
theorem de_bm0 (pa : PlainAttrs T) (slot : Slot T name id) (hty : typeOf (.builtin id) = pure (.type "method_descriptor")) (hm : DMt X T id ty rd) (ho : DE X o to)
    (hbase : attributeBase o name X.env (eval o X.env) = eval o X.env := by rfl) (hline : (apos.endLine == cpos.line) = true := by rfl) : DE X (.Call (.Attribute o name apos) [] [] cpos) (dBM ty rd to dNil) := by
  refine ⟨(pe_bm0 pa slot hty hm.run ho.run hbase hline).wk fun σ H Q q => ?_, fun τ h Q Q' k q => ho.mono _ _ _ _ (fun x h1 q => ⟨q.1, hm.mono _ _ _ _ _ k q.2⟩) q⟩
  obtain ⟨τ, h, rs, rh, q⟩ := q
  exact LE.of ho.mono rs rh q fun d h1 v H1 q1 r1 rh1 k1 => ⟨hm.is H1 h1 d v r1 rh1 q1.1, d, [], h1, r1, .nil, rh1, hm.mono _ _ _ _ _ (fun _ _ c => c.tk k1) q1.2⟩
end
def isL : D → DH → Prop := fun d h => ∃ a ds, d = .ref a ∧ h a = some (.lst ds)
theorem isL_V {K : PySem.W.Frag} {H : Hp} {h : DH} {d : D} {v : V} (r : Rep K H d v) (rh : RepH K H h) (t : isL d h) : tyV K "list" v H := by
  obtain ⟨a, ds, rfl, e⟩ := t
  cases rep_ref r
  obtain ⟨xs, ea, _⟩ := rh.lst e
  exact .inl ⟨rfl, xs, .of ea⟩
theorem DMt.ofL {X : Cx} {id : String} {r : V → List V → Hp → VK → Prop} {rd : RDM} (o : MtR X id r) (k : ∀ H x xs d ds h Q, Rep X.K H d x → Reps X.K H ds xs → RepH X.K H h → rd d ds h (Cl X.K H Q) → r x xs H Q)
    (m : ∀ x ds h Q Q', (∀ d h', Q d h' → Q' d h') → rd x ds h Q → rd x ds h Q') : DMt X "list" id isL rd :=
  ⟨fun _ _ _ _ r rh t => isL_V r rh t, fun pins s σ H x xs v us Q I r1 r2 ⟨d, ds, h, p1, p2, rh, q⟩ => o pins s σ H x xs v us Q I r1 r2 (k H x xs d ds h Q p1 p2 rh q), m⟩
def appendD : RDM := fun x vs h Q => ∃ a y ds, x = .ref a ∧ vs = [y] ∧ h a = some (.lst ds) ∧ ds.length < sizeLine ∧ Q .non (updD h a (.lst (ds ++ [y])))
def popD : RDM := fun x vs h Q => ∃ a ds y, x = .ref a ∧ vs = [] ∧ h a = some (.lst ds) ∧ ds[ds.length - 1]? = some y ∧ Q y (updD h a (.lst ds.dropLast))
section
variable {X : Cx}
theorem dm_append : DMt X "list" "list.append" isL appendD := by
  refine .ofL mt_append (fun H x xs d ds h Q r1 r2 rh q => ?_) (fun x ds h Q Q' k q => ?_)
  · obtain ⟨a, y, es, rfl, rfl, e, l, q⟩ := q
    cases rep_ref r1
    obtain ⟨v, rfl, r⟩ := reps1 r2
    obtain ⟨xs, ea, p⟩ := rh.lst e
    exact ⟨a, xs, v, rfl, rfl, ea, by rw [p.length]; exact l, Cl.setL (d := .non) rh ea (p.append (.cons r .nil)) rfl q⟩
  · obtain ⟨a, y, es, e1, e2, e, l, q⟩ := q
    exact ⟨a, y, es, e1, e2, e, l, k _ _ q⟩
theorem dm_pop : DMt X "list" "list.pop" isL popD := by
  refine .ofL mt_pop (fun H x xs d ds h Q r1 r2 rh q => ?_) (fun x ds h Q Q' k q => ?_)
  · obtain ⟨a, es, y, rfl, rfl, e, l, q⟩ := q
    cases rep_ref r1
    cases (show _ = _ from r2)
    obtain ⟨xs, ea, p⟩ := rh.lst e
    rw [← p.length] at l
    obtain ⟨v, ev, r⟩ := p.get l
    exact ⟨a, xs, v, rfl, rfl, ea, ev, Cl.setL rh ea p.dropLast r q⟩
  · obtain ⟨a, es, y, e1, e2, e, l, q⟩ := q
    exact ⟨a, es, y, e1, e2, e, l, k _ _ q⟩
theorem de_append {o e : Expr} {to te : DTE} {apos cpos : Pos} (ho : DE X o to) (he : DE X e te) (hbase : attributeBase o "append" X.env (eval o X.env) = eval o X.env := by rfl)
    (hfew : ((backTo cpos (starEach [e] X.env)).all (fun x => !x.1) && (backToKw cpos (keywordEach [] X.env)).all (fun x => x.1.isSome)
      && decide ([e].length + ([] : List Keyword).length + (if ([] : List Keyword).isEmpty then 0 else 1) < 30)) = true := by rfl)
    (hline : (apos.endLine == cpos.line) = true := by rfl) (hs : starEach [e] X.env = (false, eval e X.env) :: starEach [] X.env := by rfl) (hplain : (backTo cpos (starEach [] X.env)).any (·.1) = false := by rfl) :
    DE X (.Call (.Attribute o "append" apos) [e] [] cpos) (dBM isL appendD to (dCons te dNil)) :=
  de_bm PySem.F.plainAttrs_list PySem.F.slot_list_append PySem.F.type_list_append dm_append ho (da_cons he da_nil hs) hbase hfew hline hs hplain
theorem de_pop {o : Expr} {to : DTE} {apos cpos : Pos} (ho : DE X o to) (hbase : attributeBase o "pop" X.env (eval o X.env) = eval o X.env := by rfl) (hline : (apos.endLine == cpos.line) = true := by rfl) :
    DE X (.Call (.Attribute o "pop" apos) [] [] cpos) (dBM isL popD to dNil) :=
  de_bm0 PySem.F.plainAttrs_list PySem.F.slot_list_pop PySem.F.type_list_pop dm_pop ho hbase hline
end

/-! ### list comprehensions -/
def wipeD (τ : DSt) : List Nat → DSt
  | [] => τ
  | v :: vs => (wipeD τ vs).set v none
theorem wipeD_length (τ : DSt) : ∀ vs : List Nat, (wipeD τ vs).length = τ.length
  | [] => rfl
  | v :: vs => by unfold wipeD; rw [List.length_set, wipeD_length τ vs]
theorem wipe_at {σ : L2.St} {j : Nat} : ∀ {vs : List Nat}, j ∈ vs → j < σ.length → (wipe σ vs)[j]? = some none
  | [], h, _ => by cases h
  | v :: vs, h, l => by
    unfold wipe
    by_cases e : v = j
    · subst e
      rw [List.getElem?_set_self (by rw [wipe_length]; exact l)]
    · rw [List.getElem?_set_ne e]
      exact wipe_at (List.mem_of_ne_of_mem (fun z => e z.symm) h) l
theorem wipeD_some {τ : DSt} {i : Nat} {d : D} : ∀ {vs : List Nat}, (wipeD τ vs)[i]? = some (some d) → τ[i]? = some (some d) ∧ i ∉ vs
  | [], h => ⟨h, by simp⟩
  | v :: vs, h => by
    unfold wipeD at h
    by_cases e : v = i
    · subst e
      by_cases l : v < (wipeD τ vs).length
      · rw [List.getElem?_set_self l] at h; cases h
      · rw [List.getElem?_eq_none (by simpa using l)] at h; cases h
    · rw [List.getElem?_set_ne e] at h
      obtain ⟨h1, h2⟩ := wipeD_some h
      exact ⟨h1, by simp [h2]; exact fun z => e z.symm⟩
theorem wipe_eq {σ σ2 : L2.St} {vs : List Nat} (hl : σ2.length = σ.length) (h : ∀ j, j ∉ vs → σ2[j]? = (wipe σ vs)[j]?) : wipe σ2 vs = wipe σ vs := by
  apply List.ext_getElem?
  intro j
  by_cases hj : j ∈ vs
  · by_cases l : j < σ.length
    · rw [wipe_at hj l, wipe_at hj (by omega)]
    · rw [List.getElem?_eq_none (by rw [wipe_length]; omega), List.getElem?_eq_none (by rw [wipe_length]; omega)]
  · rw [wipe_out hj]; exact h j hj
theorem RepS.wipe {K : PySem.W.Frag} {H : Hp} {τ : DSt} {σ : L2.St} (r : RepS K H τ σ) (vs : List Nat) : RepS K H (wipeD τ vs) (L2.wipe σ vs) := by
  refine ⟨fun i d e => ?_, by rw [wipeD_length, wipe_length]; exact r.len⟩
  obtain ⟨e1, e2⟩ := wipeD_some e
  rw [wipe_out e2]
  exact r.at_ i d e1
/-- a comprehension's target: what it stores lies in the slots vs -/
structure DGc (K : PySem.W.Frag) (g : TG) (t : DTG) (vs : List Nat) : Prop where
  fit : ∀ (d : D) (v : V) (τ : DSt) (σ : L2.St) (H : Hp) (h : DH) (Q : DSt → DH → Prop), Rep K H d v → RepS K H τ σ → RepH K H h → t d τ h Q →
    g v σ H fun σ' H' => H' = H ∧ (σ'.length = σ.length ∧ ∀ j, j ∉ vs → σ'[j]? = σ[j]?) ∧ ∃ τ' h', RepS K H τ' σ' ∧ RepH K H h' ∧ Q τ' h'
  mono : MonoG t
  gmono : ∀ (v : V) (σ : L2.St) (H : Hp) (Q Q' : L2.St → Hp → Prop), (∀ σ H, Q σ H → Q' σ H) → g v σ H Q → g v σ H Q'
theorem dgc_name {K : PySem.W.Frag} {i : Nat} {vs : List Nat} (hi : i ∈ vs) : DGc K (gName i) (dgName i) vs where
  fit := fun d v τ σ H h Q r rs rh q => ⟨rfl, ⟨by simp, fun j hj => List.getElem?_set_ne (by rintro rfl; exact hj hi)⟩, _, h, rs.set r i, rh, q⟩
  mono := dgName_mono
  gmono := fun v σ H Q Q' k q => k _ _ q
structure DGcs (K : PySem.W.Frag) (g : TGs) (t : DTGs) (vs : List Nat) : Prop where
  fit : ∀ (d : List D) (v : List V) (τ : DSt) (σ : L2.St) (H : Hp) (h : DH) (Q : DSt → DH → Prop), Reps K H d v → RepS K H τ σ → RepH K H h → t d τ h Q →
    g v σ H fun σ' H' => H' = H ∧ (σ'.length = σ.length ∧ ∀ j, j ∉ vs → σ'[j]? = σ[j]?) ∧ ∃ τ' h', RepS K H τ' σ' ∧ RepH K H h' ∧ Q τ' h'
  mono : MonoG t
  gmono : ∀ (v : List V) (σ : L2.St) (H : Hp) (Q Q' : L2.St → Hp → Prop), (∀ σ H, Q σ H → Q' σ H) → g v σ H Q → g v σ H Q'
theorem dgcs_nil {K : PySem.W.Frag} {vs : List Nat} : DGcs K gNil dgNil vs where
  fit := fun d v τ σ H h Q r rs rh ⟨e, q⟩ => by
    subst e
    cases (show _ = _ from r)
    exact ⟨rfl, rfl, ⟨rfl, fun _ _ => rfl⟩, τ, h, rs, rh, q⟩
  mono := fun d τ h Q Q' k q => ⟨q.1, k _ _ q.2⟩
  gmono := fun v σ H Q Q' k q => ⟨q.1, k _ _ q.2⟩
theorem dgcs_cons {K : PySem.W.Frag} {g : TG} {t : DTG} {gs : TGs} {ts : DTGs} {vs : List Nat} (a : DGc K g t vs) (b : DGcs K gs ts vs) : DGcs K (gCons g gs) (dgCons t ts) vs where
  fit := fun d v τ σ H h Q r rs rh ⟨x, ds, e, q⟩ => by
    subst e
    obtain ⟨y, ys, rfl, r1, r2⟩ := r
    refine ⟨y, ys, rfl, a.gmono _ _ _ _ _ (fun σ1 H1 q => ?_) (a.fit _ _ _ _ _ _ _ r1 rs rh q)⟩
    obtain ⟨rfl, ⟨l1, f1⟩, τ1, h1, rs1, rh1, q⟩ := q
    refine b.gmono _ _ _ _ _ (fun σ2 H2 q => ?_) (b.fit _ _ _ _ _ _ _ r2 rs1 rh1 q)
    obtain ⟨rfl, ⟨l2, f2⟩, τ2, h2, rs2, rh2, q⟩ := q
    exact ⟨rfl, ⟨l2.trans l1, fun j hj => (f2 j hj).trans (f1 j hj)⟩, τ2, h2, rs2, rh2, q⟩
  mono := fun d τ h Q Q' k ⟨x, r, e, q⟩ => ⟨x, r, e, a.mono _ _ _ _ _ (fun τ h q => b.mono _ _ _ _ _ k q) q⟩
  gmono := fun v σ H Q Q' k ⟨x, r, e, q⟩ => ⟨x, r, e, a.gmono _ _ _ _ _ (fun σ H q => b.gmono _ _ _ _ _ k q) q⟩
theorem dgc_tup {K : PySem.W.Frag} {gs : TGs} {ts : DTGs} {vs : List Nat} {n : Nat} (b : DGcs K gs ts vs) : DGc K (gTup K n gs) (dgTup n ts) vs where
  fit := fun d v τ σ H h Q r rs rh ⟨ds, e, l, q⟩ => by
    subst e
    obtain ⟨a, xs, rfl, s, r⟩ := r
    exact ⟨a, xs, rfl, s, by rw [r.length]; exact l, b.fit _ _ _ _ _ _ _ r rs rh q⟩
  mono := fun d τ h Q Q' k ⟨ds, e, l, q⟩ => ⟨ds, e, l, b.mono _ _ _ _ _ k q⟩
  gmono := fun v σ H Q Q' k ⟨a, xs, e, s, l, q⟩ => ⟨a, xs, e, s, l, b.gmono _ _ _ _ _ k q⟩
structure DTs (X : Cx) (ifs : List Expr) (t : DTT) : Prop where
  run : PTs X ifs (LT X.K t)
  mono : Mono t
def dYes : DTT := fun _ h Q => Q true h
theorem dts_nil {X : Cx} : DTs X [] dYes := by
  refine ⟨⟨fun pins s σ H Q I q => pts_nil.run pins s σ H Q I ?_⟩, fun τ h Q Q' k q => k _ _ q⟩
  obtain ⟨τ, h, rs, rh, q⟩ := q
  exact q H rh (.refl H)
theorem dts_one {X : Cx} {c : Expr} {t : DTT} (h : DT X c t) : DTs X [c] t := ⟨pts_one h.run, h.mono⟩
def dLc (wi : DTI) (t : DTG) (tt : DTT) (te : DTE) (vs : List Nat) : DTE := fun τ h Q => wi τ h fun items st h1 => ∀ p, h1 p = none → ∃ Pv : Nat → DH → Prop, Pv 0 (updD h1 p (.lst [])) ∧ (∀ i h, Pv i h → st h) ∧
  (∀ i d h, items[i]? = some d → Pv i h → t d (wipeD τ vs) h fun τ2 h2 => tt τ2 h2 fun b h3 => if b = true then te τ2 h3 fun y h4 => ∃ acc, h4 p = some (.lst acc) ∧ acc.length < sizeLine ∧ Pv (i + 1) (updD h4 p (.lst (acc ++ [y]))) else Pv (i + 1) h3) ∧
  ∀ h, Pv items.length h → Q (.ref p) h
section
variable {X : Cx} {W : WX} {wi : DTI} {g : TG} {t : DTG} {tt : DTT} {te : DTE} {vs : List Nat}
theorem dLc_mono (mi : MonoI wi) : Mono (dLc wi t tt te vs) := fun τ h Q Q' k q => mi _ _ _ _ (fun items st h1 q p n => let ⟨Pv, a, b, c, e⟩ := q p n; ⟨Pv, a, b, c, fun h p => k _ _ (e h p)⟩) q
theorem dLc_lift {K : PySem.W.Frag} (mi : MonoI wi) (hg : DGc K g t vs) (mt : Mono tt) (me : Mono te) {σ : L2.St} {H : Hp} {Q : VK} (q : LE K (dLc wi t tt te vs) σ H Q) : tLc (LI K wi) g (LT K tt) (LE K te) vs σ H Q := by
  obtain ⟨τ, h, rs, rh, q⟩ := q
  refine ⟨τ, h, rs, rh, mi _ _ _ _ (fun items st h1 q J H1 it rh1 k1 D nD => ?_) q⟩
  obtain ⟨Pv, p0, pst, step, pend⟩ := q D (rh1.free nD)
  refine ⟨fun i m H => m = items.length - i ∧ i ≤ items.length ∧ ∃ h, RepH K H h ∧ TK H1 H ∧ Pv i h, ⟨_, rfl, Nat.zero_le _, _, rh1.new (u := .lst []) nD ⟨[], upd_same, rfl⟩, .new nD, p0⟩, ?_⟩
  rintro i m H' ⟨rfl, hi', h', rh', k', p⟩
  by_cases hlt : i < items.length
  · refine .inr ⟨it.go i H' h' hlt k' rh' (pst _ _ p), fun H' => i + 1 ≤ items.length ∧ ∃ h, RepH K H' h ∧ TK H1 H' ∧ Pv (i + 1) h, fun H2 ⟨l, q⟩ => ⟨items.length - (i + 1), by omega, rfl, l, q⟩, fun x H2 y => ?_⟩
    have ed : items[i]? = some items[i] := List.getElem?_eq_getElem hlt
    obtain ⟨r2, rh2, k2⟩ := it.yld i H' h' x H2 _ ed k' rh' (pst _ _ p) y
    have kk : TK H1 H2 := k'.trans k2
    refine hg.gmono _ _ _ _ _ (fun σ3 H3 q3 => ?_) (hg.fit _ _ _ _ _ _ _ r2 ((rs.tk (k1.trans kk)).wipe vs) rh2 (step i _ h' ed p))
    obtain ⟨rfl, ⟨l3, f3⟩, τ3, h3, rs3, rh3, q3⟩ := q3
    refine ⟨wipe_eq (by rw [l3, wipe_length]) f3, LT.of mt rs3 rh3 q3 fun b h4 H4 q4 rh4 k4 => ?_⟩
    cases b with
    | true =>
      refine LE.of me (rs3.tk k4) rh4 q4 fun d h5 v H5 ⟨acc, e5, l5, q5⟩ r5 rh5 k5 => ?_
      obtain ⟨xs, ea, pa⟩ := rh5.lst e5
      have m := mut_lst ea
      exact ⟨xs, ea, by rw [pa.length]; exact l5, hlt, _, rh5.mut (u := .lst (acc ++ [d])) m ⟨_, upd_same, Reps.tk (.mut m) (pa.append (.cons r5 .nil))⟩, (kk.trans (k4.trans k5)).trans (.mut m), q5⟩
    | false => exact ⟨hlt, h4, rh4, kk.trans k4, q4⟩
  · have e : i = items.length := by omega
    subst e
    exact .inl ⟨it.stop H' h' k' rh' (pst _ _ p), pend h' p (.ref D) H' rfl rh' (k1.trans k')⟩
theorem de_lc {elt tg iter : Expr} {ifs : List Expr} {scope : Scope} {own : List (Str × Nat)} {pos : Pos} (hc : X.calm = true) (hN : X.N.Nodup) (hi : DI X tg iter wi) (ok : BlkOk X.N X.env.scope scope own)
    (hg : ∀ (s : Shared) (H : Hp) (C : Addr) (cl : List (Str × Addr)) (fp : List Addr), PG (X.blk s H scope (compEnvC scope cl C X.env) fp) tg g) (hgc : DGc X.K g t (own.map (·.2)))
    (ht : ∀ (s : Shared) (H : Hp) (C : Addr) (cl : List (Str × Addr)) (fp : List Addr), DTs (X.blk s H scope (compEnvC scope cl C X.env) fp) ifs tt)
    (he : ∀ (s : Shared) (H : Hp) (C : Addr) (cl : List (Str × Addr)) (fp : List Addr), DE (X.blk s H scope (compEnvC scope cl C X.env) fp) elt te) (hs : ∀ x, foldedSetIterable iter X.env x = pure x := by intro _; rfl) :
    DE X (.ListComp elt [⟨tg, iter, ifs, 0⟩] scope pos) (dLc wi t tt te (own.map (·.2))) :=
  ⟨(pe_lc (tt := LT X.K tt) (te := LE X.K te) hc hN hi.run ok hg (fun s H C cl fp => (ht s H C cl fp).run) (fun s H C cl fp => (he s H C cl fp).run) hs).wk fun _ _ _ q => dLc_lift hi.mono hgc (ht X.s_0 X.H_0 0 [] []).mono (he X.s_0 X.H_0 0 [] []).mono q, dLc_mono hi.mono⟩
theorem ds_setLc {i : Nat} {y : Str} {py : Pos} {elt tg iter : Expr} {ifs : List Expr} {scope : Scope} {own : List (Str × Nat)} {pos spos : Pos} (hc : X.calm = true) (hN : X.N.Nodup) (hy : X.N[i]? = some y) (hyl : X.env.scope.names.lookup y = some .local)
    (hsw : swapsWith (.ListComp elt [⟨tg, iter, ifs, 0⟩] scope pos) (some (.Name y py)) spos.line X.env = pure true) (hi : DI X tg iter wi) (ok : BlkOk X.N X.env.scope scope own)
    (hg : ∀ (s : Shared) (H : Hp) (C : Addr) (cl : List (Str × Addr)) (fp : List Addr), PG (X.blk s H scope (compEnvC scope cl C X.env) fp) tg g) (hgc : DGc X.K g t (own.map (·.2)))
    (ht : ∀ (s : Shared) (H : Hp) (C : Addr) (cl : List (Str × Addr)) (fp : List Addr), DTs (X.blk s H scope (compEnvC scope cl C X.env) fp) ifs tt)
    (he : ∀ (s : Shared) (H : Hp) (C : Addr) (cl : List (Str × Addr)) (fp : List Addr), DE (X.blk s H scope (compEnvC scope cl C X.env) fp) elt te) (hs : ∀ x, foldedSetIterable iter X.env x = pure x := by intro _; rfl) :
    DS X W (.Assign [.Name y py] (.ListComp elt [⟨tg, iter, ifs, 0⟩] scope pos) spos) (dAsg (dLc wi t tt te (own.map (·.2))) (dgName i)) := by
  refine ⟨(ps_setLc (tt := LT X.K tt) (te := LE X.K te) hc hN hy hyl hsw hi.run ok hg (fun s H C cl fp => (ht s H C cl fp).run) (fun s H C cl fp => (he s H C cl fp).run) hs).wk fun E σ H q => ?_, dAsg_mono (dLc_mono hi.mono) dgName_mono⟩
  refine dLc_lift hi.mono hgc (ht X.s_0 X.H_0 0 [] []).mono (he X.s_0 X.H_0 0 [] []).mono ?_
  obtain ⟨τ, h, rs, rh, q⟩ := q
  exact LE.of (dLc_mono hi.mono) rs rh q fun d h1 v H1 q1 r1 rh1 k1 => q1 _ _ ((rs.tk k1).set r1 i) rh1 k1
end

/-! ### defs -/
/-- a def's promise over D: arguments, heap, what is wanted, what is wanted of an exception -/
abbrev SpD := List D → DH → DK → DXK → Prop
def ClF (K : PySem.W.Frag) (H : Hp) (E : XK) : DXK := fun C d h => ∀ H', RepH K H' h → TK H H' → E (.ref (He.ga K C)) d H'
def LSp (K : PySem.W.Frag) (sp : SpD) : Sp := fun vs H Q E => ∃ ds h, Reps K H ds vs ∧ RepH K H h ∧ sp ds h (Cl K H Q) (ClF K H E)
def MonoSp (sp : SpD) : Prop := ∀ ds h Q Q' E, (∀ d h', Q d h' → Q' d h') → sp ds h Q E → sp ds h Q' E
def noX : DXK := fun _ _ _ => False
/-- nothing is let out -/
def WN : WX := fun _ _ _ _ => False
def dCall (sp : SpD) (dds : List D) (t : DTA) : DTE := fun τ h Q => t τ h fun ds h1 => ∀ E, sp (ds ++ dds) h1 Q E
section
variable {X : Cx} {CX : CXT} {k : Nat} {f C : Addr} {fd : FuncData} {ps : List Str} {sp : SpD} {dvs : List V} {dds : List D} {ds : List Value} {E : XK} {x m : Str} {p pos apos : Pos} {e o : Expr} {es : List Expr} {ta : DTE} {t : DTA}
/-- f(..), f lets nothing out -/
theorem de_call (F : FnOk X.prog X.w X.K X.mg X.base CX0 k f fd ps (LSp X.K sp)) (ms : MonoSp sp) (hr : Room k X.A) (hg : Gl X x) (hm : X.mg x = some (.ref f)) (hk : PySem.W.keepIn X.K (.ref f) = true) (hb : Binds X.K fd ps ds) (hd : Vals dvs ds) (hdd : ∀ H, Reps X.K H dds dvs)
    (ha : DA X (e :: es) t) (hdb : (x == ("__debug__" : Str)) = false := by decide) (he : starEach (e :: es) X.env = (false, eval e X.env) :: starEach es X.env := by rfl) (hpl : (backTo pos (starEach es X.env)).any (·.1) = false := by rfl) :
    DE X (.Call (.Name x p) (e :: es) [] pos) (dCall sp dds t) := by
  refine ⟨(pe_call (E := E0) F hr hg hm hk hb hd pass0 ha.run hdb he hpl).wk fun σ H Q q => ?_, fun τ h Q Q' k q => ha.mono _ _ _ _ (fun ds h1 q E => ms _ _ _ _ _ k (q E)) q⟩
  obtain ⟨τ, h, rs, rh, q⟩ := q
  exact LA.of ha.mono rs rh q fun ds h1 vs H1 q1 r1 rh1 k1 => ⟨_, h1, r1.append (hdd H1), rh1, ms _ _ _ _ _ (fun _ _ c => c.tk k1) (q1 _)⟩
theorem de_call0 (F : FnOk X.prog X.w X.K X.mg X.base CX0 k f fd ps (LSp X.K sp)) (ms : MonoSp sp) (hr : Room k X.A) (hg : Gl X x) (hm : X.mg x = some (.ref f)) (hk : PySem.W.keepIn X.K (.ref f) = true) (hb : Binds X.K fd ps ds) (hd : Vals dvs ds) (hdd : ∀ H, Reps X.K H dds dvs)
    (hdb : (x == ("__debug__" : Str)) = false := by decide) : DE X (.Call (.Name x p) [] [] pos) (dCall sp dds dNil) := by
  refine ⟨(pe_call0 (E := E0) F hr hg hm hk hb hd pass0 hdb).wk fun σ H Q q => ?_, fun τ h Q Q' k q E => ms _ _ _ _ _ k (q E)⟩
  obtain ⟨τ, h, rs, rh, q⟩ := q
  exact ⟨_, h, hdd H, rh, q _⟩
end
def dstart (N : List Str) (ds : List D) : DSt := ds.map some ++ List.replicate (N.length - ds.length) none
theorem RepS.start {K : PySem.W.Frag} {H : Hp} {N : List Str} {ds : List D} {vs : List V} (r : Reps K H ds vs) : RepS K H (dstart N ds) (L2.start N vs) := by
  have l := r.length
  refine ⟨fun i d e => ?_, by unfold dstart L2.start; simp [l]⟩
  unfold dstart at e
  by_cases hi : i < ds.length
  · rw [List.getElem?_append_left (by simpa using hi), List.getElem?_map] at e
    cases q : ds[i]? with
    | none => rw [q] at e; cases e
    | some d' =>
      rw [q] at e
      cases e
      obtain ⟨v, ev, rv⟩ := r.get q
      refine ⟨v, ?_, rv⟩
      unfold L2.start
      rw [List.getElem?_append_left (by simpa [l] using hi), List.getElem?_map, ev]
      rfl
  · rw [List.getElem?_append_right (by simpa using hi), List.getElem?_replicate] at e
    split at e <;> cases e
section
variable {P : Program} {w : World} {K : PySem.W.Frag} {mg : Str → Option Value} {base : Heap} {x qual : Str} {params : Arguments} {body : List Stmt} {scope : Scope} {dvs : List V} {kws : List (Str × V)} {f : Addr} {fd : FuncData}
/-- a def that lets nothing out keeps its promise -/
theorem FunD.okD {N ps : List Str} {k : Nat} {sp : SpD} (F : FunD K x qual params body scope dvs kws f fd) (S : FnScope N ps scope) (len : ∀ ds h Q E, sp ds h Q E → ds.length = ps.length)
    (hb : ∀ (cdv : Value) (A : Around) (outer : List Env) (s : Shared) (H : Hp) (E : XK), Room k (A.deeper (envOfC qual scope s.heap.objs.size f cdv)) →
      ∃ t, DSs (cxOf CX0 P w K mg base N qual scope f cdv A outer s H E).nox WN body t ∧ ∀ ds h Q Ed, Up Q → sp ds h Q Ed → t { nx := fun _ h' => Q .non h', rt := Q } (dstart N ds) h) : FnOk P w K mg base CX0 (k + 1) f fd ps (LSp K sp) := by
  refine F.ok S (fun vs H Q E ⟨ds, h, r, rh, q⟩ => by rw [r.length]; exact len _ _ _ _ q) fun cdv A outer s H vs Q E hr hsp => ?_
  obtain ⟨t, ht, q⟩ := hb cdv A outer s H E hr
  obtain ⟨ds, h, r, rh, hs⟩ := hsp
  refine ⟨_, PSs.nox ht.run, dstart N ds, h, .start r, rh, ht.mono _ _ _ _ ?_ (q ds h _ _ Cl.up hs)⟩
  exact ⟨fun τ h q σ' H' rs rh k => q .non H' rfl rh k, fun d h q v H' r rh k => q v H' r rh k, fun _ _ z => z.elim, fun _ _ z => z.elim, fun _ _ _ _ z => z.elim⟩
end
end DL

/-! DEnd: a law's end. -/
namespace DL
open PySem PySem.Spec PyProof.Rows L2

/-- a law's promise: a script comes in, True comes out -/
def spLaw : SpD := fun ds h Q _ => ∃ ns : List Int, ds = [.lsv (ns.map .int)] ∧ ns.length ≤ 63 ∧ (∀ z ∈ ns, Builtin.Int.intBits z ≤ 1048576) ∧ ∀ h', Q (.bl true) h'
theorem reps_ints {K : PySem.W.Frag} {H : Hp} : ∀ ns : List Int, Reps K H (ns.map D.int) (ns.map V.int)
  | [] => rfl
  | n :: ns => ⟨_, _, rfl, rfl, reps_ints ns⟩
theorem lsK_of {K : PySem.W.Frag} {H : Hp} {a : Addr} {xs : List V} (o : Only H) (h : SqL K H a xs) : LsK K H a xs := by
  rcases h with (h | ⟨ob, h⟩) | h
  · rcases o a with e | ⟨ob, ys, e⟩
    · rw [e] at h; cases h
    · rw [e] at h; cases h
  · exact .inl ⟨ob, h⟩
  · exact .inr h
theorem law_in {K : PySem.W.Frag} {H : Hp} {a : Addr} {ns : List Int} (hl : ns.length ≤ 63) (hb : ∀ z ∈ ns, Builtin.Int.intBits z ≤ 1048576) (o : Only H) (h : SqL K H a (ns.map V.int)) :
    LSp K spLaw [.ref a] H (fun v _ => v = .bl true) fun _ _ _ => False :=
  ⟨[.lsv (ns.map .int)], fun _ => none, ⟨_, _, rfl, ⟨a, _, rfl, lsK_of o h, reps_ints ns⟩, rfl⟩, (fun _ _ e => nomatch e), ns, rfl, hl, hb, fun h' v H' r _ _ => r⟩
theorem walk_ofEB {l : PySem.W.OpenLaw} {k : Nat} {q : Program} {loose : List Str} {XP : (Str → Option Value) → Heap → Prop} {YP : World → Heap → Prop} {d : DefRec} {x : Str}
    (hn : l.most = some 63) (hdf : d.params.defaults = []) (hr : Room k callerA)
    (F : ∀ (w : World) (mg : Str → Option Value) (fa : Addr) (h : Heap), YP w h → h.Ns mainGlobals mg → mg d.name = some (.ref fa) →
      ∃ (K : PySem.W.Frag) (fd : FuncData), K.In h ∧ (∀ (s : Shared) (u : Value), BindsTo s fd ⟨[u], []⟩ [(x, u)]) ∧
        ∀ base : Heap, K.In base → base.Ns mainGlobals mg → FnOk l.prog w K mg base CX0 k fa fd [x] (LSp K spLaw)) :
    PySem.W.WalkO q loose XP YP l.row.toRowW d [] (fun f vs => PySem.call f vs) := by
  refine Att.attach_callB hn hdf fun w s₀ s₁ mg mb fa o pm cd doc a vs ns G Y ho hd hcd hmg hobj hints hlen hbits hg => ?_
  obtain ⟨K, fd, KX, hb, hF⟩ := F w mg fa _ Y G.T.g hmg
  exact law_call KX G.T.g G.T.b G.T.builtins G.T.nolimit hg hobj hints (Nat.le_trans hlen (by decide)) hr hF hb (fun H hO hS => law_in hlen hbits hO hS) fun H e s' z => z
end DL

/-! DRev: list(reversed(a list)). -/
namespace DL
open PySem PySem.Spec PyProof.Rows L2 RT
section
variable {prog : Program} {w : World} {A : Around} {E : Value → Shared → Prop} {s : Shared}
theorem extend_rev {R : Result → Shared → Prop} {it l : Addr} {items : Array Value} (hh : A.handled = none) (hit : s.heap.IsRevIter it l ((items.size : Int) - 1)) (hl : s.heap.IsList l items) (hne : l ≠ it) (hn : items.size ≤ sizeLine)
    (S : Addr) (res : Value) (c₀ : Nat) (hS : s.heap.get? S = some { cls := .type "list", data := .seq #[] c₀ }) (hSi : S ≠ it) (hSl : S ≠ l)
    (hR : ∀ h' tk acc' c', (∀ b o, b ≠ S → b ≠ it → s.heap.get? b = some o → h'.get? b = some o) → h'.get? S = some { cls := .type "list", dict := none, data := .seq acc' c', slots := #[] } →
      ItemsOf (fun i v => items[items.size - 1 - i]? = some v) acc' items.size → R (.ok (.ret res)) { s with heap := h', toks := tk }) :
    wpAny (model prog w) A.in1 (Builtin.List.listExtendWith (.ref S) (.ref it) res)
      (fun fin s' => match fin with | .done f => R (.ok f) s' | .again c' => c'.quiet = true ∧ codeAny (model prog w) A c' R s') (fun e s' => R (.error e) s') s := by
  have W := (Walks.listRev (prog := prog) (w := w) (A := A.in1) hh it l hne items).toS
  have hSf : S ∉ [it, l] := by simp only [List.mem_cons, List.not_mem_nil, or_false, not_or]; exact ⟨hSi, hSl⟩
  have hT : s.TypeIs (.ref it) "list_reverseiterator" := hit.typeIs
  have h1 : Builtin.List.listSameRef (.ref S) (.ref it) = false := by simp [Builtin.List.listSameRef, hSi]
  unfold Builtin.List.listExtendWith
  refine wpAny_bind (wpAny_typeOf hT ?_)
  rw [if_neg (by rw [h1]; decide)]
  refine wpAny_bind (wpAny_pyIter_revIter hit ?_)
  refine wpAny_bind (wpAny_holding ?_)
  unfold Builtin.List.listLengthHint
  refine wpAny_bind (wpAny_specialOf hT nolen_lri ?_)
  show wpAny _ A.in1 (specialOf (Value.ref it) (Str.ofString "__length_hint__") >>= _) _ _ _
  refine wpAny_bind (wpAny_specialOf hT hint_lri ?_)
  generalize hid : ("list_reverseiterator.__length_hint__" : String) = id0
  wp_delta
  rw [show splitId id0 = some ("list_reverseiterator", "__length_hint__") from by subst hid; decide +kernel]
  subst hid
  refine wpAny_bind (wpAny_isInstance (b := true) hT (by rw [isSubtype_type]; kernel_rfl) ?_)
  refine wpAny_pure ?_
  rw [if_neg (by decide)]
  have e0 : ((items.size : Nat) : Int) - 1 - ((0 : Nat) : Int) = (items.size : Int) - 1 := by omega
  refine wpAny_pure ⟨plainId_quiet F.plain_extend_loop _, codeAny_extend_loopS W hn _ hSf _ items.size 0 _ _ _ rfl (Nat.zero_le _) ⟨Nat.zero_le _, by rw [e0]; exact hit, hl⟩ hS (ItemsOf.nil _) fun s' acc' c' hm hS' hacc => ?_⟩
  rw [Moved.eq_with hm]
  refine hR s'.heap s'.toks acc' c' (fun b o hb hi e => hm.heap b o (fun hmem => ?_) e) hS' hacc
  rcases List.mem_cons.mp hmem with e' | hmem
  · exact hb e'
  · exact hi (List.mem_singleton.mp hmem)
theorem list_init_rev {R : Result → Shared → Prop} {it l : Addr} {items : Array Value} (hh : A.handled = none) (hit : s.heap.IsRevIter it l ((items.size : Int) - 1)) (hl : s.heap.IsList l items) (hne : l ≠ it) (hn : items.size ≤ sizeLine)
    (S : Addr) (hS : s.heap.get? S = some { cls := .type "list", data := .seq #[] }) (hSi : S ≠ it) (hSl : S ≠ l)
    (hR : ∀ h' tk acc' c', (∀ b o, b ≠ S → b ≠ it → s.heap.get? b = some o → h'.get? b = some o) → h'.get? S = some { cls := .type "list", dict := none, data := .seq acc' c', slots := #[] } →
      ItemsOf (fun i v => items[items.size - 1 - i]? = some v) acc' items.size → R (.ok (.ret .none)) { s with heap := h', toks := tk }) :
    wpAny (model prog w) A.in1 (Builtin.«list.__init__» ⟨[.ref S, .ref it], []⟩)
      (fun fin s' => match fin with | .done f => R (.ok f) s' | .again c' => c'.quiet = true ∧ codeAny (model prog w) A c' R s') (fun e s' => R (.error e) s') s := by
  show wpAny _ _ (do let old ← Builtin.List.listItems (.ref S); Builtin.List.listUpdate (.ref S) (fun _ => #[]); letGo old.toList.reverse; Builtin.List.listExtendWith (.ref S) (.ref it) .none) _ _ s
  refine wpAny_bind ?_
  unfold Builtin.List.listItems
  refine wpAny_bind (wpAny_seqItems hS rfl (wpAny_pure ?_))
  show wpAny _ _ (updateSeq S (fun _ => #[]) >>= fun _ => letGo (#[] : Array Value).toList.reverse >>= fun _ => Builtin.List.listExtendWith (.ref S) (.ref it) .none) _ _ s
  refine wpAny_bind (wpAny_updateSeq hS rfl ?_)
  have hS₂ := Heap.get?_update_self (Obj.mapSeq (fun _ => (#[] : Array Value))) hS rfl
  have oth : ∀ b o, b ≠ S → s.heap.get? b = some o → (s.heap.update S (Obj.mapSeq (fun _ => (#[] : Array Value)))).get? b = some o :=
    fun b o hb e => (Heap.get?_update_other _ _ (Ne.symm hb)).trans e
  refine wpAny_bind (wpAny_letGo ?_)
  refine extend_rev (s := { s with heap := s.heap.update S (Obj.mapSeq (fun _ => (#[] : Array Value))) }) hh (hit.at fun o e => oth it o (Ne.symm hSi) e) ?_ hne hn S .none _ hS₂ hSi hSl fun h' tk acc' c' hk hS' hacc => ?_
  · obtain ⟨o, e, r⟩ := hl
    exact ⟨o, oth l o (Ne.symm hSl) e, r⟩
  · exact hR h' tk acc' c' (fun b o hb hi e => hk b o hb hi (oth b o hb e)) hS' hacc
theorem call_list_rev {Q : Value → Shared → Prop} {it l : Addr} {items : Array Value} (hh : A.handled = none) (hit : s.heap.IsRevIter it l ((items.size : Int) - 1)) (hl : s.heap.IsList l items) (hne : l ≠ it) (hn : items.size ≤ sizeLine)
    (hQ : ∀ h' tk acc' c', (∀ b o, b ≠ it → s.heap.get? b = some o → h'.get? b = some o) →
      h'.get? s.heap.objs.size = some { cls := .type "list", dict := none, data := .seq acc' c', slots := #[] } → ItemsOf (fun i v => items[items.size - 1 - i]? = some v) acc' items.size → Q (.ref s.heap.objs.size) { s with heap := h', toks := tk }) :
    wpAny (model prog w) A (call (.type "list") [.ref it]) Q E s := by
  refine callType_codes (Q₁ := fun obj s₁ => obj = .ref s.heap.objs.size ∧ s₁ = { s with heap := s.heap.push { cls := .type "list", data := .seq #[] } }) F.called_list (F.typeCall_list_1 _) F.entry_list_init
    (code_list_new _ ⟨rfl, rfl⟩) fun obj s₁ h₁ => ?_
  obtain ⟨rfl, rfl⟩ := h₁
  have hS : (s.heap.push { cls := .type "list", data := .seq #[] }).get? s.heap.objs.size = some { cls := .type "list", data := .seq #[] } := Heap.get?_push_size _ rfl
  obtain ⟨oi, hoi, _⟩ := id hit
  obtain ⟨ol, hol, _⟩ := id hl
  have hSi : s.heap.objs.size ≠ it := Nat.ne_of_gt (Heap.lt_size hoi)
  have hSl : s.heap.objs.size ≠ l := Nat.ne_of_gt (Heap.lt_size hol)
  refine ⟨⟨_, hS, rfl⟩, F.args_list_init_2 _ _, list_init_rev (A := A.in1) hh (hit.at fun o e => Heap.get?_push_of_some _ e) (hl.push _) hne hn _ hS hSi hSl fun h' tk acc' c' hk hS' hacc => ?_⟩
  exact ⟨rfl, hQ h' tk acc' c' (fun b o hb e => hk b o (Nat.ne_of_lt (Heap.lt_size e)) hb (Heap.get?_push_of_some _ e)) hS' hacc⟩
end
/-- list(reversed(x)), x a list: a new list -/
def tLstRev (K : PySem.W.Frag) (te : TE) : TE := fun σ H Q => te σ H fun v H1 => ∃ (a : Addr) (xs : List V), v = .ref a ∧ SqL K H1 a xs ∧ ∀ q, H1 q = none → Q (.ref q) (upd H1 q (.lst xs.reverse))
section
variable {X : Cx}
theorem pe_lstRev {e : Expr} {te : TE} {p p2 pos pos2 : Pos} (hc : X.calm = true) (hg : Gl X "list") (hm : X.mg "list" = none) (hg2 : Gl X "reversed") (hm2 : X.mg "reversed" = none) (he : PE X e te)
    (hs : starEach [e] X.env = (false, eval e X.env) :: starEach [] X.env := by rfl)
    (hs2 : starEach [.Call (.Name "reversed" p2) [e] [] pos2] X.env = (false, eval (.Call (.Name "reversed" p2) [e] [] pos2) X.env) :: starEach [] X.env := by rfl) :
    PE X (.Call (.Name "list" p) [.Call (.Name "reversed" p2) [e] [] pos2] [] pos) (tLstRev X.K te) := by
  refine ⟨fun pins s σ H Q I h => ?_⟩
  refine Call_ (ld_blt I hg hm boot_list (PyProof.Rows.callWith_type1 (args_cons (Call_ (ld_blt I hg2 hm2 PyProof.Rows.boot_reversed (PyProof.Rows.callWith_type1 (args_cons (thn (he.run pins s σ H _ I h) fun u s1 ⟨v, H1, I1, r1, q1⟩ => args_nil ?_) hs) hs rfl))) hs2) hs2 rfl))
  obtain ⟨a, xs, ev, hq, q⟩ := q1
  subst ev
  obtain rfl : u = Value.ref a := r1
  obtain ⟨its, rv, p', hz⟩ := I1.list hq
  refine call_reversed_list p'.isList (args_nil ?_)
  have k0 : ∀ b o, s1.heap.get? b = some o → (s1.heap.push (revObj a ((its.toArray.size : Int) - 1))).get? b = some o := fun b o e => Heap.get?_push_of_some _ e
  have I2 : Inv X pins σ H1 { s1 with heap := s1.heap.push (revObj a ((its.toArray.size : Int) - 1)) } := I1.kept (t' := s1.toks) k0
  obtain ⟨f0, f1, f2, f3, f4, f5⟩ := I1.fpOk (H' := H1) (b := s1.heap.objs.size) (Nat.le_refl _) (I1.hok.fresh (Nat.le_refl _))
  have hl := p'.isList
  obtain ⟨ol, hol, _⟩ := id hl
  have hne : a ≠ s1.heap.objs.size := Nat.ne_of_lt (Heap.lt_size hol)
  have hn : its.toArray.size ≤ sizeLine := by rw [List.size_toArray, ← rv.length]; exact hz
  have hnew : H1 (s1.heap.push (revObj a ((its.toArray.size : Int) - 1))).objs.size = none := I2.hok.fresh (Nat.le_refl _)
  have hlt : s1.heap.objs.size ≠ (s1.heap.push (revObj a ((its.toArray.size : Int) - 1))).objs.size := by
    have : s1.heap.objs.size < (s1.heap.push (revObj a ((its.toArray.size : Int) - 1))).objs.size := Heap.lt_size (Heap.get?_push_size _ rfl : (s1.heap.push (revObj a ((its.toArray.size : Int) - 1))).get? s1.heap.objs.size = some _)
    exact Nat.ne_of_lt this
  refine call_list_rev (s := { s1 with heap := s1.heap.push (revObj a ((its.toArray.size : Int) - 1)) }) (I1.ok.hd hc) ⟨_, Heap.get?_push_size _ rfl, rfl, rfl⟩ (hl.push _) hne hn fun h' tk acc c' hk hS hi => ?_
  have ltS : s1.heap.objs.size < (s1.heap.push (revObj a ((its.toArray.size : Int) - 1))).objs.size := Heap.lt_size (Heap.get?_push_size _ rfl : (s1.heap.push (revObj a ((its.toArray.size : Int) - 1))).get? s1.heap.objs.size = some _)
  refine ⟨.ref (s1.heap.push (revObj a ((its.toArray.size : Int) - 1))).objs.size, upd H1 (s1.heap.push (revObj a ((its.toArray.size : Int) - 1))).objs.size (.lst xs.reverse), I1.laid (t' := tk) (fun b o e => hk b o (Nat.ne_of_lt (Heap.lt_size e)) (k0 b o e)) (Nat.le_of_lt ltS)
    (show ObjOk X.prog X.w _ _ _ (.lst xs.reverse) from ⟨by rw [List.length_reverse]; exact hz, acc.toList, c', vals_rev rv hi, ?_⟩), rfl, q _ hnew⟩
  rw [Array.toArray_toList]
  exact hS
end
def dLstRev (te : DTE) : DTE := fun τ h Q => te τ h fun x h1 => ∃ a ds, x = .ref a ∧ h1 a = some (.lst ds) ∧ ∀ p, h1 p = none → Q (.ref p) (updD h1 p (.lst ds.reverse))
theorem de_lstRev {X : Cx} {e : Expr} {te : DTE} {p p2 pos pos2 : Pos} (hc : X.calm = true) (hg : Gl X "list") (hm : X.mg "list" = none) (hg2 : Gl X "reversed") (hm2 : X.mg "reversed" = none) (he : DE X e te)
    (hs : starEach [e] X.env = (false, eval e X.env) :: starEach [] X.env := by rfl)
    (hs2 : starEach [.Call (.Name "reversed" p2) [e] [] pos2] X.env = (false, eval (.Call (.Name "reversed" p2) [e] [] pos2) X.env) :: starEach [] X.env := by rfl) :
    DE X (.Call (.Name "list" p) [.Call (.Name "reversed" p2) [e] [] pos2] [] pos) (dLstRev te) := by
  refine ⟨(pe_lstRev hc hg hm hg2 hm2 he.run hs hs2).wk fun σ H Q q => ?_, fun τ h Q Q' k q => he.mono _ _ _ _ (fun x h1 ⟨a, ds, e1, e2, q⟩ => ⟨a, ds, e1, e2, fun p n => k _ _ (q p n)⟩) q⟩
  obtain ⟨τ, h, rs, rh, q⟩ := q
  refine LE.of he.mono rs rh q fun d h1 v H1 ⟨a, ds, e1, e2, q⟩ r1 rh1 k1 => ?_
  subst e1
  cases rep_ref r1
  obtain ⟨xs, ea, p⟩ := rh1.lst e2
  exact ⟨a, xs, rfl, .of ea, fun p' n => Cl.newL rh1 p.reverse n ((q p' (rh1.free n)).tk k1)⟩
/-! ### powers of written numbers -/
def powD (x y : D) (h : DH) (Q : DK) : Prop := match x, y with
  | .int i, .int j => CPow i j ∧ Q (.int (i ^ j.toNat)) h
  | _, _ => False
theorem dop_pow {X : Cx} : DOp X (binaryOp .Pow) powD := by
  refine .of op_pow (fun H x y dx dy h Q r1 r2 rh q => ?_) (fun x y h Q Q' k q => ?_)
  · cases dx <;> cases dy <;> first | exact False.elim q | skip
    cases rep_int r1; cases rep_int r2
    exact ⟨_, _, rfl, rfl, q.1, Cl.same q.2 rh rfl⟩
  · cases x <;> cases y <;> first | exact False.elim q | exact ⟨q.1, k _ _ q.2⟩
/-! ### what a law's text has -/
theorem u65 {k : Nat} {A : Around} (r : Room k A) : A.units + 65 < cLine := by have := r.un; omega
/-- a def of the top, called by its name with all its parameters written: it keeps the promise sp at level k -/
structure Has (P : Program) (w : World) (K : PySem.W.Frag) (mg : Str → Option Value) (base : Heap) (x : Str) (k : Nat) (ps : List Str) (sp : SpD) : Prop where
  g : mg x = some (.ref (He.ga K x))
  ms : MonoSp sp
  ok : ∃ fd, (∃ o, K.lookup (He.ga K x) = some o ∧ o.data = .func fd) ∧ PySem.W.keepIn K (.ref (He.ga K x)) = true ∧ Binds K fd ps [] ∧ FnOk P w K mg base CX0 k (He.ga K x) fd ps (LSp K sp)
theorem Has.mono {P : Program} {w : World} {K : PySem.W.Frag} {mg : Str → Option Value} {base : Heap} {x : Str} {j k : Nat} {ps : List Str} {sp : SpD} (h : Has P w K mg base x j ps sp) (l : j ≤ k) : Has P w K mg base x k ps sp :=
  ⟨h.g, h.ms, let ⟨fd, z, a, b, c⟩ := h.ok; ⟨fd, z, a, b, c.mono l⟩⟩
section
variable {X : Cx} {k : Nat} {ps : List Str} {sp : SpD} {x : Str} {p pos : Pos} {e : Expr} {es : List Expr} {t : DTA}
theorem de_has (h : Has X.prog X.w X.K X.mg X.base x k ps sp) (hr : Room k X.A) (hg : Gl X x) (ha : DA X (e :: es) t) (hdb : (x == ("__debug__" : Str)) = false := by decide) (he : starEach (e :: es) X.env = (false, eval e X.env) :: starEach es X.env := by rfl) (hpl : (backTo pos (starEach es X.env)).any (·.1) = false := by rfl) :
    DE X (.Call (.Name x p) (e :: es) [] pos) (dCall sp [] t) :=
  let ⟨_, _, a, b, c⟩ := h.ok
  de_call (dvs := []) c h.ms hr hg h.g a b .nil (fun _ => .nil) ha hdb he hpl
theorem de_has0 (h : Has X.prog X.w X.K X.mg X.base x k ps sp) (hr : Room k X.A) (hg : Gl X x) (hdb : (x == ("__debug__" : Str)) = false := by decide) : DE X (.Call (.Name x p) [] [] pos) (dCall sp [] dNil) :=
  let ⟨_, _, a, b, c⟩ := h.ok
  de_call0 (dvs := []) c h.ms hr hg h.g a b .nil (fun _ => .nil) hdb
end
theorem de_ty {X : Cx} {x : Str} {n : String} {pos : Pos} (hg : Gl X x) (hm : X.mg x = none) (hv : bootBuiltins x = some (.type n)) (hn : x ≠ "__name__" := by decide) (hd : (x == ("__debug__" : Str)) = false := by decide) : DE X (.Name x pos) (dC (.ty n)) :=
  de_bltn (v := .ty n) hg hm hv rfl (fun _ => rfl) hn hd
/-- a module's constant -/
structure GlobC (K : PySem.W.Frag) (mg : Str → Option Value) (x : Str) (d : D) : Prop where
  ex : ∃ v u, mg x = some u ∧ RelV v u ∧ ∀ H, Rep K H d v
theorem de_gc {X : Cx} {x : Str} {d : D} {pos : Pos} (c : GlobC X.K X.mg x d) (hg : Gl X x) (hd : (x == ("__debug__" : Str)) = false := by decide) : DE X (.Name x pos) (dC d) :=
  let ⟨_, _, a, b, r⟩ := c.ex
  de_glob hg a b r hd
theorem FunD.there {K : PySem.W.Frag} {x qual : Str} {params : Arguments} {body : List Stmt} {scope : Scope} {dvs : List V} {kws : List (Str × V)} {f : Addr} {fd : FuncData} (F : FunD K x qual params body scope dvs kws f fd) : ∃ o, K.lookup f = some o ∧ o.data = .func fd := by
  obtain ⟨oc, od, dV, kV, doc, pm, an, cdv, ct, osl, e, l, _⟩ := F.ex
  exact ⟨_, l, rfl⟩
/-- the maker -/
theorem Has.of {P : Program} {w : World} {K : PySem.W.Frag} {mg : Str → Option Value} {base : Heap} {x : Str} {params : Arguments} {body : List Stmt} {scope : Scope} {N ps : List Str} {k : Nat} {sp : SpD} {t : DTS} (g : mg x = some (.ref (He.ga K x)))
    (F : ∃ fd, FunD K x x params body scope [] [] (He.ga K x) fd) (S : FnScope N ps scope) (ms : MonoSp sp) (len : ∀ ds h Q E, sp ds h Q E → ds.length = ps.length)
    (bind : ∀ (kV doc pm : Value) (an : Option Addr) (cdv ct : Value) (us : List Value), us.length = ps.length → bindArgs (PySem.W.fnOf x x params body scope .none kV doc pm an cdv ct) ⟨us, []⟩ = pure (ps.zip us))
    (d : ∀ (cdv : Value) (A : Around) (outer : List Env) (s : Shared) (H : Hp) (E : XK), Room k (A.deeper (envOfC x scope s.heap.objs.size (He.ga K x) cdv)) → DSs (cxOf CX0 P w K mg base N x scope (He.ga K x) cdv A outer s H E).nox WN body t)
    (r : ∀ ds h Q Ed, Up Q → sp ds h Q Ed → t { nx := fun _ h' => Q .non h', rt := Q } (dstart N ds) h) : Has P w K mg base x (k + 1) ps sp :=
  let ⟨fd, F⟩ := F
  ⟨g, ms, fd, FunD.there F, F.kp, F.bindsN bind, FunD.okD F S len fun cdv A outer s H E hr => ⟨t, d cdv A outer s H E hr, r⟩⟩
/-- a promise that asks what never is -/
theorem Has.void {P : Program} {w : World} {K : PySem.W.Frag} {mg : Str → Option Value} {base : Heap} {x : Str} {params : Arguments} {body : List Stmt} {scope : Scope} {ps : List Str} {k : Nat} {sp : SpD} (g : mg x = some (.ref (He.ga K x)))
    (F : ∃ fd, FunD K x x params body scope [] [] (He.ga K x) fd)
    (bind : ∀ (kV doc pm : Value) (an : Option Addr) (cdv ct : Value) (us : List Value), us.length = ps.length → bindArgs (PySem.W.fnOf x x params body scope .none kV doc pm an cdv ct) ⟨us, []⟩ = pure (ps.zip us))
    (no : ∀ ds h Q E, ¬ sp ds h Q E) : Has P w K mg base x k ps sp :=
  let ⟨fd, F⟩ := F
  ⟨g, fun ds h Q _ E _ q => (no ds h Q E q).elim, fd, FunD.there F, F.kp, F.bindsN bind, fun _ _ _ _ ⟨_, _, _, _, q⟩ => (no _ _ _ _ q).elim, fun _ _ _ _ _ _ _ _ _ _ _ _ _ ⟨_, _, _, _, q⟩ => (no _ _ _ _ q).elim⟩
/-- a law's function, over every base -/
theorem law_fn {P : Program} {w : World} {K : PySem.W.Frag} {mg : Str → Option Value} {base : Heap} {x : Str} {k : Nat} {ps : List Str} {sp : SpD} {fd : FuncData} (t : ∃ o, K.lookup (He.ga K x) = some o ∧ o.data = .func fd) (h : Has P w K mg base x k ps sp) : FnOk P w K mg base CX0 k (He.ga K x) fd ps (LSp K sp) := by
  obtain ⟨fd', ⟨o, l, e⟩, _, _, F⟩ := h.ok
  obtain ⟨o', l', e'⟩ := t
  rw [l] at l'
  cases l'
  rw [e] at e'
  cases e'
  exact F
end DL

/-! DSimp: equations for readings. -/
namespace DL
open PySem PySem.Spec PyProof.Rows L2

section
variable {h : DH} {Q : DK} {B : Bool → Prop} {i j : Int} {x y z : Str} {a b : Addr} {ds es : List D} {lo hi : Option Int} {k : Bool}
theorem addD_int : addD (.int i) (.int j) h Q = Q (.int (i + j)) h := rfl
theorem addD_str : addD (.str x) (.str y) h Q = (x.length + y.length ≤ sizeLine ∧ Q (.str (x ++ y)) h) := rfl
theorem addD_tup : addD (.tup ds) (.tup es) h Q = (ds.length + es.length ≤ sizeLine ∧ Q (.tup (ds ++ es)) h) := rfl
theorem addD_ref : addD (.ref a) (.ref b) h Q = (∃ xs ys, h a = some (.lst xs) ∧ h b = some (.lst ys) ∧ xs.length + ys.length ≤ sizeLine ∧ ∀ p, h p = none → Q (.ref p) (updD h p (.lst (xs ++ ys)))) := rfl
theorem subD_int : subD (.int i) (.int j) h Q = Q (.int (i - j)) h := rfl
theorem mulD_int : mulD (.int i) (.int j) h Q = (CMulX i j ∧ Q (.int (i * j)) h) := rfl
theorem fdivD_int : fdivD (.int i) (.int j) h Q = (CDivW i j ∧ Q (.int (i / j)) h) := rfl
theorem modD_int : modD (.int i) (.int j) h Q = (0 < j ∧ Q (.int (i % j)) h) := rfl
theorem powD_int : powD (.int i) (.int j) h Q = (CPow i j ∧ Q (.int (i ^ j.toNat)) h) := rfl
theorem ltD_int : ltD (.int i) (.int j) h Q = Q (.bl (decide (i < j))) h := rfl
theorem ltD_str : ltD (.str x) (.str y) h Q = Q (.bl (decide (x.cps.toList < y.cps.toList))) h := rfl
theorem leD_int : leD (.int i) (.int j) h Q = Q (.bl (decide (i ≤ j))) h := rfl
theorem gtD_int : gtD (.int i) (.int j) h Q = Q (.bl (decide (j < i))) h := rfl
theorem geD_int : geD (.int i) (.int j) h Q = Q (.bl (decide (j ≤ i))) h := rfl
theorem isD_non {d : D} : isD d .non h Q = Q (.bl (isNon d)) h := rfl
theorem isNotD_non {d : D} : isNotD d .non h Q = Q (.bl (!isNon d)) h := rfl
theorem truD_non : truD .non h B = B false := rfl
theorem truD_bl : truD (.bl k) h B = B k := rfl
theorem truD_int : truD (.int i) h B = B (i != 0) := rfl
theorem truD_str : truD (.str y) h B = (y.length ≤ sizeLine ∧ B ((y.length : Int) != 0)) := rfl
theorem truD_tup : truD (.tup ds) h B = B (!ds.isEmpty) := rfl
theorem truD_lsv : truD (.lsv ds) h B = B (!ds.isEmpty) := rfl
theorem truD_ref (e : h a = some (.lst ds)) : truD (.ref a) h B = B (!ds.isEmpty) := by
  show truR (h a) B = _
  rw [e]; rfl
theorem slD_tup : slD (.tup ds) lo hi h Q = Q (.tup (cutD ds lo hi)) h := rfl
theorem slD_str : slD (.str z) lo hi h Q = (z.length ≤ sizeLine ∧ Q (.str (cutS z lo hi)) h) := rfl
theorem slD_ref : slD (.ref a) lo hi h Q = ∃ ds, h a = some (.lst ds) ∧ ∀ p, h p = none → Q (.ref p) (updD h p (.lst (cutD ds lo hi))) := rfl
theorem slD_lsv : slD (.lsv ds) lo hi h Q = ∀ p, h p = none → Q (.ref p) (updD h p (.lst (cutD ds lo hi))) := rfl
theorem ixD_tup : ixD (.tup ds) (.int i) h Q = ∃ v, atI ds i = some v ∧ Q v h := rfl
theorem ixD_lsv : ixD (.lsv ds) (.int i) h Q = ∃ v, atI ds i = some v ∧ Q v h := rfl
theorem ixD_str : ixD (.str z) (.int i) h Q = ∃ c, z.length ≤ sizeLine ∧ atI z.cps.toList i = some c ∧ Q (.str ⟨#[c]⟩) h := rfl
theorem ixD_ref : ixD (.ref a) (.int i) h Q = ∃ ds v, h a = some (.lst ds) ∧ atI ds i = some v ∧ Q v h := rfl
theorem lenD_tup : lenD [.tup ds] h Q = (ds.length ≤ sizeLine → Q (.int ds.length) h) := rfl
theorem lenD_lsv : lenD [.lsv ds] h Q = (ds.length ≤ sizeLine → Q (.int ds.length) h) := rfl
theorem lenD_str : lenD [.str z] h Q = (z.length ≤ sizeLine ∧ Q (.int z.length) h) := rfl
theorem lenD_ref : lenD [.ref a] h Q = ∃ ds, h a = some (.lst ds) ∧ (ds.length ≤ sizeLine → Q (.int ds.length) h) := rfl
theorem absD_int : absD [.int i] h Q = Q (.int (if i < 0 then -i else i)) h := rfl
theorem intD_int : intD [.int i] h Q = Q (.int i) h := rfl
theorem max2D_int : max2D [.int i, .int j] h Q = Q (.int (if j > i then j else i)) h := rfl
theorem min2D_int : min2D [.int i, .int j] h Q = Q (.int (if j < i then j else i)) h := rfl
theorem listD_tup : listD [.tup ds] h Q = ∀ p, h p = none → Q (.ref p) (updD h p (.lst ds)) := rfl
theorem listD_lsv : listD [.lsv ds] h Q = ∀ p, h p = none → Q (.ref p) (updD h p (.lst ds)) := rfl
theorem listD_ref : listD [.ref a] h Q = ∃ ds, h a = some (.lst ds) ∧ ∀ p, h p = none → Q (.ref p) (updD h p (.lst ds)) := rfl
theorem tupleD_tup : tupleD [.tup ds] h Q = Q (.tup ds) h := rfl
theorem tupleD_ref : tupleD [.ref a] h Q = ∃ ds, h a = some (.lst ds) ∧ Q (.tup ds) h := rfl
end
theorem seqI_tup {ds : List D} {h : DH} {R : DIK} : seqI (.tup ds) h R = R ds (fun _ => True) h := rfl
theorem seqI_lsv {ds : List D} {h : DH} {R : DIK} : seqI (.lsv ds) h R = R ds (fun _ => True) h := rfl
theorem seqI_ref {a : Addr} {h : DH} {R : DIK} : seqI (.ref a) h R = ∃ ds, h a = some (.lst ds) ∧ R ds (fun h => h a = some (.lst ds)) h := rfl
def isTup : D → Bool
  | .tup _ => true
  | _ => false
def isLsv : D → Bool
  | .lsv _ => true
  | _ => false
def isInt : D → Bool
  | .int _ => true
  | .bl _ => true
  | _ => false
def isStr : D → Bool
  | .str _ => true
  | _ => false
def isBl : D → Bool
  | .bl _ => true
  | _ => false
section
variable {h : DH} {Q : DK} {i j : Int} {x y : Str} {a b : Bool} {d : D}
theorem isi_eq {d : D} {n : String} {b : Bool} (t : String) (e : tyN h d = some t) (k : kitB t n = some b) : isiD [d, .ty n] h Q = Q (.bl b) h := by
  unfold isiD
  simp only [e, k, Option.some.injEq, exists_and_left, exists_eq_left', exists_eq_left]
theorem isi_tuple (ok : okD d = true) : isiD [d, .ty "tuple"] h Q = Q (.bl (isTup d)) h := by
  cases d <;> first | (simp [okD] at ok; done) | skip
  · exact isi_eq _ rfl (by simp only [isTup, isLsv, isInt, isStr, isBl]; decide +kernel)
  · exact isi_eq _ rfl (by simp only [isTup, isLsv, isInt, isStr, isBl]; decide +kernel)
  · exact isi_eq _ rfl (by simp only [isTup, isLsv, isInt, isStr, isBl]; decide +kernel)
  · exact isi_eq _ rfl (by simp only [isTup, isLsv, isInt, isStr, isBl]; decide +kernel)
  · exact isi_eq _ rfl (by simp only [isTup, isLsv, isInt, isStr, isBl]; decide +kernel)
  · exact isi_eq _ rfl (by simp only [isTup, isLsv, isInt, isStr, isBl]; decide +kernel)
theorem isi_list (ok : okD d = true) : isiD [d, .ty "list"] h Q = Q (.bl (isLsv d)) h := by
  cases d <;> first | (simp [okD] at ok; done) | skip
  · exact isi_eq _ rfl (by simp only [isTup, isLsv, isInt, isStr, isBl]; decide +kernel)
  · exact isi_eq _ rfl (by simp only [isTup, isLsv, isInt, isStr, isBl]; decide +kernel)
  · exact isi_eq _ rfl (by simp only [isTup, isLsv, isInt, isStr, isBl]; decide +kernel)
  · exact isi_eq _ rfl (by simp only [isTup, isLsv, isInt, isStr, isBl]; decide +kernel)
  · exact isi_eq _ rfl (by simp only [isTup, isLsv, isInt, isStr, isBl]; decide +kernel)
  · exact isi_eq _ rfl (by simp only [isTup, isLsv, isInt, isStr, isBl]; decide +kernel)
theorem isi_int (ok : okD d = true) : isiD [d, .ty "int"] h Q = Q (.bl (isInt d)) h := by
  cases d <;> first | (simp [okD] at ok; done) | skip
  · exact isi_eq _ rfl (by simp only [isTup, isLsv, isInt, isStr, isBl]; decide +kernel)
  · exact isi_eq _ rfl (by simp only [isTup, isLsv, isInt, isStr, isBl]; decide +kernel)
  · exact isi_eq _ rfl (by simp only [isTup, isLsv, isInt, isStr, isBl]; decide +kernel)
  · exact isi_eq _ rfl (by simp only [isTup, isLsv, isInt, isStr, isBl]; decide +kernel)
  · exact isi_eq _ rfl (by simp only [isTup, isLsv, isInt, isStr, isBl]; decide +kernel)
  · exact isi_eq _ rfl (by simp only [isTup, isLsv, isInt, isStr, isBl]; decide +kernel)
theorem isi_str (ok : okD d = true) : isiD [d, .ty "str"] h Q = Q (.bl (isStr d)) h := by
  cases d <;> first | (simp [okD] at ok; done) | skip
  · exact isi_eq _ rfl (by simp only [isTup, isLsv, isInt, isStr, isBl]; decide +kernel)
  · exact isi_eq _ rfl (by simp only [isTup, isLsv, isInt, isStr, isBl]; decide +kernel)
  · exact isi_eq _ rfl (by simp only [isTup, isLsv, isInt, isStr, isBl]; decide +kernel)
  · exact isi_eq _ rfl (by simp only [isTup, isLsv, isInt, isStr, isBl]; decide +kernel)
  · exact isi_eq _ rfl (by simp only [isTup, isLsv, isInt, isStr, isBl]; decide +kernel)
  · exact isi_eq _ rfl (by simp only [isTup, isLsv, isInt, isStr, isBl]; decide +kernel)
theorem isi_bool (ok : okD d = true) : isiD [d, .ty "bool"] h Q = Q (.bl (isBl d)) h := by
  cases d <;> first | (simp [okD] at ok; done) | skip
  · exact isi_eq _ rfl (by simp only [isTup, isLsv, isInt, isStr, isBl]; decide +kernel)
  · exact isi_eq _ rfl (by simp only [isTup, isLsv, isInt, isStr, isBl]; decide +kernel)
  · exact isi_eq _ rfl (by simp only [isTup, isLsv, isInt, isStr, isBl]; decide +kernel)
  · exact isi_eq _ rfl (by simp only [isTup, isLsv, isInt, isStr, isBl]; decide +kernel)
  · exact isi_eq _ rfl (by simp only [isTup, isLsv, isInt, isStr, isBl]; decide +kernel)
  · exact isi_eq _ rfl (by simp only [isTup, isLsv, isInt, isStr, isBl]; decide +kernel)
/-- a list object -/
theorem isi_ref {a : Addr} {ds : List D} {n : String} {b : Bool} (e : h a = some (.lst ds)) (k : kitB "list" n = some b) : isiD [.ref a, .ty n] h Q = Q (.bl b) h := isi_eq "list" (by simp [tyN, e]) k
theorem kl_tuple : kitB "list" "tuple" = some false := by decide +kernel
theorem kl_list : kitB "list" "list" = some true := by decide +kernel
theorem datD_ok (ok : okD d = true) : datD h d = some d := by
  cases d <;> first | rfl | (simp [okD] at ok)
theorem eqD_ok {d e : D} (c : EqOk d e) : eqD d e h Q = Q (.bl (deq d e)) h := by
  unfold eqD
  rw [datD_ok c.1, datD_ok c.2.1]
  simp [c]
theorem neD_ok {d e : D} (c : EqOk d e) : neD' d e h Q = Q (.bl (!deq d e)) h := by
  unfold neD'
  rw [datD_ok c.1, datD_ok c.2.1]
  simp [c]
theorem eqD_int : eqD (.int i) (.int j) h Q = Q (.bl (decide (i = j))) h := by
  rw [eqD_ok ⟨by simp [okD], by simp [okD], by simp [dep]⟩]
  simp [deq, Bool.beq_eq_decide_eq]
theorem neD_int : neD' (.int i) (.int j) h Q = Q (.bl (!decide (i = j))) h := by
  rw [neD_ok ⟨by simp [okD], by simp [okD], by simp [dep]⟩]
  simp [deq, Bool.beq_eq_decide_eq]
theorem eqD_bl : eqD (.bl a) (.bl b) h Q = Q (.bl (decide (a = b))) h := by
  rw [eqD_ok ⟨by simp [okD], by simp [okD], by simp [dep]⟩]
  simp [deq, Bool.beq_eq_decide_eq]
theorem neD_bl : neD' (.bl a) (.bl b) h Q = Q (.bl (!decide (a = b))) h := by
  rw [neD_ok ⟨by simp [okD], by simp [okD], by simp [dep]⟩]
  simp [deq, Bool.beq_eq_decide_eq]
theorem eqD_str (hx : PyData.strOk x = true) (hy : PyData.strOk y = true) : eqD (.str x) (.str y) h Q = Q (.bl (decide (x = y))) h := by
  rw [eqD_ok ⟨by simp [okD, hx], by simp [okD, hy], by simp [dep]⟩]
  simp [deq, Bool.beq_eq_decide_eq]
theorem neD_str (hx : PyData.strOk x = true) (hy : PyData.strOk y = true) : neD' (.str x) (.str y) h Q = Q (.bl (!decide (x = y))) h := by
  rw [neD_ok ⟨by simp [okD, hx], by simp [okD, hy], by simp [dep]⟩]
  simp [deq, Bool.beq_eq_decide_eq]
end
theorem cutD_1 {α : Type} (xs : List α) : cutD xs (some 1) none = xs.drop 1 := by
  unfold cutD
  have e : HT.sIx xs.length 0 (some (1 : Int)) = min 1 xs.length := HT.sIx_nat xs.length 0 1
  rw [e, HT.sIx_none]
  cases xs with
  | nil => rfl
  | cons x xs => simp
theorem atI_0 {α : Type} {x : α} {xs : List α} : atI (x :: xs) 0 = some x := atI_nat (j := 0) rfl
theorem atI_1 {α : Type} {x y : α} {xs : List α} : atI (x :: y :: xs) 1 = some y := atI_nat (j := 1) rfl
theorem atI_2 {α : Type} {x y z : α} {xs : List α} : atI (x :: y :: z :: xs) 2 = some z := atI_nat (j := 2) rfl
theorem atI_n {α : Type} {xs : List α} {j : Nat} (h : j < xs.length) : atI xs (j : Int) = some xs[j] := atI_nat (List.getElem?_eq_getElem h)
theorem ite_bl {A B : Prop} {b : Bool} : (if b = true then A else B) ↔ (b = true → A) ∧ (b = false → B) := by cases b <;> simp
theorem sz1 : 1 ≤ sizeLine := by rw [sizeLine_eq]; decide
theorem sz2 : 2 ≤ sizeLine := by rw [sizeLine_eq]; decide
theorem sz3 : 3 ≤ sizeLine := by rw [sizeLine_eq]; decide
theorem sz4 : 4 ≤ sizeLine := by rw [sizeLine_eq]; decide
theorem sz5 : 5 ≤ sizeLine := by rw [sizeLine_eq]; decide
theorem sz6 : 6 ≤ sizeLine := by rw [sizeLine_eq]; decide
theorem sz_small {n : Nat} (h : n ≤ 1000000) : n ≤ sizeLine := by rw [sizeLine_eq]; omega
theorem sz_lt {n : Nat} (h : n ≤ 1000000) : n < sizeLine := by rw [sizeLine_eq]; omega

theorem dSeq_go {t u : DTS} {En : DEnds} {τ : DSt} {h : DH} (q : t { En with nx := u En } τ h) : dSeq t u En τ h := q
/-- a statement, then what holds behind it -/
theorem dSeq_cut {t u : DTS} {En : DEnds} {τ : DSt} {h : DH} (M : DSt → DH → Prop) (h1 : ∀ nx : DSt → DH → Prop, (∀ τ h, M τ h → nx τ h) → t { En with nx := nx } τ h) (h2 : ∀ τ h, M τ h → u En τ h) : dSeq t u En τ h := h1 (u En) h2
theorem dIfS_cut {c : DTT} {t u : DTS} {En : DEnds} {τ : DSt} {h : DH} {P : Prop} [Decidable P] (e : ∀ Q : Bool → DH → Prop, Q (decide P) h → c τ h Q) (h1 : P → t En τ h) (h2 : ¬ P → u En τ h) : dIfS c t u En τ h := by
  refine e _ ?_
  by_cases p : P
  · simpa [p] using h1 p
  · simpa [p] using h2 p
theorem dIfS_ev {c : DTT} {t u : DTS} {En : DEnds} {τ : DSt} {h : DH} (b : Bool) (e : ∀ Q : Bool → DH → Prop, Q b h → c τ h Q) (h1 : b = true → t En τ h) (h2 : b = false → u En τ h) : dIfS c t u En τ h := by
  refine e _ ?_
  cases b
  · exact h2 rfl
  · exact h1 rfl
/-- no: for a promise about a truth value -/
theorem nb {P : Prop} (h : ¬ P) : (false = true ↔ P) := by simp [h]
theorem yb {P : Prop} (h : P) : (true = true ↔ P) := by simp [h]
theorem line62 {n : Nat} (h : n ≤ sizeLine) : -(2 ^ 62) ≤ (n : Int) ∧ (n : Int) < 2 ^ 62 := by rw [sizeLine_eq] at h; omega
/-- for: a turn by turn invariant, given by the slots -/
theorem dFor_of {wi : DTI} {g : DTG} {tb : DTS} {En : DEnds} {τ : DSt} {h : DH} {items : List D} {st : DH → Prop} {h1 : DH} (Pv : Nat → DSt → DH → Prop)
    (hi : ∀ R : DIK, R items st h1 → wi τ h R) (h0 : Pv 0 τ h1) (hst : ∀ i τ h, Pv i τ h → st h)
    (hs : ∀ i d τ h, items[i]? = some d → Pv i τ h → g d τ h fun τ2 h2 => tb { En with nx := Pv (i + 1), ct := Pv (i + 1), bk := En.nx } τ2 h2) (hd : ∀ τ h, Pv items.length τ h → En.nx τ h) : dFor wi g tb En τ h :=
  hi _ ⟨Pv, h0, hst, hs, hd⟩
/-- .. where what is walked is reckoned on the way -/
theorem dFor_go {wi : DTI} {g : DTG} {tb : DTS} {En : DEnds} {τ : DSt} {h : DH} (P : List D → DH → Prop)
    (hi : ∀ R : DIK, (∀ items h1, P items h1 → R items (fun _ => True) h1) → wi τ h R)
    (k : ∀ items h1, P items h1 → ∃ Pv : Nat → DSt → DH → Prop, Pv 0 τ h1 ∧ (∀ i d τ h, items[i]? = some d → Pv i τ h → g d τ h fun τ2 h2 => tb { En with nx := Pv (i + 1), ct := Pv (i + 1), bk := En.nx } τ2 h2) ∧ ∀ τ h, Pv items.length τ h → En.nx τ h) : dFor wi g tb En τ h :=
  hi _ fun items h1 p => let ⟨Pv, a, b, c⟩ := k items h1 p; ⟨Pv, a, fun _ _ _ _ => trivial, b, c⟩
/-- a comprehension, by what holds of the heap with the new list at p -/
theorem dLc_any {wi : DTI} {t : DTG} {te : DTE} {vs : List Nat} {τ : DSt} {h : DH} {items : List D} {st : DH → Prop} {h1 : DH} {Q : DK} (Pv : Addr → Nat → DH → Prop)
    (hi : ∀ R : DIK, R items st h1 → wi τ h R) (hst : ∀ p i h, Pv p i h → st h) (h0 : ∀ p, h1 p = none → Pv p 0 (updD h1 p (.lst [])))
    (he : ∀ p, h1 p = none → ∀ (i : Nat) d h2, items[i]? = some d → Pv p i h2 → t d (wipeD τ vs) h2 fun τ2 h3 => te τ2 h3 fun y h4 => ∃ acc, h4 p = some (.lst acc) ∧ acc.length < sizeLine ∧ Pv p (i + 1) (updD h4 p (.lst (acc ++ [y]))))
    (hQ : ∀ p, h1 p = none → ∀ h2, Pv p items.length h2 → Q (.ref p) h2) : dLc wi t dYes te vs τ h Q :=
  hi _ fun p n => ⟨Pv p, h0 p n, hst p, fun i d h2 e q => by
    have := he p n i d h2 e q
    simpa [dYes] using this, hQ p n⟩
/-- a comprehension whose parts change nothing: a new list of the values -/
theorem dLc_map {wi : DTI} {t : DTG} {te : DTE} {vs : List Nat} {τ : DSt} {h : DH} {items : List D} {st : DH → Prop} {h1 : DH} {Q : DK} (f : D → D)
    (hi : ∀ R : DIK, R items st h1 → wi τ h R) (hst : ∀ h2, Sub h1 h2 → st h2) (hl : items.length ≤ sizeLine)
    (he : ∀ (i : Nat) d h2 (Q' : DK), items[i]? = some d → Sub h1 h2 → Q' (f d) h2 → t d (wipeD τ vs) h2 fun τ2 h3 => te τ2 h3 Q')
    (hQ : ∀ p, h1 p = none → Q (.ref p) (updD h1 p (.lst (items.map f)))) : dLc wi t dYes te vs τ h Q := by
  refine hi _ fun p n => ⟨fun i h => i ≤ items.length ∧ h = updD h1 p (.lst ((items.take i).map f)), ⟨Nat.zero_le _, by simp⟩, fun i h2 ⟨l, e⟩ => hst h2 (e ▸ Sub.new n), ?_, ?_⟩
  · rintro i d h2 e ⟨l, rfl⟩
    have li : i < items.length := (List.getElem?_eq_some_iff.mp e).1
    have go := he i d (updD h1 p (.lst ((items.take i).map f))) (fun y h4 => ∃ acc, h4 p = some (.lst acc) ∧ acc.length < sizeLine ∧ (i + 1 ≤ items.length ∧ updD h4 p (.lst (acc ++ [y])) = updD h1 p (.lst ((items.take (i + 1)).map f)))) e (Sub.new n) ?_
    · show t d (wipeD τ vs) _ fun τ2 h3 => dYes τ2 h3 fun b h4 => if b = true then te τ2 h4 _ else _
      simpa [dYes] using go
    · refine ⟨_, updD_same, by simp; omega, by omega, ?_⟩
      rw [updD_updD, List.take_succ, e]
      simp
  · rintro h2 ⟨_, rfl⟩
    rw [List.take_length]
    exact hQ p n
end DL

/-! DConst: a module's constants, told by the head. -/
namespace DL
open PySem PySem.Spec PyProof.Rows L2

mutual
/-- the value u, in the objects of K, is d -/
def gcB (K : PySem.W.Frag) : D → Value → Bool
  | .non, u => (match u with
    | .none => true
    | _ => false)
  | .bl b, u => (match u with
    | .bool c => b == c
    | _ => false)
  | .int i, u => (match u with
    | .int j _ => decide (i = j)
    | _ => false)
  | .str x, u => (match u with
    | .str y _ => decide (x = y)
    | _ => false)
  | .tup ds, u => (match u with
    | .ref a => (match K.lookup a with
      | some ⟨.type c, _, .seq its _, _⟩ => decide (c = "tuple") && (decide (its.size ≤ sizeLine) && gcsB K ds its.toList)
      | _ => false)
    | _ => false)
  | .lsv ds, u => (match u with
    | .ref a => (match K.lookup a with
      | some ⟨.type c, none, .seq its _, _⟩ => decide (c = "list") && (decide (its.size ≤ sizeLine) && gcsB K ds its.toList)
      | _ => false)
    | _ => false)
  | .ref _, _ => false
  | .ty _, _ => false
def gcsB (K : PySem.W.Frag) : List D → List Value → Bool
  | [], us => us.isEmpty
  | d :: ds, us => (match us with
    | u :: r => gcB K d u && gcsB K ds r
    | [] => false)
end
mutual
theorem gcB_ok {K : PySem.W.Frag} : ∀ {d : D} {u : Value}, gcB K d u = true → ∃ v, RelV v u ∧ ∀ H, Rep K H d v
  | .non, u, h => by
    cases u <;> simp [gcB] at h
    exact ⟨.non, rfl, fun _ => rfl⟩
  | .bl b, u, h => by
    cases u <;> simp [gcB] at h
    subst h
    exact ⟨.bl _, rfl, fun _ => rfl⟩
  | .int i, u, h => by
    cases u <;> simp [gcB] at h
    subst h
    exact ⟨.int _, ⟨_, rfl⟩, fun _ => rfl⟩
  | .str i, u, h => by
    cases u <;> simp [gcB] at h
    subst h
    exact ⟨.str _, ⟨_, rfl⟩, fun _ => rfl⟩
  | .tup ds, u, h => by
    cases u with
    | ref a =>
      simp only [gcB] at h
      cases q : K.lookup a with
      | none => rw [q] at h; cases h
      | some o =>
        obtain ⟨oc, od, dt, osl⟩ := o
        rw [q] at h
        cases oc with
        | type c =>
          cases dt with
          | seq its n =>
            simp only [Bool.and_eq_true, decide_eq_true_eq] at h
            obtain ⟨rfl, h2, h3⟩ := h
            obtain ⟨vs, r, rs⟩ := gcsB_ok h3
            exact ⟨.ref a, rfl, fun H => ⟨a, vs, rfl, .inr ⟨_, its, n, q, rfl, rfl, h2, r⟩, rs H⟩⟩
          | _ => cases h
        | _ => cases dt <;> cases h
    | _ => simp [gcB] at h
  | .lsv ds, u, h => by
    cases u with
    | ref a =>
      simp only [gcB] at h
      cases q : K.lookup a with
      | none => rw [q] at h; cases h
      | some o =>
        obtain ⟨oc, od, dt, osl⟩ := o
        rw [q] at h
        cases oc with
        | type c =>
          cases od with
          | none =>
            cases dt with
            | seq its n =>
              simp only [Bool.and_eq_true, decide_eq_true_eq] at h
              obtain ⟨rfl, h2, h3⟩ := h
              obtain ⟨vs, r, rs⟩ := gcsB_ok h3
              exact ⟨.ref a, rfl, fun H => ⟨a, vs, rfl, .inr ⟨_, its, n, q, rfl, rfl, rfl, h2, r⟩, rs H⟩⟩
            | _ => cases h
          | some z => cases dt <;> cases h
        | _ => cases od <;> cases dt <;> cases h
    | _ => simp [gcB] at h
  | .ref _, _, h => by simp [gcB] at h
  | .ty _, _, h => by simp [gcB] at h
theorem gcsB_ok {K : PySem.W.Frag} : ∀ {ds : List D} {us : List Value}, gcsB K ds us = true → ∃ vs, Vals vs us ∧ ∀ H, Reps K H ds vs
  | [], us, h => by
    cases us with
    | nil => exact ⟨[], .nil, fun _ => rfl⟩
    | cons u r => simp [gcsB] at h
  | d :: ds, us, h => by
    cases us with
    | nil => simp [gcsB] at h
    | cons u r =>
      simp only [gcsB, Bool.and_eq_true] at h
      obtain ⟨v, a, b⟩ := gcB_ok h.1
      obtain ⟨vs, c, e⟩ := gcsB_ok h.2
      exact ⟨v :: vs, .cons a c, fun H => ⟨v, vs, rfl, b H, e H⟩⟩
end
/-- the module's name x is d -/
def gcQ (K : PySem.W.Frag) (x : Str) (d : D) : Bool := match PySem.W.nsIn K mainGlobals x with
  | some (some u) => gcB K d u
  | _ => false
theorem GlobC.of {K : PySem.W.Frag} {h : Heap} {mg : Str → Option Value} {x : Str} {d : D} (X : K.In h) (G : h.Ns mainGlobals mg) (c : gcQ K x d = true) : GlobC K mg x d := by
  unfold gcQ at c
  split at c
  · rename_i u q
    obtain ⟨v, r, rp⟩ := gcB_ok c
    exact ⟨v, u, PySem.W.mg_of X G q, r, rp⟩
  · cases c
end DL

/-! DExc: exceptions over D. -/
namespace DL
open PySem PySem.Spec PyProof.Rows L2

theorem ClF.tk {K : PySem.W.Frag} {H H1 : Hp} {E : XK} (k : TK H H1) {C : Str} {d : Option Addr} {h : DH} (c : ClF K H E C d h) : ClF K H1 E C d h := fun H' b e => c H' b (k.trans e)
/-- an expression that may let an exception out -/
abbrev DXTE := DSt → DH → DK → DXK → Prop
def LEX (K : PySem.W.Frag) (W : WX) (t : DXTE) : TE := fun σ H Q => ∃ τ h, RepS K H τ σ ∧ RepH K H h ∧ t τ h (Cl K H Q) (ClF K H (WE W σ))
structure DX (X : Cx) (W : WX) (e : Expr) (t : DXTE) : Prop where
  run : PE X e (LEX X.K W t)
  mono : ∀ τ h Q Q' E E', (∀ d h', Q d h' → Q' d h') → (∀ C d h', E C d h' → E' C d h') → t τ h Q E → t τ h Q' E'
def dPureX (t : DTE) : DXTE := fun τ h Q _ => t τ h Q
theorem ClX.at {K : PySem.W.Frag} {W : WX} {H : Hp} {τ : DSt} {σ : L2.St} (rs : RepS K H τ σ) {C : Str} {d : Option Addr} {h : DH} (c : ClX K W H τ C d h) : ClF K H (WE W σ) C d h := fun H' r k => c σ H' (rs.tk k) r k
def MonoX (sp : SpD) : Prop := ∀ ds h Q E E', (∀ C d h', E C d h' → E' C d h') → sp ds h Q E → sp ds h Q E'
def dCallX (sp : SpD) (dds : List D) (t : DTA) : DXTE := fun τ h Q E => t τ h fun ds h1 => sp (ds ++ dds) h1 Q E
def dRetX (t : DXTE) : DTS := fun D τ h => t τ h D.rt (D.ex τ)
def dAsgX (t : DXTE) (g : DTG) : DTS := fun D τ h => t τ h (fun x h1 => g x τ h1 D.nx) (D.ex τ)
def dDropX (t : DXTE) : DTS := fun D τ h => t τ h (fun _ h1 => D.nx τ h1) (D.ex τ)
section
variable {X : Cx} {W : WX} {e : Expr} {te : DTE} {t : DXTE} {pos : Pos}
theorem dx_pure (he : DE X e te) : DX X W e (dPureX te) :=
  ⟨he.run.wk fun σ H Q ⟨τ, h, rs, rh, q⟩ => ⟨τ, h, rs, rh, q⟩, fun τ h Q Q' E E' k _ q => he.mono _ _ _ _ k q⟩
theorem ds_retX (he : DX X W e t) : DS X W (.Return (some e) pos) (dRetX t) := by
  refine ⟨(ps_ret he.run).wk fun E σ H q => ?_, fun D D' τ h le q => he.mono _ _ _ _ _ _ (fun _ _ q => le.rt _ _ q) (fun _ _ _ q => le.ex _ _ _ _ q) q⟩
  obtain ⟨τ, h, rs, rh, q⟩ := q
  exact ⟨τ, h, rs, rh, he.mono _ _ _ _ _ _ (fun _ _ c => c) (fun _ _ _ c => ClX.at rs c) q⟩
theorem ds_exprX (he : DX X W e t) (hs : swapsWith e none pos.line X.env = pure false := by rfl) : DS X W (.Expr e pos) (dDropX t) := by
  refine ⟨(ps_expr he.run hs).wk fun E σ H q => ?_, fun D D' τ h le q => he.mono _ _ _ _ _ _ (fun _ _ q => le.nx _ _ q) (fun _ _ _ q => le.ex _ _ _ _ q) q⟩
  obtain ⟨τ, h, rs, rh, q⟩ := q
  exact ⟨τ, h, rs, rh, he.mono _ _ _ _ _ _ (fun d h1 q1 v H1 r1 rh1 k1 => q1 σ H1 (rs.tk k1) rh1 k1) (fun _ _ _ c => ClX.at rs c) q⟩
theorem ds_setX {i : Nat} {x : Str} {pos' : Pos} (hN : X.N.Nodup) (hi : X.N[i]? = some x) (hx : Loc X.env.scope x) (hf : X.fn x = true ∨ X.env.scope.names.lookup x = some .local) (he : DX X W e t) (hs : swapsWith e (some (.Name x pos')) pos.line X.env = pure false := by rfl) :
    DS X W (.Assign [.Name x pos'] e pos) (dAsgX t (dgName i)) := by
  refine ⟨(ps_set hN hi hx he.run hs hf).wk fun E σ H q => ?_, fun D D' τ h le q => he.mono _ _ _ _ _ _ (fun _ _ q => le.nx _ _ q) (fun _ _ _ q => le.ex _ _ _ _ q) q⟩
  obtain ⟨τ, h, rs, rh, q⟩ := q
  exact ⟨τ, h, rs, rh, he.mono _ _ _ _ _ _ (fun d h1 q1 v H1 r1 rh1 k1 => q1 _ _ ((rs.tk k1).set r1 i) rh1 k1) (fun _ _ _ c => ClX.at rs c) q⟩
end
/-- a def that may let exceptions out -/
structure HasX (P : Program) (w : World) (K : PySem.W.Frag) (mg : Str → Option Value) (base : Heap) (x : Str) (k : Nat) (ps : List Str) (sp : SpD) : Prop where
  g : mg x = some (.ref (He.ga K x))
  ms : MonoSp sp
  mx : MonoX sp
  ok : ∃ fd, PySem.W.keepIn K (.ref (He.ga K x)) = true ∧ Binds K fd ps [] ∧ FnOk P w K mg base (L2N.CX P w) k (He.ga K x) fd ps (LSp K sp)
theorem HasX.mono {P : Program} {w : World} {K : PySem.W.Frag} {mg : Str → Option Value} {base : Heap} {x : Str} {j k : Nat} {ps : List Str} {sp : SpD} (h : HasX P w K mg base x j ps sp) (l : j ≤ k) : HasX P w K mg base x k ps sp :=
  ⟨h.g, h.ms, h.mx, let ⟨fd, a, b, c⟩ := h.ok; ⟨fd, a, b, c.mono l⟩⟩
/-- nothing comes out that the wish rules out -/
theorem passN {P : Program} {w : World} {X : Cx} : Passes (L2N.CX P w) X E0 := fun _ _ _ _ _ _ _ h => by
  obtain ⟨_, _, _, _, _, _, _, _, _, _, _, _, z⟩ := h
  exact z.elim
section
variable {X : Cx} {W : WX} {k : Nat} {ps : List Str} {sp : SpD} {x : Str} {p pos : Pos} {e : Expr} {es : List Expr} {t : DTA}
theorem dx_has (h : HasX X.prog X.w X.K X.mg X.base x k ps sp) (tk : L2N.Takes X W) (hr : Room k X.A) (hg : Gl X x) (ha : DA X (e :: es) t) (hdb : (x == ("__debug__" : Str)) = false := by decide) (he : starEach (e :: es) X.env = (false, eval e X.env) :: starEach es X.env := by rfl) (hpl : (backTo pos (starEach es X.env)).any (·.1) = false := by rfl) :
    DX X W (.Call (.Name x p) (e :: es) [] pos) (dCallX sp [] t) := by
  obtain ⟨fd, a, b, c⟩ := h.ok
  refine ⟨(pe_callS (E := WE W) c hr hg h.g a b (L2N.passAt tk) ha.run hdb he hpl).wk fun σ H Q q => ?_, fun τ h1 Q Q' E E' k1 k2 q => ha.mono _ _ _ _ (fun ds h1 q => h.ms _ _ _ _ _ k1 (h.mx _ _ _ _ _ k2 q)) q⟩
  obtain ⟨τ, h1, rs, rh, q⟩ := q
  exact LA.of ha.mono rs rh q fun ds h1 vs H1 q1 r1 rh1 k1 => ⟨ds, h1, r1, rh1, h.ms _ _ _ _ _ (fun _ _ c => Cl.tk k1 c) (h.mx _ _ _ _ _ (fun _ _ _ c => ClF.tk k1 c) (by simpa using q1))⟩
/-- .. where it lets nothing out -/
theorem de_hasX (h : HasX X.prog X.w X.K X.mg X.base x k ps sp) (hr : Room k X.A) (hg : Gl X x) (ha : DA X (e :: es) t) (hdb : (x == ("__debug__" : Str)) = false := by decide) (he : starEach (e :: es) X.env = (false, eval e X.env) :: starEach es X.env := by rfl) (hpl : (backTo pos (starEach es X.env)).any (·.1) = false := by rfl) :
    DE X (.Call (.Name x p) (e :: es) [] pos) (dCall sp [] t) := by
  obtain ⟨fd, a, b, c⟩ := h.ok
  refine ⟨(pe_call (E := E0) (ds := []) (dvs := []) c hr hg h.g a b .nil passN ha.run hdb he hpl).wk fun σ H Q q => ?_, fun τ h1 Q Q' k1 q => ha.mono _ _ _ _ (fun ds h1 q E => h.ms _ _ _ _ _ k1 (q E)) q⟩
  obtain ⟨τ, h1, rs, rh, q⟩ := q
  exact LA.of ha.mono rs rh q fun ds h1 vs H1 q1 r1 rh1 k1 => ⟨_, h1, r1.append .nil, rh1, h.ms _ _ _ _ _ (fun _ _ c => c.tk k1) (q1 _)⟩
end
/-- the maker -/
theorem HasX.of {P : Program} {w : World} {K : PySem.W.Frag} {mg : Str → Option Value} {base : Heap} {x : Str} {params : Arguments} {body : List Stmt} {scope : Scope} {N ps : List Str} {k : Nat} {sp : SpD} {t : DTS} (g : mg x = some (.ref (He.ga K x)))
    (F : ∃ fd, FunD K x x params body scope [] [] (He.ga K x) fd) (S : FnScope N ps scope) (ms : MonoSp sp) (mx : MonoX sp) (len : ∀ ds h Q E, sp ds h Q E → ds.length = ps.length)
    (bind : ∀ (kV doc pm : Value) (an : Option Addr) (cdv ct : Value) (us : List Value), us.length = ps.length → bindArgs (PySem.W.fnOf x x params body scope .none kV doc pm an cdv ct) ⟨us, []⟩ = pure (ps.zip us))
    (d : ∀ (cdv : Value) (A : Around) (outer : List Env) (s : Shared) (H : Hp) (E : XK), Room k (A.deeper (envOfC x scope s.heap.objs.size (He.ga K x) cdv)) →
      DSs (cxOf (L2N.CX P w) P w K mg base N x scope (He.ga K x) cdv A outer s H E) (fun cls d _ H => E cls d H) body t)
    (r : ∀ ds h Q Ed, Up Q → sp ds h Q Ed → t { nx := fun _ h' => Q .non h', rt := Q, ex := fun _ => Ed } (dstart N ds) h) : HasX P w K mg base x (k + 1) ps sp := by
  obtain ⟨fd, F⟩ := F
  refine ⟨g, ms, mx, fd, F.kp, F.bindsN bind, F.ok S (fun vs H Q E ⟨ds, h, r, rh, q⟩ => by rw [r.length]; exact len _ _ _ _ q) fun cdv A outer s H vs Q E hr hsp => ?_⟩
  obtain ⟨ds, h, rr, rh, hs⟩ := hsp
  have ht := d cdv A outer s H E hr
  refine ⟨_, ht.run, dstart N ds, h, .start rr, rh, ht.mono _ _ _ _ ?_ (r ds h _ _ Cl.up hs)⟩
  exact ⟨fun τ h q σ' H' rs rh k => q .non H' rfl rh k, fun d h q v H' r rh k => q v H' r rh k, fun _ _ z => z.elim, fun _ _ z => z.elim, fun τ C d h q σ' H' rs rh k => q H' rh k⟩
/-- a raising def's wish, taken -/
theorem takes_def {P : Program} {w : World} {K : PySem.W.Frag} {mg : Str → Option Value} {base : Heap} {N : List Str} {x : Str} {scope : Scope} {f : Addr} {cdv : Value} {A : Around} {outer : List Env} {s : Shared} {H : Hp} {E : XK} :
    L2N.Takes (cxOf (L2N.CX P w) P w K mg base N x scope f cdv A outer s H E) (fun cls d _ H => E cls d H) := L2N.takes_of rfl rfl rfl rfl
theorem takes_nox {X : Cx} : L2N.Takes X WN := fun _ _ ⟨_, _, _, _, _, _, _, _, _, _, _, _, _, _, _, _, z⟩ => z.elim
theorem passes_def {P : Program} {w : World} {K : PySem.W.Frag} {mg : Str → Option Value} {base : Heap} {N : List Str} {x : Str} {scope : Scope} {f : Addr} {cdv : Value} {A : Around} {outer : List Env} {s : Shared} {H : Hp} {E : XK} :
    PassesOwn (model P w) (cxOf (L2N.CX P w) P w K mg base N x scope f cdv A outer s H E).A (cxOf (L2N.CX P w) P w K mg base N x scope f cdv A outer s H E).env (cxOf (L2N.CX P w) P w K mg base N x scope f cdv A outer s H E).xe :=
  passes_of (X := cxOf (L2N.CX P w) P w K mg base N x scope f cdv A outer s H E) rfl
end DL

/-! DExc2: exception classes of the text, raise, try. -/
namespace DL
open PySem PySem.Spec PyProof.Rows L2

/-! ### a class whose __init__ lays its arguments down -/
def oexB (K : PySem.W.Frag) (C : Addr) : Bool := (match K.lookup C with
  | some ⟨.type c, _, .cls cd, sl⟩ => decide (c = "type") && ((match cd.mro with
    | .ref C' :: bm => decide (C' = C) && PySem.HandSPX.refsVE bm
    | _ => false) && (cd.hasDict && (!cd.hasDel && (match sl.toList with
    | [_, _, _, _, some (.builtin n), _] => decide (n = "ValueError.__new__")
    | _ => false))))
  | _ => false) && (decide (PySem.W.findIn K (.ref C) "__setattr__" = some (some (.builtin "object.__setattr__"))) && (decide (PySem.W.subIn K (.ref C) (.type "BaseException") = some true) &&
    (decide (PySem.W.typeIn K (.ref C) = some (.type "type")) && PySem.W.keepIn K (.ref C))))
theorem oexB_ok {K : PySem.W.Frag} {C : Addr} (h : oexB K C = true) : OexC K C := by
  unfold oexB at h
  simp only [Bool.and_eq_true, decide_eq_true_eq] at h
  obtain ⟨h, sa, ex, ty, kp⟩ := h
  refine ⟨?_, sa, ex, ty, kp⟩
  split at h
  · rename_i c dd cd sl q
    simp only [Bool.and_eq_true, decide_eq_true_eq] at h
    obtain ⟨rfl, h1, h2, h3, h4⟩ := h
    obtain ⟨nm, bs, mro, ns, qn, hd, sn, sub, ab, col, del⟩ := cd
    simp only at h1 h2 h3
    split at h1
    · rename_i C' bm
      simp only [Bool.and_eq_true, decide_eq_true_eq] at h1
      obtain ⟨rfl, h1⟩ := h1
      obtain ⟨l⟩ := sl
      simp only at h4
      split at h4
      · rename_i k0 k1 k2 k3 n k5
        obtain rfl : n = "ValueError.__new__" := of_decide_eq_true h4
        have : del = false := by simpa using h3
        subst this h2
        exact ⟨nm, qn, ns, bs, bm, sn, sub, ab, col, dd, k0, k1, k2, k3, k5, q, h1⟩
      · cases h4
    · cases h1
  · cases h
/-- the text of such an __init__ -/
def tInit (K : PySem.W.Frag) : List Str → Nat → TS
  | [], _ => tNext
  | f :: fs, i => tSeq (tOst K f (tVar 0) (tVar i)) (tInit K fs (i + 1))
theorem upd_self' {H : Hp} {a : Addr} {o : HO} (e : H a = some o) : upd H a o = H := by
  funext b
  by_cases z : b = a
  · subst z; rw [upd_same, e]
  · rw [upd_ne z]
theorem upd_upd' {H : Hp} {a : Addr} {o u : HO} : upd (upd H a o) a u = upd H a u := by
  funext b
  by_cases z : b = a
  · subst z; rw [upd_same, upd_same]
  · rw [upd_ne z, upd_ne z, upd_ne z]
theorem upd_comm' {H : Hp} {a b : Addr} {o u : HO} (n : a ≠ b) : upd (upd H a o) b u = upd (upd H b u) a o := by
  funext c
  by_cases z : c = b
  · subst z; rw [upd_same, upd_ne n.symm, upd_same]
  · by_cases y : c = a
    · subst y; rw [upd_ne z, upd_same, upd_same]
    · rw [upd_ne z, upd_ne y, upd_ne y, upd_ne z]
theorem init_more {K : PySem.W.Frag} {C a dx : Addr} {σ : L2.St} {D : Ends} (T : OexC K C) (s0 : σ[0]? = some (some (.ref a))) (ne : dx ≠ a) : ∀ (fs : List Str) (ys : List V) (l : List (Str × V)) (i : Nat) (H : Hp),
    (∀ f ∈ fs, PySem.W.findIn K (.ref C) f = some none) → (∀ (j : Nat) y, ys[j]? = some y → σ[i + j]? = some (some y)) → ys.length = fs.length → H a = some (exo a C (some dx)) → H dx = some (exd dx l) → l.length + fs.length ≤ 900 →
    D.nx σ (upd H dx (exd dx ((fs.zip ys).reverse ++ l))) → tInit K fs i D σ H
  | [], ys, l, i, H, _, _, _, _, ed, _, q => by
    rw [show (([] : List Str).zip ys).reverse ++ l = l from rfl, upd_self' ed] at q
    exact q
  | f :: fs, [], l, i, H, _, _, z, _, _, _, _ => by cases z
  | f :: fs, y :: ys, l, i, H, no, at_, z, ea, ed, le, q => by
    refine ⟨y, at_ 0 y rfl, .ref a, s0, a, C, rfl, T, no f List.mem_cons_self, .inr ⟨dx, l, ea, ed, by omega, ?_⟩⟩
    refine init_more T s0 ne fs ys ((f, y) :: l) (i + 1) _ (fun g hg => no g (List.mem_cons_of_mem _ hg)) (fun j w hw => by have := at_ (j + 1) w (by simpa using hw); rw [show i + 1 + j = i + (j + 1) by omega]; exact this) (by simpa using z)
      (by rw [upd_ne ne.symm]; exact ea) upd_same (by simp at le ⊢; omega) ?_
    rw [upd_upd']
    simpa using q
/-- the promise of such an __init__ -/
def spInit (C : Addr) (fs : List Str) : Sp := fun vs H Q _ => ∃ a ys, vs = .ref a :: ys ∧ ys.length = fs.length ∧ H a = some (exo a C none) ∧ ∀ dx, H dx = none → dx ≠ a → Q .non (upd (upd H dx (exd dx ((fs.zip ys).reverse))) a (exo a C (some dx)))
theorem init_run {K : PySem.W.Frag} {C : Addr} {N fs : List Str} {vs : List V} {H : Hp} {Q : VK} {E : XK} (T : OexC K C) (no : ∀ f ∈ fs, PySem.W.findIn K (.ref C) f = some none) (l0 : fs ≠ []) (l1 : fs.length ≤ 900) (q : spInit C fs vs H Q E) :
    tInit K fs 1 { nx := fun _ H' => Q .non H', rt := Q } (L2.start N vs) H := by
  obtain ⟨a, ys, rfl, l, ea, q⟩ := q
  cases fs with
  | nil => exact (l0 rfl).elim
  | cons f fs =>
    cases ys with
    | nil => cases l
    | cons y ys =>
      have st : ∀ (j : Nat) w, (V.ref a :: y :: ys)[j]? = some w → (L2.start N (.ref a :: y :: ys))[j]? = some (some w) := fun j w e => by
        unfold L2.start
        rw [List.getElem?_append_left (by have := (List.getElem?_eq_some_iff.mp e).1; simpa using this), List.getElem?_map, e]; rfl
      refine ⟨y, st 1 y rfl, .ref a, st 0 _ rfl, a, C, rfl, T, no f List.mem_cons_self, .inl ⟨ea, fun dx n ne => ?_⟩⟩
      refine init_more T (st 0 _ rfl) ne fs ys [(f, y)] 2 _ (fun g hg => no g (List.mem_cons_of_mem _ hg)) (fun j w hw => st (2 + j) w (by rw [show 2 + j = j + 1 + 1 by omega]; simpa using hw)) (by simpa using l) upd_same (by rw [upd_ne ne]; exact upd_same) (by simp at l1 ⊢; omega) ?_
      have := q dx n ne
      rw [upd_comm' ne, upd_upd', upd_comm' ne.symm]
      simpa using this
/-- an exception class of the text: its name, the fields that __init__ lays down -/
structure ExC (K : PySem.W.Frag) (mg : Str → Option Value) (C : Str) (fs : List Str) : Prop where
  g : mg C = some (.ref (He.ga K C))
  oex : OexC K (He.ga K C)
  xf : XfC K (He.ga K C)
  no : ∀ f ∈ fs, PySem.W.findIn K (.ref (He.ga K C)) f = some none
  ini : PySem.W.findIn K (.ref (He.ga K C)) "__init__" = some (some (.ref (He.ma K (He.ga K C) "__init__")))
  fn : PySem.W.typeIn K (.ref (He.ma K (He.ga K C) "__init__")) = some (.type "function")
def exB (K : PySem.W.Frag) (C : Str) (fs : List Str) : Bool := decide (PySem.W.nsIn K mainGlobals C = some (some (.ref (He.ga K C)))) && (oexB K (He.ga K C) && (xfB K (He.ga K C) && ((fs.all fun f => decide (PySem.W.findIn K (.ref (He.ga K C)) f = some none)) &&
  (decide (PySem.W.findIn K (.ref (He.ga K C)) "__init__" = some (some (.ref (He.ma K (He.ga K C) "__init__")))) && decide (PySem.W.typeIn K (.ref (He.ma K (He.ga K C) "__init__")) = some (.type "function"))))))
theorem ExC.of {K : PySem.W.Frag} {h : Heap} {mg : Str → Option Value} {C : Str} {fs : List Str} (X : K.In h) (G : h.Ns mainGlobals mg) (c : exB K C fs = true) : ExC K mg C fs := by
  unfold exB at c
  simp only [Bool.and_eq_true, decide_eq_true_eq, List.all_eq_true] at c
  obtain ⟨c1, c2, c3, c4, c5, c6⟩ := c
  exact ⟨PySem.W.mg_of X G c1, oexB_ok c2, xfB_ok c3, c4, c5, c6⟩
/-- its __init__ keeps its promise -/
theorem init_fn {P : Program} {w : World} {K : PySem.W.Frag} {mg : Str → Option Value} {base : Heap} {C : Str} {fs N ps : List Str} {qual : Str} {params : Arguments} {body : List Stmt} {scope : Scope} {f : Addr} {k : Nat} (T : ExC K mg C fs) (F : ∃ fd, FunD K "__init__" qual params body scope [] [] f fd) (S : FnScope N ps scope)
    (l0 : fs ≠ []) (l1 : fs.length ≤ 900) (lp : ps.length = fs.length + 1)
    (bind : ∀ (kV doc pm : Value) (an : Option Addr) (cdv ct : Value) (us : List Value), us.length = ps.length → bindArgs (PySem.W.fnOf "__init__" qual params body scope .none kV doc pm an cdv ct) ⟨us, []⟩ = pure (ps.zip us))
    (d : ∀ (cdv : Value) (A : Around) (outer : List Env) (s : Shared) (H : Hp) (E : XK), PSs (cxOf CX0 P w K mg base N qual scope f cdv A outer s H E) body (tInit K fs 1)) :
    ∃ fd, Binds K fd ps [] ∧ FnOk P w K mg base CX0 (k + 1) f fd ps (spInit (He.ga K C) fs) := by
  obtain ⟨fd, F⟩ := F
  refine ⟨fd, F.bindsN bind, F.ok S (fun vs H Q E ⟨a, ys, e, l, _⟩ => by rw [e, lp]; simp [l]) fun cdv A outer s H vs Q E hr hsp => ⟨_, d cdv A outer s H E, init_run T.oex T.no l0 l1 hsp⟩⟩
def dRaise (C : Str) (fs : List Str) (t : DTA) : DTS := fun D τ h => t τ h fun ds h1 => ds.length = fs.length ∧ ∀ d, h1 d = none → D.ex τ C (some d) (updD h1 d (.xd (fs.zip ds).reverse))
theorem repKV_zip {K : PySem.W.Frag} {H : Hp} : ∀ {fs : List Str} {ds : List D} {vs : List V}, Reps K H ds vs → RepKV K H (fs.zip ds) (fs.zip vs)
  | [], _, _, _ => .nil
  | f :: fs, [], vs, r => by cases (show _ = _ from r); exact .nil
  | f :: fs, d :: ds, vs, r => by
    obtain ⟨v, ws, rfl, r1, r2⟩ := r
    exact .cons ⟨rfl, r1⟩ (repKV_zip r2)
theorem repKV_append {K : PySem.W.Frag} {H : Hp} {a b : List (Str × D)} {c d : List (Str × V)} (h : RepKV K H a c) (g : RepKV K H b d) : RepKV K H (a ++ b) (c ++ d) := by
  induction h with
  | nil => exact g
  | cons p _ ih => exact .cons p ih
theorem repKV_rev {K : PySem.W.Frag} {H : Hp} {a : List (Str × D)} {c : List (Str × V)} (h : RepKV K H a c) : RepKV K H a.reverse c.reverse := by
  induction h with
  | nil => exact .nil
  | cons p _ ih =>
    rw [List.reverse_cons, List.reverse_cons]
    exact repKV_append ih (.cons p .nil)
/-- the heap behind the making -/
theorem made_tk {H : Hp} {a dx : Addr} {o o2 u : HO} {fv : List (Str × V)} (na : H a = none) (nd : H dx = none) : TK H (upd (del (upd (upd (upd H a o) dx u) a o2) a) dx (.xd fv)) ∧ ∀ b, b ≠ a → b ≠ dx → upd (del (upd (upd (upd H a o) dx u) a o2) a) dx (.xd fv) b = H b := by
  have key : ∀ b, b ≠ a → b ≠ dx → upd (del (upd (upd (upd H a o) dx u) a o2) a) dx (.xd fv) b = H b := fun b z y => by
    rw [upd_ne y, del_ne z, upd_ne z, upd_ne y, upd_ne z]
  refine ⟨.of (fun x xs r => ?_) (fun x o' xs r => ?_), key⟩
  · rw [key x (ne_of_none r na) (ne_of_none r nd)]; exact r
  · rw [key x (ne_of_none r na) (ne_of_none r nd)]; exact r
section
variable {X : Cx} {W : WX} {C : Str} {fs ps : List Str} {fd : FuncData} {k : Nat} {e : Expr} {es : List Expr} {ta : TA} {t : DTA} {p pos pos2 : Pos}
/-- C(e, ..), nothing being handled: its context is None -/
theorem pmk_new (T : ExC X.K X.mg C fs) (Fn : FnOk X.prog X.w X.K X.mg X.base CX0 k (He.ma X.K (He.ga X.K C) "__init__") fd ps (spInit (He.ga X.K C) fs)) (hb : Binds X.K fd ps []) (hr : Room (k + 1) X.A) (hg : Gl X C) (ha : PA X (e :: es) ta)
    (hdb : (C == ("__debug__" : Str)) = false := by decide) (he : starEach (e :: es) X.env = (false, eval e X.env) :: starEach es X.env := by rfl) (hpl : (backTo pos (starEach es X.env)).any (·.1) = false := by rfl) :
    L2N.PMk X (.Call (.Name C p) (e :: es) [] pos) (tMkO (He.ga X.K C) (spInit (He.ga X.K C) fs) [] ta) := fun pins s σ H Q I h => by
  obtain ⟨nm, q, N, bs, bm, sn, sub, ab, col, dd, k0, k1, k2, k3, k5, hC, hbm⟩ := T.oex.cls
  apply wpAny_Call_Name_kw (ld_glob I hg T.g _ hdb)
  refine PySem.W.callWith_K (h₀ := X.base) I.ok.mod.kin T.oex.kC (thn (ha.run pos pins s σ H _ I h) ?_) he hpl
  rintro us ⟨hp, g, dr, tk, os⟩ ⟨vs, H1, I1, r1, hz, q1⟩
  refine ⟨I1.kIn, ?_⟩
  show wpAny _ _ (call (.ref (He.ga X.K C)) us) _ _ _
  generalize hn : hp.objs.size + 1 = a
  have ge : hp.objs.size ≤ a := by omega
  let h2 : Heap := (hp.push (PySem.W.kdv_tup us)).push (PySem.HandSPX.excO (He.ga X.K C) hp.objs.size)
  have kk : ∀ b o, hp.get? b = some o → h2.get? b = some o := fun b o e => Heap.get?_push_of_some _ (Heap.get?_push_of_some _ e)
  have at_ : h2.get? a = some (PySem.HandSPX.excO (He.ga X.K C) hp.objs.size) := by subst hn; heap_get
  have I2 : Inv X pins σ (upd H1 a (exo a (He.ga X.K C) none)) ⟨h2, g, dr, tk, os⟩ := I1.laid (t' := tk) (a := a) (o := exo a (He.ga X.K C) none) (h' := h2) kk ge (exo_ok at_)
  have hq := q1 a (I1.hok.fresh ge)
  rw [List.append_nil] at hq
  have rr : Vals (V.ref a :: vs) (Value.ref a :: us) := .cons rfl r1
  have hl : (Value.ref a :: us ++ []).length = ps.length := by
    rw [List.append_nil, ← rr.length]
    exact Fn.len _ _ _ _ hq
  have bn := hb _ (Value.ref a :: us) I2.kIn hl
  rw [List.append_nil] at bn
  have small : us.length ≤ sizeLine := by rw [← Paired.length r1, sizeLine_eq]; omega
  subst hn
  refine wpAny_call (PySem.HandSPX.call_own F.excBase_ValueError (fun Y => PySem.HandSPX.refsVE_contains Y bm hbm) (I1.kIn _ _ hC) (PySem.W.looks_findIn I1.kIn T.ini) (fun self => PySem.W.bind_fn I1.kIn self T.fn) small (codeAny_mono (Fn.run _ X.stack _ _ ⟨Value.ref (hp.objs.size + 1) :: us, []⟩ _ _ _ (fun _ _ _ => False) (hr.make (He.ga X.K C) us []) (I2.env0.make (He.ga X.K C) us []) bn rr hq) ?_))
  rintro (er | fl) s' z
  · exact z.elim
  · cases fl with
    | ret u =>
      obtain ⟨v, H2, os2, bare2, un2, hok2, rv, ev, d, gs, ea, ed, hd1, q2⟩ := z
      subst ev
      obtain ⟨h3, g2, d2, t2, os'⟩ := s'
      obtain ⟨t0, G, J, kG, gn, hoe, na⟩ := mk_end0 (d2 := d2) (t2 := t2) I1 ge kk un2 hok2 os2 bare2 ea ed hd1
      exact ⟨rv, _, _, _, ⟨G, g2, d2, t2, os'⟩, _, .ref (He.ga X.K C), some d, rfl, J, kG, gn, hoe, ⟨rfl, rfl, fun vs hv => by cases hv; rfl⟩, rfl, rfl, na, rfl, bare2, raises_own T.oex.exC T.oex.tyC, q2⟩
    | _ => exact z.elim
theorem ds_raise (T : ExC X.K X.mg C fs) (F : ∃ fd, Binds X.K fd ps [] ∧ FnOk X.prog X.w X.K X.mg X.base CX0 (k + 1) (He.ma X.K (He.ga X.K C) "__init__") fd ps (spInit (He.ga X.K C) fs)) (l1 : fs.length ≤ 900) (hc : X.calm = true) (tk : L2N.Takes X W) (hr : Room (k + 2) X.A) (hg : Gl X C) (ha : DA X (e :: es) t)
    (hdb : (C == ("__debug__" : Str)) = false := by decide) (he : starEach (e :: es) X.env = (false, eval e X.env) :: starEach es X.env := by rfl) (hpl : (backTo pos (starEach es X.env)).any (·.1) = false := by rfl) :
    DS X W (.Raise (some (.Call (.Name C p) (e :: es) [] pos)) none pos2) (dRaise C fs t) := by
  obtain ⟨fd, hb, F⟩ := F
  refine ⟨(L2N.ps_raise hc tk (pmk_new T F hb hr hg ha.run hdb he hpl)).wk fun E σ H q => ?_, fun D D' τ h le q => ha.mono _ _ _ _ (fun ds h1 ⟨l, q⟩ => ⟨l, fun d n => le.ex _ _ _ _ (q d n)⟩) q⟩
  obtain ⟨τ, h, rs, rh, q⟩ := q
  refine LA.of ha.mono rs rh q fun ds h1 vs H1 ⟨l, q1⟩ r1 rh1 k1 => ?_
  have lv := r1.length
  refine ⟨by omega, fun a na => ⟨a, vs, by simp, by omega, upd_same, fun dx nd ne => ⟨rfl, dx, _, upd_same, by rw [upd_ne ne, upd_same], ?_, ?_⟩⟩⟩
  · rw [upd_ne ne] at nd; exact nd
  · rw [upd_ne ne] at nd
    obtain ⟨tk2, key⟩ := made_tk (o := exo a (He.ga X.K C) none) (o2 := exo a (He.ga X.K C) (some dx)) (u := exd dx (fs.zip vs).reverse) (fv := (fs.zip vs).reverse) na nd
    refine q1 dx (rh1.free nd) σ _ (rs.tk (k1.trans tk2)) (fun b o eb => ?_) (k1.trans tk2)
    by_cases z : b = dx
    · subst z
      rw [updD_same] at eb
      cases eb
      exact ⟨_, upd_same, repKV_rev (repKV_zip (r1.tk tk2))⟩
    · rw [updD_ne z] at eb
      have rb := rh1 b o eb
      obtain ⟨u, eu⟩ := rb.there
      exact rb.stay tk2 (key b (ne_of_none eu na) z)
end
end DL

/-! DTry: try, what a suite reads of the exception, defs called there. -/
namespace DL
open PySem PySem.Spec PyProof.Rows L2

theorem RepS.drop {K : PySem.W.Frag} {H : Hp} {τ : DSt} {σ : L2.St} (r : RepS K H τ σ) (i : Nat) : RepS K H (τ.set i none) (σ.set i none) := by
  refine ⟨fun j e he => ?_, by simpa using r.len⟩
  by_cases hj : i = j
  · subst hj
    by_cases hi : i < τ.length
    · rw [List.getElem?_set_self hi] at he; cases he
    · rw [List.getElem?_eq_none (by simpa using hi)] at he; cases he
  · rw [List.getElem?_set_ne hj] at he ⊢
    exact r.at_ j e he
/-- does the clause take the class? -/
def exmD (l : List (Str × Bool)) (C : Str) : Option Bool := l.lookup C
/-- try: tb / except .. as slot i: ts -/
def dTryAs (l : List (Str × Bool)) (i : Nat) (tb : DTS) (ts : Addr → Str → Option Addr → DTS) : DTS := fun D τ h => tb { D with ex := fun τ' C d h' => ∃ b, exmD l C = some b ∧
  (b = true → ∀ a, h' a = none → ts a C d { nx := fun τ2 h2 => D.nx (τ2.set i none) h2, rt := D.rt, bk := fun τ2 h2 => D.bk (τ2.set i none) h2, ct := fun τ2 h2 => D.ct (τ2.set i none) h2 } (τ'.set i (some (.ref a))) h') ∧ (b = false → D.ex τ' C d h') } τ h
/-- what is told of a clause's class -/
def ExmL (K : PySem.W.Frag) (x : Str) (l : List (Str × Bool)) : Prop := ∀ p ∈ l, PySem.W.exmOne K (.ref (He.ga K p.1)) (.ref (He.ga K x)) = some p.2
def exmLB (K : PySem.W.Frag) (x : Str) (l : List (Str × Bool)) : Bool := l.all fun p => decide (PySem.W.exmOne K (.ref (He.ga K p.1)) (.ref (He.ga K x)) = some p.2)
theorem exmLB_ok {K : PySem.W.Frag} {x : Str} {l : List (Str × Bool)} (h : exmLB K x l = true) : ExmL K x l := fun p hp => of_decide_eq_true (List.all_eq_true.mp h p hp)
theorem lookup_mem' {l : List (Str × Bool)} {C : Str} {b : Bool} (h : l.lookup C = some b) : (C, b) ∈ l := by
  induction l with
  | nil => cases h
  | cons p r ih =>
    obtain ⟨D, c⟩ := p
    rw [List.lookup_cons] at h
    by_cases e : C == D
    · rw [e] at h
      simp only at h
      cases h
      rw [eq_of_beq e]
      exact List.mem_cons_self
    · rw [Bool.not_eq_true] at e
      rw [e] at h
      exact List.mem_cons_of_mem _ (ih h)
section
variable {X : Cx} {W : WX} {x n : Str} {i : Nat} {body suite : List Stmt} {b₀ : Stmt} {np pos pos' : Pos} {tb : DTS} {ts : Addr → Str → Option Addr → DTS} {l : List (Str × Bool)}
theorem ds_tryAs (hs : X.stack = X.env :: X.outer) (hf : X.env.frame = some X.env.locals) (hN : X.N.Nodup) (hi : X.N[i]? = some n) (hln : X.env.kindOf n = some .local) (hg : Gl X x) (hm : X.mg x = some (.ref (He.ga X.K x))) (ml : ExmL X.K x l) (tk : L2N.Takes X W)
    (hb : ∀ (W : WX) (pn : List (Addr × Obj)) (xe : Value → Shared → Prop), L2N.Takes (X.tr pn xe) W → PassesOwn (model X.prog X.w) X.A X.env xe → DSs (X.tr pn xe) W body tb)
    (hsu : ∀ (a : Addr) (oe : Obj) (C : Str) (d : Option Addr) (pn : List (Addr × Obj)), (C, true) ∈ l → L2N.Zn (.ref (He.ga X.K C)) d oe → (∃ vs, oe.data = .fields vs) → DSs (X.suite a ((a, oe) :: pn)) WN (b₀ :: suite) (ts a C d))
    (hdb : (x == ("__debug__" : Str)) = false := by decide) :
    DS X W (.Try body [.ExceptHandler (some (.Name x np)) (some n) (b₀ :: suite) pos'] [] [] pos) (dTryAs l i tb ts) := by
  have mono : ∀ a C d, (C, true) ∈ l → MonoS (ts a C d) := fun a C d hC =>
    (hsu a { cls := .ref (He.ga X.K C), dict := d, data := .fields #[.none, .none, .none] } C d [] hC ⟨rfl, rfl, fun vs h => by cases h; rfl⟩ ⟨_, rfl⟩).mono
  have mb : MonoS tb := (hb WN [] (fun _ _ => False) takes_nox PassesOwn.never).mono
  refine ⟨(L2N.ps_try_as (c := .ref (He.ga X.K x)) (tb := fun W => LS X.K W tb) (ts := fun a cls d D σ H => ∃ C, cls = .ref (He.ga X.K C) ∧ (C, true) ∈ l ∧ LS X.K WN (ts a C d) D σ H) hs hf hN hi hln ⟨hg, hdb, .inl hm⟩ tk (fun W pn xe t p => (hb W pn xe t p).run) (fun a oe cls d pn hz hv => ?_)).wk fun E σ H q => ?_, fun D D' τ h le q => ?_⟩
  · refine ⟨fun pins s σ H D I h => ?_⟩
    obtain ⟨C, rfl, hC, q⟩ := h
    exact (hsu a oe C d pn hC hz hv).run.run pins s σ H D I q
  · obtain ⟨τ, h, rs, rh, q⟩ := q
    unfold dTryAs at q
    refine ⟨τ, h, rs, rh, mb _ _ _ _ ?_ q⟩
    refine ⟨fun _ _ q => q, fun _ _ q => q, fun _ _ q => q, fun _ _ q => q, ?_⟩
    rintro τ' C d h' ⟨b, eb, h1, h2⟩ σ' H' rs' rh' k
    refine ⟨b, ml _ (lookup_mem' eb), fun bt a na => ?_, fun bf => h2 bf σ' H' rs' rh' k⟩
    subst bt
    refine ⟨C, rfl, lookup_mem' eb, _, h', rs'.set (d := .ref a) rfl i, rh', mono _ _ _ (lookup_mem' eb) _ _ _ _ ?_ (h1 rfl a (rh'.free na))⟩
    exact ⟨fun τ2 h2 c σ2 H2 r2 rh2 k2 => c _ H2 (r2.drop i) rh2 (k.trans k2), fun _ _ c => Cl.tk k c, fun τ2 h2 c σ2 H2 r2 rh2 k2 => c _ H2 (r2.drop i) rh2 (k.trans k2), fun τ2 h2 c σ2 H2 r2 rh2 k2 => c _ H2 (r2.drop i) rh2 (k.trans k2), fun _ _ _ _ z => z.elim⟩
  · unfold dTryAs at q ⊢
    refine mb _ _ _ _ ?_ q
    refine ⟨le.nx, le.rt, le.bk, le.ct, ?_⟩
    rintro τ' C d h' ⟨b, eb, h1, h2⟩
    refine ⟨b, eb, fun bt a na => mono _ _ _ (by subst bt; exact lookup_mem' eb) _ _ _ _ ?_ (h1 bt a na), fun bf => le.ex _ _ _ _ (h2 bf)⟩
    exact ⟨fun _ _ c => le.nx _ _ c, le.rt, fun _ _ c => le.bk _ _ c, fun _ _ c => le.ct _ _ c, fun _ _ _ _ z => z⟩
end
/-- e.f, e the exception at a -/
def dXf (a : Addr) (d : Option Addr) (f : Str) (te : DTE) : DTE := fun τ h Q => te τ h fun x h1 => x = .ref a ∧ ∃ dd fs v, d = some dd ∧ h1 dd = some (.xd fs) ∧ fs.lookup f = some v ∧ Q v h1
theorem repKV_lookup {K : PySem.W.Frag} {H : Hp} {fs : List (Str × D)} {vs : List (Str × V)} {f : Str} {d : D} (r : RepKV K H fs vs) (e : fs.lookup f = some d) : ∃ v, vs.lookup f = some v ∧ Rep K H d v := by
  induction r with
  | nil => cases e
  | @cons p q _ _ pq _ ih =>
    obtain ⟨g, d1⟩ := p
    obtain ⟨g', v1⟩ := q
    obtain ⟨e1, r1⟩ := pq
    simp only at e1 r1
    subst e1
    rw [List.lookup_cons] at e ⊢
    by_cases z : f == g
    · rw [z] at e ⊢
      simp only at e
      cases e
      exact ⟨v1, rfl, r1⟩
    · rw [Bool.not_eq_true] at z
      rw [z] at e ⊢
      exact ih e
section
variable {X : Cx} {a : Addr} {C : Str} {oe : Obj} {d : Option Addr} {pn : List (Addr × Obj)} {e : Expr} {te : DTE} {pos : Pos} {n : Str}
theorem de_xf (T : XfC X.K (He.ga X.K C)) (hno : PySem.W.findIn X.K (.ref (He.ga X.K C)) n = some none) (hz : L2N.Zn (.ref (He.ga X.K C)) d oe) (hf : ∃ vs, oe.data = .fields vs) (he : DE (X.suite a ((a, oe) :: pn)) e te) (hb : attributeBase e n X.env (eval e X.env) = eval e X.env := by rfl) :
    DE (X.suite a ((a, oe) :: pn)) (.Attribute e n pos) (dXf a d n te) := by
  refine ⟨(pe_xf T hno hz.zc hf he.run hb).wk fun σ H Q q => ?_, fun τ h Q Q' k q => he.mono _ _ _ _ (fun x h1 ⟨e1, dd, fs, v, e2, e3, e4, q⟩ => ⟨e1, dd, fs, v, e2, e3, e4, k _ _ q⟩) q⟩
  obtain ⟨τ, h, rs, rh, q⟩ := q
  refine LE.of he.mono rs rh q fun x h1 v H1 q1 r1 rh1 k1 => ?_
  obtain ⟨rfl, dd, fs, y, e2, e3, e4, q⟩ := q1
  cases rep_ref r1
  obtain ⟨vs, ev, rv⟩ := rh1 dd _ e3
  obtain ⟨w, ew, rw'⟩ := repKV_lookup rv e4
  exact ⟨rfl, rfl, dd, vs, w, e2, ev, ew, q w H1 rw' rh1 k1⟩
/-- the suite bears the exception -/
theorem hot_suite {cls : Value} (hz : L2N.Zn cls d oe) (hf : ∃ vs, oe.data = .fields vs) : L2H.HotC (X.suite a ((a, oe) :: pn)) := by
  obtain ⟨vs, hv⟩ := hf
  exact ⟨(a, oe), ⟨rfl, vs, hv, hz.2.2 vs hv⟩, List.mem_cons_self⟩
end
/-- a def, called while an exception is handled -/
structure HasH (P : Program) (w : World) (K : PySem.W.Frag) (mg : Str → Option Value) (base : Heap) (x : Str) (k : Nat) (ps : List Str) (sp : SpD) : Prop where
  g : mg x = some (.ref (He.ga K x))
  ms : MonoSp sp
  ok : ∃ fd, PySem.W.keepIn K (.ref (He.ga K x)) = true ∧ Binds K fd ps [] ∧ L2H.FnH P w K mg base CX0 k (He.ga K x) fd ps (LSp K sp)
theorem HasH.mono {P : Program} {w : World} {K : PySem.W.Frag} {mg : Str → Option Value} {base : Heap} {x : Str} {j k : Nat} {ps : List Str} {sp : SpD} (h : HasH P w K mg base x j ps sp) (l : j ≤ k) : HasH P w K mg base x k ps sp :=
  ⟨h.g, h.ms, let ⟨fd, a, b, c⟩ := h.ok; ⟨fd, a, b, c.len, fun A outer s H args us vs Q E p hr => c.run A outer s H args us vs Q E p (hr.mono l)⟩⟩
theorem HasH.of {P : Program} {w : World} {K : PySem.W.Frag} {mg : Str → Option Value} {base : Heap} {x : Str} {params : Arguments} {body : List Stmt} {scope : Scope} {N ps : List Str} {k : Nat} {sp : SpD} {t : DTS} (g : mg x = some (.ref (He.ga K x)))
    (F : ∃ fd, FunD K x x params body scope [] [] (He.ga K x) fd) (S : FnScope N ps scope) (ms : MonoSp sp) (len : ∀ ds h Q E, sp ds h Q E → ds.length = ps.length)
    (bind : ∀ (kV doc pm : Value) (an : Option Addr) (cdv ct : Value) (us : List Value), us.length = ps.length → bindArgs (PySem.W.fnOf x x params body scope .none kV doc pm an cdv ct) ⟨us, []⟩ = pure (ps.zip us))
    (d : ∀ (cdv : Value) (A : Around) (outer : List Env) (s : Shared) (H : Hp) (E : XK) (p : Addr × Obj), L2H.HotC (L2H.cxH CX0 P w K mg base N x scope (He.ga K x) cdv A outer s H E p).nox → L2H.RoomH k (A.deeper (envOfC x scope s.heap.objs.size (He.ga K x) cdv)) →
      DSs (L2H.cxH CX0 P w K mg base N x scope (He.ga K x) cdv A outer s H E p).nox WN body t)
    (r : ∀ ds h Q Ed, Up Q → sp ds h Q Ed → t { nx := fun _ h' => Q .non h', rt := Q } (dstart N ds) h) : HasH P w K mg base x (k + 1) ps sp := by
  obtain ⟨fd, F⟩ := F
  refine ⟨g, ms, fd, F.kp, F.bindsN bind, ?_⟩
  obtain ⟨oc, od, dV, kV, doc, pm, an, cdv, ct, osl, rfl, lk, hcd, _, _⟩ := F.ex
  refine L2H.fn_ofH lk hcd S (fun vs H Q E ⟨ds, h, r, rh, q⟩ => by rw [r.length]; exact len _ _ _ _ q) fun A outer s H vs Q E p hot hr hsp => ?_
  obtain ⟨ds, h, rr, rh, hs⟩ := hsp
  have ht := d cdv A outer s H E p ⟨p, hot, List.mem_cons_self⟩ hr
  refine ⟨_, PSs.nox ht.run, dstart N ds, h, .start rr, rh, ht.mono _ _ _ _ ?_ (r ds h _ _ Cl.up hs)⟩
  exact ⟨fun τ h q σ' H' rs rh k => q .non H' rfl rh k, fun d h q v H' r rh k => q v H' r rh k, fun _ _ z => z.elim, fun _ _ z => z.elim, fun _ _ _ _ z => z.elim⟩
theorem HasH.void {P : Program} {w : World} {K : PySem.W.Frag} {mg : Str → Option Value} {base : Heap} {x : Str} {params : Arguments} {body : List Stmt} {scope : Scope} {ps : List Str} {k : Nat} {sp : SpD} (g : mg x = some (.ref (He.ga K x)))
    (F : ∃ fd, FunD K x x params body scope [] [] (He.ga K x) fd)
    (bind : ∀ (kV doc pm : Value) (an : Option Addr) (cdv ct : Value) (us : List Value), us.length = ps.length → bindArgs (PySem.W.fnOf x x params body scope .none kV doc pm an cdv ct) ⟨us, []⟩ = pure (ps.zip us))
    (no : ∀ ds h Q E, ¬ sp ds h Q E) : HasH P w K mg base x k ps sp :=
  let ⟨fd, F⟩ := F
  ⟨g, fun ds h Q _ E _ q => (no ds h Q E q).elim, fd, F.kp, F.bindsN bind, fun _ _ _ _ ⟨_, _, _, _, q⟩ => (no _ _ _ _ q).elim, fun _ _ _ _ _ _ _ _ _ _ _ _ _ _ _ _ ⟨_, _, _, _, q⟩ => (no _ _ _ _ q).elim⟩
theorem uH64 {k : Nat} {A : Around} (r : L2H.RoomH k A) : A.units + 64 < cLine := by have := r.un; omega
theorem uH65 {k : Nat} {A : Around} (r : L2H.RoomH k A) : A.units + 65 < cLine := by have := r.un; omega
section
variable {X : Cx} {W : WX} {k : Nat} {ps : List Str} {sp : SpD} {x : Str} {p pos : Pos} {e : Expr} {es : List Expr} {t : DTA}
theorem de_hasH (h : HasH X.prog X.w X.K X.mg X.base x k ps sp) (hr : L2H.RoomH k X.A) (hc : L2H.HotC X) (hg : Gl X x) (ha : DA X (e :: es) t) (hdb : (x == ("__debug__" : Str)) = false := by decide) (he : starEach (e :: es) X.env = (false, eval e X.env) :: starEach es X.env := by rfl) (hpl : (backTo pos (starEach es X.env)).any (·.1) = false := by rfl) :
    DE X (.Call (.Name x p) (e :: es) [] pos) (dCall sp [] t) := by
  obtain ⟨fd, a, b, c⟩ := h.ok
  refine ⟨(L2H.pe_callH (E := fun _ => E0) c hr hc hg h.g a b (fun _ _ _ _ _ _ _ z => z.elim) ha.run hdb he hpl).wk fun σ H Q q => ?_, fun τ h1 Q Q' k1 q => ha.mono _ _ _ _ (fun ds h1 q E => h.ms _ _ _ _ _ k1 (q E)) q⟩
  obtain ⟨τ, h1, rs, rh, q⟩ := q
  exact LA.of ha.mono rs rh q fun ds h1 vs H1 q1 r1 rh1 k1 => ⟨_, h1, r1, rh1, h.ms _ _ _ _ _ (fun _ _ c => Cl.tk k1 c) (by simpa using q1 _)⟩
/-- what is walked there -/
structure DIH (X : Cx) (tg iter : Expr) (wi : DTI) : Prop where
  run : L2H.PIH X tg iter (LI X.K wi)
  mono : MonoI wi
theorem _root_.L2H.PIH.wk {X : Cx} {tg e : Expr} {t t' : TI} (p : L2H.PIH X tg e t) (k : ∀ σ H Q, t' σ H Q → t σ H Q) : L2H.PIH X tg e t' := ⟨fun pins s σ H Q I h => p.run pins s σ H Q I (k _ _ _ h)⟩
theorem di_rng1H {tg a : Expr} (hg : Gl X "range") (hm : X.mg "range" = none) (ha : DA X [a] t) (hs : starEach [a] X.env = [(false, eval a X.env)] := by rfl) : DIH X tg (.Call (.Name "range" p) [a] [] pos) (diRng1 t) := by
  refine ⟨(L2H.pi_range1H hg hm ha.run hs).wk fun σ H R q => ?_, fun τ h R R' k q => ha.mono _ _ _ _ (fun x h1 ⟨j, e, l1, l2, q⟩ => ⟨j, e, l1, l2, k _ _ _ q⟩) q⟩
  obtain ⟨τ, h, rs, rh, q⟩ := q
  refine LA.of ha.mono rs rh q fun d h1 v H1 ⟨j, e, l1, l2, q⟩ r1 rh1 k1 => ?_
  subst e
  obtain ⟨x, rfl, r⟩ := reps1 r1
  cases rep_int r
  exact ⟨j, rfl, l1, l2, q _ H1 itd_range rh1 k1⟩
theorem ds_forH {tg iter : Expr} {body : List Stmt} {wi : DTI} {g : DTG} {tb : DTS} (hp : PassesOwn (model X.prog X.w) X.A X.env X.xe) (hc : L2H.HotC X) (hi : DIH X tg iter wi) (hg : DG X tg g) (hb : DSs X W body tb)
    (hs : ∀ x, foldedSetIterable iter X.env x = pure x := by intro _; rfl) : DS X W (.For tg iter body [] pos) (dFor wi g tb) :=
  ⟨(L2H.ps_forH hp hc hi.run hg.run hb.run hs).wk fun E σ H q => dFor_lift hi.mono hg.mono hb.mono q, dFor_mono hi.mono hg.mono hb.mono⟩
end
end DL

/-! DDict: dicts with int and text keys over D. -/
namespace DL
open PySem PySem.Spec PyProof.Rows L2

theorem u1 {k : Nat} {A : Around} (r : Room k A) : A.units + 1 < cLine := by have := r.un; omega
theorem uH1 {k : Nat} {A : Around} (r : L2H.RoomH k A) : A.units + 1 < cLine := by have := r.un; omega
def keyD : D → Option Key
  | .int i => some (.inl i)
  | .str x => some (.inr x)
  | _ => none
theorem keyD_V {K : PySem.W.Frag} {H : Hp} {d : D} {v : V} {k : Key} (r : Rep K H d v) (e : keyD d = some k) : v = kV k := by
  cases d <;> first | (cases e; done) | skip
  · cases (show _ = _ from r); cases e; rfl
  · cases (show _ = _ from r); cases e; rfl
section
variable {α : Type}
def getK (kvs : List (Key × α)) (k : Key) : Option α := (kvs.find? fun kv => decide (kv.1 = k)).map (·.2)
def setK (kvs : List (Key × α)) (k : Key) (v : α) : List (Key × α) :=
  if (kvs.any fun kv => decide (kv.1 = k)) = true then kvs.map (fun kv => if kv.1 = k then (kv.1, v) else kv) else kvs ++ [(k, v)]
def delK (kvs : List (Key × α)) (k : Key) : List (Key × α) := kvs.filter fun kv => decide (kv.1 ≠ k)
end
section
variable {K : PySem.W.Frag} {H : Hp} {ds : List (Key × D)} {vs : List (Key × V)} {k : Key}
theorem kv_get (r : RepKV K H ds vs) : (∀ d, getK ds k = some d → ∃ v, valV vs k = some v ∧ Rep K H d v) ∧ (getK ds k = none → valV vs k = none) := by
  induction r with
  | nil => exact ⟨fun d e => (by cases e), fun _ => rfl⟩
  | @cons p q _ _ pq _ ih =>
    obtain ⟨g, d1⟩ := p
    obtain ⟨g', v1⟩ := q
    obtain ⟨e1, r1⟩ := pq
    simp only at e1 r1
    subst e1
    by_cases z : g = k
    · unfold getK valV
      simp only [List.find?_cons, z, decide_true, Option.map_some, Option.some.injEq]
      exact ⟨fun d e => ⟨v1, rfl, e ▸ r1⟩, fun e => (by cases e)⟩
    · unfold getK valV at ih ⊢
      simp only [List.find?_cons, z, decide_false]
      exact ih
theorem kv_any (r : RepKV K H ds vs) : (ds.any fun kv => decide (kv.1 = k)) = vs.any fun kv => decide (kv.1 = k) := by
  induction r with
  | nil => rfl
  | cons pq _ ih => rw [List.any_cons, List.any_cons, ih, pq.1]
theorem kv_app {p : Key × D} {q : Key × V} (r : RepKV K H ds vs) (pq : p.1 = q.1 ∧ Rep K H p.2 q.2) : RepKV K H (ds ++ [p]) (vs ++ [q]) := by
  induction r with
  | nil => exact .cons pq .nil
  | cons h _ ih => exact .cons h ih
theorem kv_map {d : D} {v : V} (r : RepKV K H ds vs) (q : Rep K H d v) : RepKV K H (ds.map fun kv => if kv.1 = k then (kv.1, d) else kv) (vs.map fun kv => if kv.1 = k then (kv.1, v) else kv) := by
  induction r with
  | nil => exact .nil
  | cons pq _ ih =>
    refine .cons ?_ ih
    dsimp only
    rw [pq.1]
    split
    · exact ⟨rfl, q⟩
    · exact pq
theorem kv_set {d : D} {v : V} (r : RepKV K H ds vs) (q : Rep K H d v) : RepKV K H (setK ds k d) (putK vs k v) := by
  unfold setK putK
  rw [kv_any r]
  split
  · exact kv_map r q
  · exact kv_app r ⟨rfl, q⟩
theorem kv_del (r : RepKV K H ds vs) : RepKV K H (delK ds k) (dropK vs k) := by
  unfold delK dropK
  induction r with
  | nil => exact .nil
  | cons pq _ ih =>
    rw [List.filter_cons, List.filter_cons, pq.1]
    split
    · exact .cons pq ih
    · exact ih
end
theorem RepH.dK {K : PySem.W.Frag} {H : Hp} {h : DH} {a : Addr} {kvs : List (Key × D)} (r : RepH K H h) (e : h a = some (.dK kvs)) : ∃ vs, H a = some (.dK vs) ∧ RepKV K H kvs vs := r a _ e
theorem dmut {H : Hp} {a : Addr} {vs : List (Key × V)} (e : H a = some (.dK vs)) : Mut (H a) := by rw [e]; exact True.intro
def isDk (x : D) (h : DH) (kvs : List (Key × D)) : Prop := ∃ a, x = .ref a ∧ h a = some (.dK kvs)
def dDNew : DTE := fun _ h Q => ∀ p, h p = none → Q (.ref p) (updD h p (.dK []))
def dDGet (td ty : DTE) : DTE := fun τ h Q => td τ h fun x h1 => ty τ h1 fun y h2 => ∃ a kvs k v, x = .ref a ∧ h2 a = some (.dK kvs) ∧ keyD y = some k ∧ getK kvs k = some v ∧ Q v h2
def dDIn (ty td : DTE) : DTE := fun τ h Q => ty τ h fun y h1 => td τ h1 fun x h2 => ∃ a kvs k, x = .ref a ∧ h2 a = some (.dK kvs) ∧ keyD y = some k ∧ Q (.bl (getK kvs k).isSome) h2
def dDNotIn (ty td : DTE) : DTE := fun τ h Q => ty τ h fun y h1 => td τ h1 fun x h2 => ∃ a kvs k, x = .ref a ∧ h2 a = some (.dK kvs) ∧ keyD y = some k ∧ Q (.bl (!(getK kvs k).isSome)) h2
def dDPut (td ty tv : DTE) : DTS := fun D τ h => tv τ h fun v h1 => td τ h1 fun x h2 => ty τ h2 fun y h3 => ∃ a kvs k, x = .ref a ∧ h3 a = some (.dK kvs) ∧ keyD y = some k ∧ kvs.length < sizeLine ∧ D.nx τ (updD h3 a (.dK (setK kvs k v)))
def dDDel (td ty : DTE) : DTS := fun D τ h => td τ h fun x h1 => ty τ h1 fun y h2 => ∃ a kvs k, x = .ref a ∧ h2 a = some (.dK kvs) ∧ keyD y = some k ∧ (getK kvs k).isSome = true ∧ D.nx τ (updD h2 a (.dK (delK kvs k)))
def dDGet1 (td ty : DTE) : DTE := fun τ h Q => td τ h fun x h1 => ∃ a kvs, x = .ref a ∧ h1 a = some (.dK kvs) ∧ ty τ h1 fun y h2 => ∃ kvs k, h2 a = some (.dK kvs) ∧ keyD y = some k ∧ Q ((getK kvs k).getD .non) h2
def dDGet2 (td ty tx : DTE) : DTE := fun τ h Q => td τ h fun x h1 => ∃ a kvs, x = .ref a ∧ h1 a = some (.dK kvs) ∧ ty τ h1 fun y h2 => tx τ h2 fun z h3 => ∃ kvs k, h3 a = some (.dK kvs) ∧ keyD y = some k ∧ Q ((getK kvs k).getD z) h3
section
variable {X : Cx} {W : WX} {o i e f value : Expr} {pos pos' tpos apos cpos : Pos} {td ty tv tx : DTE}
theorem de_dnew : DE X (.Dict [] [] pos) dDNew := by
  refine ⟨pe_dnewK.wk fun σ H Q q => ?_, fun τ h Q Q' k q p n => k _ _ (q p n)⟩
  obtain ⟨τ, h, rs, rh, q⟩ := q
  exact fun p n => q p (rh.free n) _ _ rfl (rh.new n ⟨[], upd_same, .nil⟩) (.new n)
theorem de_dget (hu : X.A.units + 1 < cLine) (ho : DE X o td) (hi : DE X i ty) (hs : NoSl i) : DE X (.Subscript o i pos) (dDGet td ty) := by
  refine ⟨(pe_dget hu ho.run hi.run hs).wk fun σ H Q q => ?_, fun τ h Q Q' k q => ho.mono _ _ _ _ (fun x h1 q => hi.mono _ _ _ _ (fun y h2 ⟨a, kvs, k', v, e1, e2, e3, e4, q⟩ => ⟨a, kvs, k', v, e1, e2, e3, e4, k _ _ q⟩) q) q⟩
  obtain ⟨τ, h, rs, rh, q⟩ := q
  refine LE.of ho.mono rs rh q fun x h1 u H1 q1 r1 rh1 k1 => ?_
  refine LE.of hi.mono (rs.tk k1) rh1 q1 fun y h2 w H2 q2 r2 rh2 k2 => ?_
  obtain ⟨a, kvs, k, v, rfl, e2, e3, e4, q⟩ := q2
  cases rep_ref r1
  obtain ⟨vs, ev, rv⟩ := rh2.dK e2
  obtain ⟨v', gv, rv'⟩ := (kv_get rv).1 v e4
  rw [keyD_V r2 e3]
  exact ⟨a, v', rfl, gv ▸ DGet.k ev, q v' H2 rv' rh2 (k1.trans k2)⟩
theorem kv_some {K : PySem.W.Frag} {H : Hp} {ds : List (Key × D)} {vs : List (Key × V)} {k : Key} (r : RepKV K H ds vs) : (valV vs k).isSome = (getK ds k).isSome := by
  cases e : getK ds k with
  | none => rw [(kv_get r).2 e]; rfl
  | some d =>
    obtain ⟨v, e2, _⟩ := (kv_get r).1 d e
    rw [e2]; rfl
theorem din_lift {K : PySem.W.Frag} {f : Bool → Bool} (mi : Mono ty) (mo : Mono td) {σ : L2.St} {H : Hp} {Q : VK} (q : LE K (fun τ h Q => ty τ h fun y h1 => td τ h1 fun x h2 => ∃ a kvs k, x = .ref a ∧ h2 a = some (.dK kvs) ∧ keyD y = some k ∧ Q (.bl (f (getK kvs k).isSome)) h2) σ H Q) :
    LE K ty σ H fun y H1 => LE K td σ H1 fun x H2 => ∃ a o, x = .ref a ∧ DGet H2 a y o ∧ Q (.bl (f o.isSome)) H2 := by
  obtain ⟨τ, h, rs, rh, q⟩ := q
  refine LE.of mi rs rh q fun y h1 u H1 q1 r1 rh1 k1 => ?_
  refine LE.of mo (rs.tk k1) rh1 q1 fun x h2 w H2 q2 r2 rh2 k2 => ?_
  obtain ⟨a, kvs, k, rfl, e2, e3, q⟩ := q2
  cases rep_ref r2
  obtain ⟨vs, ev, rv⟩ := rh2.dK e2
  rw [keyD_V (r1.tk k2) e3]
  exact ⟨a, _, rfl, DGet.k ev, by rw [kv_some rv]; exact q _ H2 rfl rh2 (k1.trans k2)⟩
theorem din_mono {f : Bool → Bool} (mi : Mono ty) (mo : Mono td) : Mono (fun τ h Q => ty τ h fun y h1 => td τ h1 fun x h2 => ∃ a kvs k, x = .ref a ∧ h2 a = some (.dK kvs) ∧ keyD y = some k ∧ Q (D.bl (f (getK kvs k).isSome)) h2) :=
  fun τ h Q Q' k q => mi _ _ _ _ (fun x h1 q => mo _ _ _ _ (fun y h2 ⟨a, kvs, k', e1, e2, e3, q⟩ => ⟨a, kvs, k', e1, e2, e3, k _ _ q⟩) q) q
theorem de_din (hu : X.A.units + 1 < cLine) (hi : DE X i ty) (ho : DE X o td) (hm : behindInMarks .In o = false := by first | exact nomark _ | with_unfolding_all rfl) : DE X (.Compare i [.In] [o] pos) (dDIn ty td) :=
  ⟨(pe_cmp (pc_din hu hi.run ho.run) hm).wk fun σ H Q q => din_lift (f := id) hi.mono ho.mono q, din_mono (f := id) hi.mono ho.mono⟩
theorem de_dnotin (hu : X.A.units + 1 < cLine) (hi : DE X i ty) (ho : DE X o td) (hm : behindInMarks .NotIn o = false := by first | exact nomark _ | with_unfolding_all rfl) : DE X (.Compare i [.NotIn] [o] pos) (dDNotIn ty td) :=
  ⟨(pe_cmp (pc_dnotin hu hi.run ho.run) hm).wk fun σ H Q q => din_lift (f := not) hi.mono ho.mono q, din_mono (f := not) hi.mono ho.mono⟩
theorem ds_dput (hu : X.A.units + 1 < cLine) (ho : DE X o td) (hi : DE X i ty) (hv : DE X value tv) (hs : swapsWith value (some (.Subscript o i pos')) pos.line X.env = pure false := by rfl) : DS X W (.Assign [.Subscript o i pos'] value pos) (dDPut td ty tv) := by
  refine ⟨(ps_dput hu ho.run hi.run hv.run hs).wk fun E σ H q => ?_, fun D D' τ h le q => hv.mono _ _ _ _ (fun v h1 q => ho.mono _ _ _ _ (fun x h2 q => hi.mono _ _ _ _ (fun y h3 ⟨a, kvs, k, e1, e2, e3, l, q⟩ => ⟨a, kvs, k, e1, e2, e3, l, le.nx _ _ q⟩) q) q) q⟩
  obtain ⟨τ, h, rs, rh, q⟩ := q
  refine LE.of hv.mono rs rh q fun v h1 u H1 q1 r1 rh1 k1 => ?_
  refine LE.of ho.mono (rs.tk k1) rh1 q1 fun x h2 w H2 q2 r2 rh2 k2 => ?_
  refine LE.of hi.mono (rs.tk (k1.trans k2)) rh2 q2 fun y h3 z H3 q3 r3 rh3 k3 => ?_
  obtain ⟨a, kvs, k, rfl, e2, e3, l, q⟩ := q3
  cases rep_ref r2
  obtain ⟨vs, ev, rv⟩ := rh3.dK e2
  rw [keyD_V r3 e3]
  have m := dmut ev
  have kk := ((k1.trans k2).trans k3).trans (TK.mut (o := .dK (putK vs k u)) m)
  refine ⟨a, _, rfl, DPut.k ev (by rw [← Paired.length rv]; exact l), q σ _ (rs.tk kk) (rh3.mut m ⟨_, upd_same, ?_⟩) kk⟩
  exact RepKV.tk (.mut m) (kv_set rv (r1.tk (k2.trans k3)))
theorem ds_ddel (ho : DE X o td) (hi : DE X i ty) : DS X W (.Delete [.Subscript o i tpos] pos) (dDDel td ty) := by
  refine ⟨(ps_ddel ho.run hi.run).wk fun E σ H q => ?_, fun D D' τ h le q => ho.mono _ _ _ _ (fun x h2 q => hi.mono _ _ _ _ (fun y h3 ⟨a, kvs, k, e1, e2, e3, l, q⟩ => ⟨a, kvs, k, e1, e2, e3, l, le.nx _ _ q⟩) q) q⟩
  obtain ⟨τ, h, rs, rh, q⟩ := q
  refine LE.of ho.mono rs rh q fun x h2 w H2 q2 r2 rh2 k2 => ?_
  refine LE.of hi.mono (rs.tk k2) rh2 q2 fun y h3 z H3 q3 r3 rh3 k3 => ?_
  obtain ⟨a, kvs, k, rfl, e2, e3, l, q⟩ := q3
  cases rep_ref r2
  obtain ⟨vs, ev, rv⟩ := rh3.dK e2
  rw [keyD_V r3 e3]
  have m := dmut ev
  have kk := (k2.trans k3).trans (TK.mut (o := .dK (dropK vs k)) m)
  exact ⟨a, vs, k, rfl, ev, rfl, by rw [kv_some rv]; exact l, q σ _ (rs.tk kk) (rh3.mut m ⟨_, upd_same, RepKV.tk (.mut m) (kv_del rv)⟩) kk⟩
theorem kv_getD {K : PySem.W.Frag} {H : Hp} {ds : List (Key × D)} {vs : List (Key × V)} {k : Key} {z : D} {w : V} (r : RepKV K H ds vs) (q : Rep K H z w) : Rep K H ((getK ds k).getD z) ((valV vs k).getD w) := by
  cases e : getK ds k with
  | none => rw [(kv_get r).2 e]; exact q
  | some d =>
    obtain ⟨v, e2, rv⟩ := (kv_get r).1 d e
    rw [e2]; exact rv
theorem de_dget1 (hu : X.A.units + 1 < cLine) (ho : DE X o td) (he : DE X e ty) (m : M1 X o "get" apos e cpos := by exact ⟨rfl, rfl, rfl, rfl⟩) : DE X (.Call (.Attribute o "get" apos) [e] [] cpos) (dDGet1 td ty) := by
  refine ⟨(pe_dget1 hu ho.run he.run m).wk fun σ H Q q => ?_, fun τ h Q Q' k q => ho.mono _ _ _ _ (fun x h1 ⟨a, kvs, e1, e2, q⟩ => ⟨a, kvs, e1, e2, he.mono _ _ _ _ (fun y h2 ⟨kvs, k', e3, e4, q⟩ => ⟨kvs, k', e3, e4, k _ _ q⟩) q⟩) q⟩
  obtain ⟨τ, h, rs, rh, q⟩ := q
  refine LE.of ho.mono rs rh q fun x h1 u H1 q1 r1 rh1 k1 => ?_
  obtain ⟨a, kvs, rfl, e1, q1⟩ := q1
  cases rep_ref r1
  obtain ⟨vs0, ev0, _⟩ := rh1.dK e1
  refine ⟨a, rfl, .inl ⟨vs0, .inl ev0⟩, ?_⟩
  refine LE.of he.mono (rs.tk k1) rh1 q1 fun y h2 w H2 q2 r2 rh2 k2 => ?_
  obtain ⟨kvs, k, e2, e3, q⟩ := q2
  obtain ⟨vs, ev, rv⟩ := rh2.dK e2
  rw [keyD_V r2 e3]
  exact ⟨_, DGet.k ev, q _ H2 (kv_getD rv rfl) rh2 (k1.trans k2)⟩
theorem de_dget2 (hu : X.A.units + 1 < cLine) (ho : DE X o td) (he : DE X e ty) (hf : DE X f tx) (m : M2 X o "get" apos e f cpos := by exact ⟨rfl, rfl, rfl, rfl⟩) : DE X (.Call (.Attribute o "get" apos) [e, f] [] cpos) (dDGet2 td ty tx) := by
  refine ⟨(pe_dget2 hu ho.run he.run hf.run m).wk fun σ H Q q => ?_, fun τ h Q Q' k q => ho.mono _ _ _ _ (fun x h1 ⟨a, kvs, e1, e2, q⟩ => ⟨a, kvs, e1, e2, he.mono _ _ _ _ (fun y h2 q => hf.mono _ _ _ _ (fun z h3 ⟨kvs, k', e3, e4, q⟩ => ⟨kvs, k', e3, e4, k _ _ q⟩) q) q⟩) q⟩
  obtain ⟨τ, h, rs, rh, q⟩ := q
  refine LE.of ho.mono rs rh q fun x h1 u H1 q1 r1 rh1 k1 => ?_
  obtain ⟨a, kvs, rfl, e1, q1⟩ := q1
  cases rep_ref r1
  obtain ⟨vs0, ev0, _⟩ := rh1.dK e1
  refine ⟨a, rfl, .inl ⟨vs0, .inl ev0⟩, ?_⟩
  refine LE.of he.mono (rs.tk k1) rh1 q1 fun y h2 w H2 q2 r2 rh2 k2 => ?_
  refine LE.of hf.mono (rs.tk (k1.trans k2)) rh2 q2 fun z h3 w3 H3 q3 r3 rh3 k3 => ?_
  obtain ⟨kvs, k, e2, e3, q⟩ := q3
  obtain ⟨vs, ev, rv⟩ := rh3.dK e2
  rw [keyD_V r2 e3]
  exact ⟨_, DGet.k ev, q _ H3 (kv_getD rv r3) rh3 ((k1.trans k2).trans k3)⟩
end
/-- dict(d) -/
def dictD : RDC := fun xs h Q => match xs with
  | [.ref a] => ∃ kvs, h a = some (.dK kvs) ∧ ∀ p, h p = none → Q (.ref p) (updD h p (.dK kvs))
  | _ => False
theorem dc_dict {X : Cx} : DCallR X (.type "dict") dictD := by
  refine .of call_dictD (fun H xs ds h Q rs rh q => ?_) (fun ds h Q Q' k q => ?_)
  · unfold dictD at q
    split at q <;> first | exact False.elim q | skip
    obtain ⟨x, rfl, r1⟩ := reps1 rs
    obtain ⟨kvs, e, q⟩ := q
    cases rep_ref r1
    obtain ⟨vs, ev, rv⟩ := rh.dK e
    exact ⟨_, vs, rfl, .inl ev, fun p n => q p (rh.free n) _ _ rfl (rh.new n ⟨vs, upd_same, RepKV.tk (.new n) rv⟩) (.new n)⟩
  · unfold dictD at q ⊢
    split at q <;> first | exact False.elim q | skip
    obtain ⟨kvs, e, q⟩ := q
    exact ⟨kvs, e, fun p n => k _ _ (q p n)⟩
end DL

/-! DList: any, all, sum, max, min, sorted, methods of lists, len of a dict. -/
namespace DL
open PySem PySem.Spec PyProof.Rows L2

/-- x is a list of these -/
def seqL (x : D) (h : DH) (ds : List D) : Prop := match x with
  | .lsv es => es = ds
  | .ref a => h a = some (.lst ds)
  | _ => False
theorem seqL_V {K : PySem.W.Frag} {H : Hp} {h : DH} {x : D} {v : V} {ds : List D} (rh : RepH K H h) (r : Rep K H x v) (e : seqL x h ds) : ∃ a vs, v = .ref a ∧ SqL K H a vs ∧ Reps K H ds vs := by
  cases x with
  | lsv es =>
    cases (show es = ds from e)
    obtain ⟨a, xs, rfl, s, rs⟩ := r
    exact ⟨a, xs, rfl, s.sq, rs⟩
  | ref a =>
    cases rep_ref r
    obtain ⟨xs, ea, rs⟩ := rh.lst e
    exact ⟨a, xs, rfl, .of ea, rs⟩
  | _ => exact False.elim e
theorem reps_bls {K : PySem.W.Frag} {H : Hp} : ∀ {bs : List Bool} {vs : List V}, Reps K H (bs.map D.bl) vs → vs = bs.map V.bl
  | [], vs, r => r
  | b :: bs, vs, r => by
    obtain ⟨v, ws, rfl, r1, r2⟩ := r
    cases (show _ = _ from r1)
    rw [reps_bls r2]; rfl
theorem reps_ints' {K : PySem.W.Frag} {H : Hp} : ∀ {ns : List Int} {vs : List V}, Reps K H (ns.map D.int) vs → vs = ns.map V.int
  | [], vs, r => r
  | b :: bs, vs, r => by
    obtain ⟨v, ws, rfl, r1, r2⟩ := r
    cases (show _ = _ from r1)
    rw [reps_ints' r2]; rfl
theorem reps_of_ints {K : PySem.W.Frag} {H : Hp} : ∀ ns : List Int, Reps K H (ns.map D.int) (ns.map V.int)
  | [] => rfl
  | n :: ns => ⟨_, _, rfl, rfl, reps_of_ints ns⟩
def anyD : RDC := fun xs h Q => match xs with
  | [x] => ∃ bs : List Bool, seqL x h (bs.map .bl) ∧ Q (.bl (bs.any id)) h
  | _ => False
def allD : RDC := fun xs h Q => match xs with
  | [x] => ∃ bs : List Bool, seqL x h (bs.map .bl) ∧ Q (.bl (bs.all id)) h
  | _ => False
def sumD : RDC := fun xs h Q => match xs with
  | [x] => ∃ ns : List Int, seqL x h (ns.map .int) ∧ Q (.int ns.sum) h
  | _ => False
def maxLD : RDC := fun xs h Q => match xs with
  | [x] => ∃ ns : List Int, seqL x h (ns.map .int) ∧ 0 < ns.length ∧ ∀ m, m ∈ ns → (∀ y ∈ ns, y ≤ m) → Q (.int m) h
  | _ => False
def minLD : RDC := fun xs h Q => match xs with
  | [x] => ∃ ns : List Int, seqL x h (ns.map .int) ∧ 0 < ns.length ∧ ∀ m, m ∈ ns → (∀ y ∈ ns, m ≤ y) → Q (.int m) h
  | _ => False
/-- sorted(xs), ints -/
def sortedID : RDC := fun xs h Q => match xs with
  | [x] => ∃ ns : List Int, seqL x h (ns.map .int) ∧ ∀ (ms : List Int) p, ms.Perm ns → ms.Pairwise (· ≤ ·) → h p = none → Q (.ref p) (updD h p (.lst (ms.map .int)))
  | _ => False
/-- len(d) -/
def lenKD : RDC := fun xs h Q => match xs with
  | [.ref a] => ∃ kvs, h a = some (.dK kvs) ∧ Q (.int kvs.length) h
  | _ => False
section
variable {X : Cx}
theorem dc_any (hc : X.calm = true) : DCallR X (.builtin "any") anyD := by
  refine .of (cr_any hc) (fun H xs ds h Q rs rh q => ?_) (fun ds h Q Q' k q => ?_)
  · unfold anyD at q
    split at q <;> first | exact False.elim q | skip
    obtain ⟨x, rfl, r1⟩ := reps1 rs
    obtain ⟨bs, e, q⟩ := q
    obtain ⟨a, vs, rfl, s, rv⟩ := seqL_V rh r1 e
    cases reps_bls rv
    exact ⟨a, bs, rfl, s, Cl.same q rh rfl⟩
  · unfold anyD at q ⊢
    split at q <;> first | exact False.elim q | skip
    obtain ⟨bs, e, q⟩ := q
    exact ⟨bs, e, k _ _ q⟩
theorem dc_all (hc : X.calm = true) : DCallR X (.builtin "all") allD := by
  refine .of (cr_all hc) (fun H xs ds h Q rs rh q => ?_) (fun ds h Q Q' k q => ?_)
  · unfold allD at q
    split at q <;> first | exact False.elim q | skip
    obtain ⟨x, rfl, r1⟩ := reps1 rs
    obtain ⟨bs, e, q⟩ := q
    obtain ⟨a, vs, rfl, s, rv⟩ := seqL_V rh r1 e
    cases reps_bls rv
    exact ⟨a, bs, rfl, s, Cl.same q rh rfl⟩
  · unfold allD at q ⊢
    split at q <;> first | exact False.elim q | skip
    obtain ⟨bs, e, q⟩ := q
    exact ⟨bs, e, k _ _ q⟩
theorem dc_sum (hc : X.calm = true) : DCallR X (.builtin "sum") sumD := by
  refine .of (cr_sum hc) (fun H xs ds h Q rs rh q => ?_) (fun ds h Q Q' k q => ?_)
  · unfold sumD at q
    split at q <;> first | exact False.elim q | skip
    obtain ⟨x, rfl, r1⟩ := reps1 rs
    obtain ⟨bs, e, q⟩ := q
    obtain ⟨a, vs, rfl, s, rv⟩ := seqL_V rh r1 e
    cases reps_ints' rv
    exact ⟨a, bs, rfl, s, Cl.same q rh rfl⟩
  · unfold sumD at q ⊢
    split at q <;> first | exact False.elim q | skip
    obtain ⟨bs, e, q⟩ := q
    exact ⟨bs, e, k _ _ q⟩
theorem dc_maxL (hc : X.calm = true) : DCallR X (.builtin "max") maxLD := by
  refine .of (cr_max hc) (fun H xs ds h Q rs rh q => ?_) (fun ds h Q Q' k q => ?_)
  · unfold maxLD at q
    split at q <;> first | exact False.elim q | skip
    obtain ⟨x, rfl, r1⟩ := reps1 rs
    obtain ⟨bs, e, l, q⟩ := q
    obtain ⟨a, vs, rfl, s, rv⟩ := seqL_V rh r1 e
    cases reps_ints' rv
    exact ⟨a, bs, rfl, s, l, fun m h1 h2 => Cl.same (q m h1 h2) rh rfl⟩
  · unfold maxLD at q ⊢
    split at q <;> first | exact False.elim q | skip
    obtain ⟨bs, e, l, q⟩ := q
    exact ⟨bs, e, l, fun m h1 h2 => k _ _ (q m h1 h2)⟩
theorem dc_minL (hc : X.calm = true) : DCallR X (.builtin "min") minLD := by
  refine .of (cr_min hc) (fun H xs ds h Q rs rh q => ?_) (fun ds h Q Q' k q => ?_)
  · unfold minLD at q
    split at q <;> first | exact False.elim q | skip
    obtain ⟨x, rfl, r1⟩ := reps1 rs
    obtain ⟨bs, e, l, q⟩ := q
    obtain ⟨a, vs, rfl, s, rv⟩ := seqL_V rh r1 e
    cases reps_ints' rv
    exact ⟨a, bs, rfl, s, l, fun m h1 h2 => Cl.same (q m h1 h2) rh rfl⟩
  · unfold minLD at q ⊢
    split at q <;> first | exact False.elim q | skip
    obtain ⟨bs, e, l, q⟩ := q
    exact ⟨bs, e, l, fun m h1 h2 => k _ _ (q m h1 h2)⟩
theorem dc_sortedI : DCallR X (.builtin "sorted") sortedID := by
  refine .of cr_sortedI (fun H xs ds h Q rs rh q => ?_) (fun ds h Q Q' k q => ?_)
  · unfold sortedID at q
    split at q <;> first | exact False.elim q | skip
    obtain ⟨x, rfl, r1⟩ := reps1 rs
    obtain ⟨ns, e, q⟩ := q
    obtain ⟨a, vs, rfl, s, rv⟩ := seqL_V rh r1 e
    cases reps_ints' rv
    exact ⟨a, ns, rfl, s, fun ms p h1 h2 n => q ms p h1 h2 (rh.free n) _ _ rfl (rh.new n ⟨_, upd_same, reps_of_ints ms⟩) (.new n)⟩
  · unfold sortedID at q ⊢
    split at q <;> first | exact False.elim q | skip
    obtain ⟨bs, e, q⟩ := q
    exact ⟨bs, e, fun ms p h1 h2 n => k _ _ (q ms p h1 h2 n)⟩
theorem dc_lenK : DCallR X (.builtin "len") lenKD := by
  refine .of call_lenD (fun H xs ds h Q rs rh q => ?_) (fun ds h Q Q' k q => ?_)
  · unfold lenKD at q
    split at q <;> first | exact False.elim q | skip
    obtain ⟨x, rfl, r1⟩ := reps1 rs
    obtain ⟨kvs, e, q⟩ := q
    cases rep_ref r1
    obtain ⟨vs, ev, rv⟩ := rh.dK e
    exact ⟨_, vs, rfl, ev, Cl.same q rh (by rw [← Paired.length rv]; rfl)⟩
  · unfold lenKD at q ⊢
    split at q <;> first | exact False.elim q | skip
    obtain ⟨kvs, e, q⟩ := q
    exact ⟨kvs, e, k _ _ q⟩
end
/-! methods -/
def popAtD : RDM := fun x vs h Q => ∃ a ds i j y, x = .ref a ∧ vs = [.int i] ∧ h a = some (.lst ds) ∧ -(2 ^ 63) ≤ i ∧ i < 2 ^ 63 ∧ ixN ds.length i = some j ∧ ds[j]? = some y ∧ Q y (updD h a (.lst (ds.eraseIdx j)))
def insertD : RDM := fun x vs h Q => ∃ a ds i y, x = .ref a ∧ vs = [.int i, y] ∧ h a = some (.lst ds) ∧ ds.length < sizeLine ∧ 0 ≤ i ∧ i < 2 ^ 63 ∧ Q .non (updD h a (.lst (ds.take i.toNat ++ [y] ++ ds.drop i.toNat)))
def reverseD : RDM := fun x vs h Q => ∃ a ds, x = .ref a ∧ vs = [] ∧ h a = some (.lst ds) ∧ Q .non (updD h a (.lst ds.reverse))
def indexD : RDM := fun x vs h Q => ∃ a ds y j z, x = .ref a ∧ vs = [y] ∧ h a = some (.lst ds) ∧ okDs ds = true ∧ okD y = true ∧ dep y ≤ 64 ∧ ds[j]? = some z ∧ deq z y = true ∧ (∀ (m : Nat) z', m < j → ds[m]? = some z' → deq z' y = false) ∧ Q (.int (j : Nat)) h
section
variable {X : Cx}
theorem dm_popAt : DMt X "list" "list.pop" isL popAtD := by
  refine .ofL mt_popAt (fun H x xs d ds h Q r1 r2 rh q => ?_) (fun x ds h Q Q' k q => ?_)
  · obtain ⟨a, es, i, j, y, rfl, rfl, e, i0, i1, ej, l, q⟩ := q
    cases rep_ref r1
    obtain ⟨v, rfl, r⟩ := reps1 r2
    cases rep_int r
    obtain ⟨xs, ea, p⟩ := rh.lst e
    obtain ⟨v, ev, r⟩ := p.get l
    exact ⟨a, xs, i, j, v, rfl, rfl, ea, i0, i1, by rw [p.length]; exact (ixN_seq ej).1, ev, Cl.setL rh ea (p.eraseIdx j) r q⟩
  · obtain ⟨a, es, i, j, y, e1, e2, e, i0, i1, ej, l, q⟩ := q
    exact ⟨a, es, i, j, y, e1, e2, e, i0, i1, ej, l, k _ _ q⟩
theorem dm_insert : DMt X "list" "list.insert" isL insertD := by
  refine .ofL mt_insert (fun H x xs d ds h Q r1 r2 rh q => ?_) (fun x ds h Q Q' k q => ?_)
  · obtain ⟨a, es, i, y, rfl, rfl, e, l, i0, i1, q⟩ := q
    cases rep_ref r1
    obtain ⟨v, w, rfl, r, r'⟩ := reps2 r2
    cases rep_int r
    obtain ⟨xs, ea, p⟩ := rh.lst e
    exact ⟨a, xs, i, w, rfl, rfl, ea, by rw [p.length]; exact l, i0, i1, Cl.setL (d := .non) rh ea (((p.take i.toNat).append (.cons r' .nil)).append (p.drop i.toNat)) rfl q⟩
  · obtain ⟨a, es, i, y, e1, e2, e, l, i0, i1, q⟩ := q
    exact ⟨a, es, i, y, e1, e2, e, l, i0, i1, k _ _ q⟩
theorem dm_reverse : DMt X "list" "list.reverse" isL reverseD := by
  refine .ofL mt_reverse (fun H x xs d ds h Q r1 r2 rh q => ?_) (fun x ds h Q Q' k q => ?_)
  · obtain ⟨a, es, rfl, rfl, e, q⟩ := q
    cases rep_ref r1
    cases (show _ = _ from r2)
    obtain ⟨xs, ea, p⟩ := rh.lst e
    exact ⟨a, xs, rfl, rfl, ea, Cl.setL (d := .non) rh ea p.reverse rfl q⟩
  · obtain ⟨a, es, e1, e2, e, q⟩ := q
    exact ⟨a, es, e1, e2, e, k _ _ q⟩
theorem de_popAt {o e : Expr} {to te : DTE} {apos cpos : Pos} (ho : DE X o to) (he : DE X e te) (hbase : attributeBase o "pop" X.env (eval o X.env) = eval o X.env := by rfl)
    (hfew : ((backTo cpos (starEach [e] X.env)).all (fun x => !x.1) && (backToKw cpos (keywordEach [] X.env)).all (fun x => x.1.isSome)
      && decide ([e].length + ([] : List Keyword).length + (if ([] : List Keyword).isEmpty then 0 else 1) < 30)) = true := by rfl)
    (hline : (apos.endLine == cpos.line) = true := by rfl) (hs : starEach [e] X.env = (false, eval e X.env) :: starEach [] X.env := by rfl) (hplain : (backTo cpos (starEach [] X.env)).any (·.1) = false := by rfl) :
    DE X (.Call (.Attribute o "pop" apos) [e] [] cpos) (dBM isL popAtD to (dCons te dNil)) :=
  de_bm PySem.F.plainAttrs_list PySem.F.slot_list_pop PySem.F.type_list_pop dm_popAt ho (da_cons he da_nil hs) hbase hfew hline hs hplain
theorem de_reverse {o : Expr} {to : DTE} {apos cpos : Pos} (ho : DE X o to) (hbase : attributeBase o "reverse" X.env (eval o X.env) = eval o X.env := by rfl) (hline : (apos.endLine == cpos.line) = true := by rfl) :
    DE X (.Call (.Attribute o "reverse" apos) [] [] cpos) (dBM isL reverseD to dNil) :=
  de_bm0 PySem.F.plainAttrs_list PySem.F.slot_list_reverse PySem.F.type_list_reverse dm_reverse ho hbase hline
end
end DL

/-! DCls: classes of the text over D. -/
namespace DL
open PySem PySem.Spec PyProof.Rows L2

/-- what is told of a class: its instances' fields are no names of the class -/
structure ClsF (K : PySem.W.Frag) (C : Str) (fs : List Str) : Prop where
  c : Cls K (He.ga K C)
  no : ∀ f ∈ fs, NoAttr K (He.ga K C) f
def clsFB (K : PySem.W.Frag) (C : Str) (fs : List Str) : Bool := (He.Fa.cls C).ok K && fs.all fun f => (He.Fa.noat C f).ok K
theorem clsFB_ok {K : PySem.W.Frag} {C : Str} {fs : List Str} (h : clsFB K C fs = true) : ClsF K C fs := by
  unfold clsFB at h
  rw [Bool.and_eq_true, List.all_eq_true] at h
  exact ⟨He.cls_ok h.1, fun f hf => He.noat_ok (h.2 f hf)⟩
/-- a method, called with all its parameters written -/
structure HasM (P : Program) (w : World) (K : PySem.W.Frag) (mg : Str → Option Value) (base : Heap) (C m : Str) (k : Nat) (ps : List Str) (sp : SpD) : Prop where
  at_ : Meth K (He.ga K C) m (He.ma K (He.ga K C) m)
  ms : MonoSp sp
  ok : ∃ fd, Binds K fd ps [] ∧ FnOk P w K mg base CX0 k (He.ma K (He.ga K C) m) fd ps (LSp K sp)
theorem HasM.mono {P : Program} {w : World} {K : PySem.W.Frag} {mg : Str → Option Value} {base : Heap} {C m : Str} {j k : Nat} {ps : List Str} {sp : SpD} (h : HasM P w K mg base C m j ps sp) (l : j ≤ k) : HasM P w K mg base C m k ps sp :=
  ⟨h.at_, h.ms, let ⟨fd, b, c⟩ := h.ok; ⟨fd, b, c.mono l⟩⟩
theorem HasM.of {P : Program} {w : World} {K : PySem.W.Frag} {mg : Str → Option Value} {base : Heap} {C m qual : Str} {params : Arguments} {body : List Stmt} {scope : Scope} {N ps : List Str} {k : Nat} {sp : SpD} {t : DTS} (at_ : Meth K (He.ga K C) m (He.ma K (He.ga K C) m))
    (F : ∃ fd, FunD K m qual params body scope [] [] (He.ma K (He.ga K C) m) fd) (S : FnScope N ps scope) (ms : MonoSp sp) (len : ∀ ds h Q E, sp ds h Q E → ds.length = ps.length)
    (bind : ∀ (kV doc pm : Value) (an : Option Addr) (cdv ct : Value) (us : List Value), us.length = ps.length → bindArgs (PySem.W.fnOf m qual params body scope .none kV doc pm an cdv ct) ⟨us, []⟩ = pure (ps.zip us))
    (d : ∀ (cdv : Value) (A : Around) (outer : List Env) (s : Shared) (H : Hp) (E : XK), Room k (A.deeper (envOfC qual scope s.heap.objs.size (He.ma K (He.ga K C) m) cdv)) → DSs (cxOf CX0 P w K mg base N qual scope (He.ma K (He.ga K C) m) cdv A outer s H E).nox WN body t)
    (r : ∀ ds h Q Ed, Up Q → sp ds h Q Ed → t { nx := fun _ h' => Q .non h', rt := Q } (dstart N ds) h) : HasM P w K mg base C m (k + 1) ps sp :=
  let ⟨fd, F⟩ := F
  ⟨at_, ms, fd, F.bindsN bind, FunD.okD F S len fun cdv A outer s H E hr => ⟨t, d cdv A outer s H E hr, r⟩⟩
/-- e.f, e of the class C -/
def dFld (C f : Str) (te : DTE) : DTE := fun τ h Q => te τ h fun x h1 => ∃ a fs v, x = .ref a ∧ h1 a = some (.ins C fs) ∧ fs.lookup f = some v ∧ Q v h1
def dMeth (C m : Str) (sp : SpD) (te : DTE) (t : DTA) : DTE := fun τ h Q => te τ h fun x h1 => ∃ a fs, x = .ref a ∧ h1 a = some (.ins C fs) ∧ fs.lookup m = none ∧ t τ h1 fun ds h2 => ∀ E, sp (x :: ds) h2 Q E
/-- C(..) -/
def dMake (C : Str) (sp : SpD) (t : DTA) : DTE := fun τ h Q => t τ h fun ds h1 => ∀ x, h1 x = none → ∀ E, sp (.ref x :: ds) (updD h1 x (.ins C [])) (fun v h2 => v = .non ∧ Q (.ref x) h2) E
theorem RepH.ins {K : PySem.W.Frag} {H : Hp} {h : DH} {a : Addr} {C : Str} {fs : List (Str × D)} (r : RepH K H h) (e : h a = some (.ins C fs)) : ∃ dx vs, H a = some (.ins (He.ga K C) dx vs) ∧ RepKV K H fs vs := r a _ e
theorem repKV_none {K : PySem.W.Frag} {H : Hp} {fs : List (Str × D)} {vs : List (Str × V)} {f : Str} (r : RepKV K H fs vs) (e : fs.lookup f = none) : vs.lookup f = none := by
  induction r with
  | nil => rfl
  | @cons p q _ _ pq _ ih =>
    obtain ⟨g, d1⟩ := p
    obtain ⟨g', v1⟩ := q
    obtain ⟨e1, r1⟩ := pq
    simp only at e1
    subst e1
    rw [List.lookup_cons] at e ⊢
    by_cases z : f == g
    · rw [z] at e; cases e
    · rw [Bool.not_eq_true] at z
      rw [z] at e ⊢
      exact ih e
section
variable {X : Cx} {C m f : Str} {fs : List Str} {o e : Expr} {es : List Expr} {te : DTE} {t : DTA} {sp : SpD} {k : Nat} {ps : List Str} {p pos apos : Pos}
theorem de_fld (T : ClsF X.K C fs) (hf : f ∈ fs) (he : DE X e te) (hb : attributeBase e f X.env (eval e X.env) = eval e X.env := by rfl) : DE X (.Attribute e f pos) (dFld C f te) := by
  refine ⟨(pe_fld he.run hb).wk fun σ H Q q => ?_, fun τ h Q Q' k q => he.mono _ _ _ _ (fun x h1 ⟨a, fs, v, e1, e2, e3, q⟩ => ⟨a, fs, v, e1, e2, e3, k _ _ q⟩) q⟩
  obtain ⟨τ, h, rs, rh, q⟩ := q
  refine LE.of he.mono rs rh q fun x h1 v H1 q1 r1 rh1 k1 => ?_
  obtain ⟨a, gs, y, rfl, e2, e3, q⟩ := q1
  cases rep_ref r1
  obtain ⟨dx, vs, ev, rv⟩ := rh1.ins e2
  obtain ⟨w, ew, rw'⟩ := repKV_lookup rv e3
  exact ⟨a, _, dx, vs, w, rfl, ev, T.c, T.no f hf, ew, q w H1 rw' rh1 k1⟩
theorem de_meth {pl : Sem Bool} (T : ClsF X.K C fs) (F : HasM X.prog X.w X.K X.mg X.base C m k ps sp) (hr : Room k X.A) (ho : DE X o te) (ha : DA X (e :: es) t)
    (hst : starEach (e :: es) X.env = (false, eval e X.env) :: starEach es X.env := by rfl) (hpl : (backTo pos (starEach es X.env)).any (·.1) = false := by rfl)
    (ht : eval (.Call (.Attribute o m apos) (e :: es) [] pos) X.env = (do
      let ov ← eval o X.env
      standAt apos.atName
      let (f, first) ← holding [ov] (getMethod ov m pl)
      callWith pos f first (backTo pos (starEach (e :: es) X.env)) (backToKw pos (keywordEach [] X.env))) := by rfl) :
    DE X (.Call (.Attribute o m apos) (e :: es) [] pos) (dMeth C m sp te t) := by
  obtain ⟨fd, b, c⟩ := F.ok
  refine ⟨(pe_meth (E := E0) (ds := []) (dvs := []) ho.run T.c F.at_ c hr b .nil pass0 ha.run hst hpl ht).wk fun σ H Q q => ?_, fun τ h Q Q' k q => ho.mono _ _ _ _ (fun x h1 ⟨a, gs, e1, e2, e3, q⟩ => ⟨a, gs, e1, e2, e3, ha.mono _ _ _ _ (fun ds h2 q E => F.ms _ _ _ _ _ k (q E)) q⟩) q⟩
  obtain ⟨τ, h, rs, rh, q⟩ := q
  refine LE.of ho.mono rs rh q fun x h1 v H1 q1 r1 rh1 k1 => ?_
  obtain ⟨a, gs, rfl, e2, e3, q⟩ := q1
  cases rep_ref r1
  obtain ⟨dx, vs, ev, rv⟩ := rh1.ins e2
  refine ⟨a, dx, vs, rfl, ev, repKV_none rv e3, ?_⟩
  refine LA.of ha.mono (rs.tk k1) rh1 q fun ds h2 us H2 q2 r2 rh2 k2 => ?_
  rw [List.append_nil]
  exact ⟨_, h2, Reps.cons (d := .ref a) (show Rep _ _ (.ref a) (.ref a) from rfl) r2, rh2, F.ms _ _ _ _ _ (fun _ _ c => c.tk (k1.trans k2)) (q2 _)⟩
theorem de_meth0 {pl : Sem Bool} (T : ClsF X.K C fs) (F : HasM X.prog X.w X.K X.mg X.base C m k ps sp) (hr : Room k X.A) (ho : DE X o te)
    (ht : eval (.Call (.Attribute o m apos) [] [] pos) X.env = (do
      let ov ← eval o X.env
      standAt apos.atName
      let (f, first) ← holding [ov] (getMethod ov m pl)
      callWith pos f first (backTo pos (starEach [] X.env)) (backToKw pos (keywordEach [] X.env))) := by rfl) :
    DE X (.Call (.Attribute o m apos) [] [] pos) (dMeth C m sp te dNil) := by
  obtain ⟨fd, b, c⟩ := F.ok
  refine ⟨(pe_meth0 (E := E0) (ds := []) (dvs := []) ho.run T.c F.at_ c hr b .nil pass0 ht).wk fun σ H Q q => ?_, fun τ h Q Q' k q => ho.mono _ _ _ _ (fun x h1 ⟨a, gs, e1, e2, e3, q⟩ => ⟨a, gs, e1, e2, e3, fun E => F.ms _ _ _ _ _ k (q E)⟩) q⟩
  obtain ⟨τ, h, rs, rh, q⟩ := q
  refine LE.of ho.mono rs rh q fun x h1 v H1 q1 r1 rh1 k1 => ?_
  obtain ⟨a, gs, rfl, e2, e3, q⟩ := q1
  cases rep_ref r1
  obtain ⟨dx, vs, ev, rv⟩ := rh1.ins e2
  refine ⟨a, dx, vs, rfl, ev, repKV_none rv e3, ?_⟩
  exact ⟨_, h1, Reps.cons (d := .ref a) (show Rep _ _ (.ref a) (.ref a) from rfl) Reps.nil, rh1, F.ms _ _ _ _ _ (fun _ _ c => c.tk k1) (q _)⟩
theorem make_lift {K : PySem.W.Frag} (ms : MonoSp sp) (ma : Mono t) {σ : L2.St} {H : Hp} {Q : VK} (q : LE K (dMake C sp t) σ H Q) : tMake (He.ga K C) (LSp K sp) [] E0 (LA K t) σ H Q := by
  obtain ⟨τ, h, rs, rh, q⟩ := q
  refine LA.of ma rs rh q fun ds h1 us H1 q1 r1 rh1 k1 x dx nx nd ne => ?_
  have n1 : upd H1 dx (.own x) x = none := by rw [upd_ne ne.symm]; exact nx
  have kk : TK H1 (upd (upd H1 dx (.own x)) x (.ins (He.ga K C) dx [])) := (TK.new nd).trans (TK.new n1)
  rw [List.append_nil]
  refine ⟨.ref x :: ds, updD h1 x (.ins C []), ⟨_, _, rfl, rfl, r1.tk kk⟩, (rh1.skip nd).new n1 ⟨dx, [], upd_same, .nil⟩, ms _ _ _ _ _ (fun d h2 ⟨e, q⟩ v H2 r2 rh2 k2 => ?_) (q1 x (rh1.free nx) _)⟩
  subst e
  cases (show _ = _ from r2)
  exact ⟨rfl, q (.ref x) H2 rfl rh2 (k1.trans (kk.trans k2))⟩
theorem make_mono (ms : MonoSp sp) (ma : Mono t) : Mono (dMake C sp t) := fun τ h Q Q' k q => ma _ _ _ _ (fun ds h1 q x nx E => ms _ _ _ _ _ (fun d h2 ⟨e, q⟩ => ⟨e, k _ _ q⟩) (q x nx E)) q
theorem de_make (M : Mk X.K (He.ga X.K C) (He.ma X.K (He.ga X.K C) "__init__")) (F : HasM X.prog X.w X.K X.mg X.base C "__init__" k ps sp) (hr : Room (k + 1) X.A) (hg : Gl X C) (hm : X.mg C = some (.ref (He.ga X.K C))) (ha : DA X (e :: es) t)
    (hdb : (C == ("__debug__" : Str)) = false := by decide) (he : starEach (e :: es) X.env = (false, eval e X.env) :: starEach es X.env := by rfl) (hpl : (backTo pos (starEach es X.env)).any (·.1) = false := by rfl) :
    DE X (.Call (.Name C p) (e :: es) [] pos) (dMake C sp t) :=
  let ⟨_, b, c⟩ := F.ok
  ⟨(pe_make (E := E0) (ds := []) (dvs := []) M c hr hg hm b .nil pass0 ha.run hdb he hpl).wk fun σ H Q q => make_lift F.ms ha.mono q, make_mono F.ms ha.mono⟩
theorem de_make0 (M : Mk X.K (He.ga X.K C) (He.ma X.K (He.ga X.K C) "__init__")) (F : HasM X.prog X.w X.K X.mg X.base C "__init__" k ps sp) (hr : Room (k + 1) X.A) (hg : Gl X C) (hm : X.mg C = some (.ref (He.ga X.K C)))
    (hdb : (C == ("__debug__" : Str)) = false := by decide) : DE X (.Call (.Name C p) [] [] pos) (dMake C sp dNil) := by
  obtain ⟨_, b, c⟩ := F.ok
  refine ⟨(pe_make0 (E := E0) (ds := []) (dvs := []) M c hr hg hm b .nil pass0 hdb).wk fun σ H Q q => ?_, fun τ h Q Q' k q x nx E => F.ms _ _ _ _ _ (fun d h2 ⟨e, q⟩ => ⟨e, k _ _ q⟩) (q x nx E)⟩
  have := make_lift (t := dNil) F.ms (fun τ h Q Q' k q => k _ _ q) q
  obtain ⟨τ, h, rs, rh, c⟩ := this
  exact fun x dx nx nd ne => c [] H rfl rh (.refl H) x dx nx nd ne
end
/-- e.f = v -/
def putFD (f : Str) (v : D) : List (Str × D) → List (Str × D)
  | [] => [(f, v)]
  | (g, x) :: r => if g = f then (g, v) :: r else (g, x) :: putFD f v r
theorem repKV_put {K : PySem.W.Frag} {H : Hp} {fs : List (Str × D)} {vs : List (Str × V)} {f : Str} {d : D} {v : V} (r : RepKV K H fs vs) (q : Rep K H d v) : RepKV K H (putFD f d fs) (putF f v vs) := by
  induction r with
  | nil => exact .cons ⟨rfl, q⟩ .nil
  | @cons p p' _ _ pq rr ih =>
    obtain ⟨g, d1⟩ := p
    obtain ⟨g', v1⟩ := p'
    obtain ⟨e1, r1⟩ := pq
    simp only at e1 r1
    subst e1
    unfold putFD putF
    by_cases z : g = f
    · rw [if_pos z, if_pos z]
      exact .cons ⟨rfl, q⟩ rr
    · rw [if_neg z, if_neg z]
      exact .cons ⟨rfl, r1⟩ ih
def dSetF (C f : Str) (te tv : DTE) : DTS := fun D τ h => tv τ h fun y h1 => te τ h1 fun x h2 => ∃ a fs, x = .ref a ∧ h2 a = some (.ins C fs) ∧ fs.length < 1000 ∧ D.nx τ (updD h2 a (.ins C (putFD f y fs)))
theorem ds_fld {X : Cx} {W : WX} {C f : Str} {fs : List Str} {o value : Expr} {te tv : DTE} {pos pos' : Pos} (T : ClsF X.K C fs) (hf : f ∈ fs) (ho : DE X o te) (hv : DE X value tv) (hs : swapsWith value (some (.Attribute o f pos')) pos.line X.env = pure false := by rfl) :
    DS X W (.Assign [.Attribute o f pos'] value pos) (dSetF C f te tv) := by
  refine ⟨(ps_fld ho.run hv.run hs).wk fun E σ H q => ?_, fun D D' τ h le q => hv.mono _ _ _ _ (fun y h1 q => ho.mono _ _ _ _ (fun x h2 ⟨a, fs, e1, e2, l, q⟩ => ⟨a, fs, e1, e2, l, le.nx _ _ q⟩) q) q⟩
  obtain ⟨τ, h, rs, rh, q⟩ := q
  refine LE.of hv.mono rs rh q fun y h1 u H1 q1 r1 rh1 k1 => ?_
  refine LE.of ho.mono (rs.tk k1) rh1 q1 fun x h2 w H2 q2 r2 rh2 k2 => ?_
  obtain ⟨a, gs, rfl, e2, l, q⟩ := q2
  cases rep_ref r2
  obtain ⟨dx, vs, ev, rv⟩ := rh2.ins e2
  have m : Mut (H2 a) := by rw [ev]; exact True.intro
  have kk := (k1.trans k2).trans (TK.mut (o := .ins (He.ga X.K C) dx (putF f u vs)) m)
  exact ⟨a, _, dx, vs, rfl, ev, T.c, T.no f hf, by rw [← Paired.length rv]; exact l, q σ _ (rs.tk kk) (rh2.mut m ⟨dx, _, upd_same, RepKV.tk (.mut m) (repKV_put rv (r1.tk k2))⟩) kk⟩
end DL

/-! DOrd: order of data: <, sorted of a list. -/
namespace DL
open PySem PySem.Spec PyProof.Rows L2

/-- x < y of data that can be compared place by place -/
def ltA (x y : D) : Bool := PySem.W.dataLt (py x) (py y)
def alkP (x y : D) : Prop := PySem.W.alike (py x) (py y) = true ∧ okD x = true ∧ okD y = true ∧ x ≠ .non ∧ min (dep x) (dep y) ≤ 60
def ltAD (x y : D) (h : DH) (Q : DK) : Prop := ∃ d e, datD h x = some d ∧ datD h y = some e ∧ alkP d e ∧ Q (.bl (ltA d e)) h
def gtAD (x y : D) (h : DH) (Q : DK) : Prop := ∃ d e, datD h x = some d ∧ datD h y = some e ∧ alkP d e ∧ Q (.bl (ltA e d)) h
theorem py_non {d : D} (ok : okD d = true) (h : d ≠ .non) : py d ≠ .none := by
  cases d <;> simp [py, okD] at * 
theorem datD_ok' {h : DH} {d : D} (ok : okD d = true) : datD h d = some d := datD_ok ok
section
variable {X : Cx}
theorem dop_ltA (hu : X.A.units + 65 < cLine) : DOp X (compareOp .Lt) ltAD := by
  refine ⟨fun pins s σ H x y u v dx dy h Q I e1 e2 r1 r2 rh q => ?_, fun x y h Q Q' k ⟨d, e, a, b, c, q⟩ => ⟨d, e, a, b, c, k _ _ q⟩⟩
  obtain ⟨d, e, a, b, ⟨c1, c2, c3, c4, c5⟩, q⟩ := q
  obtain ⟨as, p1⟩ := Dp.reads I _ x u (datD_dp rh a c2 r1) e1
  obtain ⟨bs, p2⟩ := Dp.reads I _ y v (datD_dp rh b c3 r2) e2
  exact PySem.W.lt_data p1 p2 c1 (py_non c2 c4) (by rw [py_dep _ c2, py_dep _ c3]; omega) ⟨.bl _, H, I, rfl, Cl.same q rh rfl⟩
theorem dop_gtA (hu : X.A.units + 65 < cLine) : DOp X (compareOp .Gt) gtAD := by
  refine ⟨fun pins s σ H x y u v dx dy h Q I e1 e2 r1 r2 rh q => ?_, fun x y h Q Q' k ⟨d, e, a, b, c, q⟩ => ⟨d, e, a, b, c, k _ _ q⟩⟩
  obtain ⟨d, e, a, b, ⟨c1, c2, c3, c4, c5⟩, q⟩ := q
  obtain ⟨as, p1⟩ := Dp.reads I _ x u (datD_dp rh a c2 r1) e1
  obtain ⟨bs, p2⟩ := Dp.reads I _ y v (datD_dp rh b c3 r2) e2
  exact PySem.W.gt_data p1 p2 c1 (py_non c2 c4) (by rw [py_dep _ c2, py_dep _ c3]; omega) ⟨.bl _, H, I, rfl, Cl.same q rh rfl⟩
theorem each_rel {K : PySem.W.Frag} {H : Hp} : ∀ {ds : List D} {vs : List V} {us : List Value}, Reps K H ds vs → Vals vs us → PySem.W.EachIs (fun v d => ∃ x, RelV x v ∧ Rep K H d x) us ds
  | [], vs, us, r, e => by
    cases (show _ = _ from r)
    cases e
    exact .nil
  | d :: ds, vs, us, r, e => by
    obtain ⟨x, xs, rfl, r1, r2⟩ := r
    cases e with
    | cons e1 e2 => exact .cons ⟨x, e1, r1⟩ (each_rel r2 e2)
theorem each_back {K : PySem.W.Frag} {H : Hp} : ∀ {ds : List D} {us : List Value}, PySem.W.EachIs (fun v d => ∃ x, RelV x v ∧ Rep K H d x) us ds → ∃ vs, Vals vs us ∧ Reps K H ds vs
  | [], us, e => by
    cases e
    exact ⟨[], .nil, rfl⟩
  | d :: ds, us, e => by
    cases e with
    | cons e1 e2 =>
      obtain ⟨x, r, rd⟩ := e1
      obtain ⟨vs, rv, rs⟩ := each_back e2
      exact ⟨x :: vs, .cons r rv, x, vs, rfl, rd, rs⟩
theorem each_imp {α β : Type} {R S : α → β → Prop} : ∀ {as : List α} {bs : List β}, (∀ a b, b ∈ bs → R a b → S a b) → PySem.W.EachIs R as bs → PySem.W.EachIs S as bs
  | _, _, _, .nil => .nil
  | _, _, k, .cons h t => .cons (k _ _ List.mem_cons_self h) (each_imp (fun a b m r => k a b (List.mem_cons_of_mem _ m) r) t)
/-- sorted, by < -/
def srtD (ds : List D) : List D := ds.mergeSort fun a b => !ltA b a
/-- sorted(xs), data that can be compared -/
def sortedAD : RDC := fun xs h Q => match xs with
  | [x] => ∃ ds, seqL x h ds ∧ (∀ d ∈ ds, okD d = true ∧ dep d ≤ 60) ∧ PySem.W.AllAlike (ds.map py) ∧ PySem.W.Sortable (ds.map py) ∧ ds.length ≤ sizeLine ∧ ∀ p, h p = none → Q (.ref p) (updD h p (.lst (srtD ds)))
  | _ => False
theorem dc_sortedA (hu : X.A.units + 65 < cLine) : DCallR X (.builtin "sorted") sortedAD := by
  refine ⟨fun pins s σ H xs us Q I r ⟨ds0, h, rs, rh, q⟩ => ?_, fun ds h Q Q' k q => ?_⟩
  · unfold sortedAD at q
    split at q <;> first | exact False.elim q | skip
    obtain ⟨x, rfl, r1⟩ := reps1 rs
    obtain ⟨ds, e, ok, hal, hk, hL, q⟩ := q
    obtain ⟨a, vs, rfl, hs, rv⟩ := seqL_V rh r1 e
    obtain ⟨its, rel, hl, hz⟩ := I.list hs
    rw [Vals.ref1 r]
    have e1 := each_rel rv rel
    refine PySem.W.sorted_data (R := fun v d => ∃ x, RelV x v ∧ Rep X.K H d x) (enc := py) hl.isList e1 (each_imp (fun v d m ⟨x, rx, rd⟩ => Dp.reads I _ x v (datD_dp rh (datD_ok' (ok d m).1) (ok d m).1 rd) rx) e1) hal hk hL (fun d m => by rw [py_dep _ (ok d m).1]; have := (ok d m).2; omega) fun out ho eo => ?_
    obtain ⟨ws, rw1, rw2⟩ := each_back eo
    obtain ⟨ep, he'⟩ := PyProof.Rows.sortedAll_at s.heap its out.toArray
    have n : H (s.heap.objs.size + 1) = none := I.hok.fresh (Nat.le_succ _)
    have lw : ws.length ≤ sizeLine := by rw [rw1.length, ho]; exact hL
    refine ⟨.ref _, upd H (s.heap.objs.size + 1) (.lst ws), I.laid (t' := s.toks) (fun _ _ => PyProof.Rows.sortedAll_old) (Nat.le_succ _) ⟨lw, out, ep, rw1, he'⟩, rfl, ?_⟩
    have : srtD ds = ds.mergeSort (PySem.W.dataLe false py) := by rw [PySem.W.dataLe_eq]; rfl
    rw [← this] at rw2
    exact q _ (rh.free n) _ _ rfl (rh.new n ⟨ws, upd_same, rw2.tk (.new n)⟩) (.new n)
  · unfold sortedAD at q ⊢
    split at q <;> first | exact False.elim q | skip
    obtain ⟨ds, e, ok, hal, hk, hL, q⟩ := q
    exact ⟨ds, e, ok, hal, hk, hL, fun p n => k _ _ (q p n)⟩
end
end DL

/-! DIdx: l.index(x); max(l, default=i) of ints. -/
namespace DL
open PySem PySem.Spec PyProof.Rows L2
theorem pys_get : ∀ {ds : List D} {j : Nat} {z : PyData}, (pys ds)[j]? = some z ↔ ∃ d, ds[j]? = some d ∧ py d = z
  | [], j, z => by simp [pys]
  | d :: ds, 0, z => by simp [pys]
  | d :: ds, j + 1, z => by simp only [pys, List.getElem?_cons_succ]; exact pys_get
theorem oks_get : ∀ {ds : List D} {j : Nat} {d : D}, okDs ds = true → ds[j]? = some d → okD d = true
  | [], j, d, _, e => by simp at e
  | x :: xs, 0, d, h, e => by simp at e; subst e; simp only [okDs, Bool.and_eq_true] at h; exact h.1
  | x :: xs, j + 1, d, h, e => by simp only [okDs, Bool.and_eq_true] at h; exact oks_get h.2 (by simpa using e)
section
variable {X : Cx}
def indexD2 : RDM := fun x vs h Q => ∃ a ds y j z, x = .ref a ∧ vs = [y] ∧ h a = some (.lst ds) ∧ okDs ds = true ∧ deps ds ≤ 62 ∧ okD y = true ∧ dep y ≤ 62 ∧ ds[j]? = some z ∧ deq z y = true ∧ (∀ (m : Nat) z', m < j → ds[m]? = some z' → deq z' y = false) ∧ Q (.int (j : Nat)) h
theorem dm_index (hu : X.A.units + 65 < cLine) : DMt X "list" "list.index" isL indexD2 := by
  refine .ofL (mt_indexD hu) (fun H x xs d ds h Q r1 r2 rh q => ?_) (fun x ds h Q Q' k q => ?_)
  · obtain ⟨a, es, y, j, z, rfl, rfl, e, ok, dl, oy, dy, ez, eq, no, q⟩ := q
    cases rep_ref r1
    obtain ⟨v, rfl, r⟩ := reps1 r2
    have hl : okD (.lsv es) = true := by simpa [okD] using ok
    have p1 := datD_dp rh (show datD h (.ref a) = some (.lsv es) by simp [datD, e]) hl r1
    have p2 := datD_dp rh (datD_ok oy) oy r
    have hd : (py (.lsv es)).depth = dep (.lsv es) := py_dep _ hl
    refine ⟨a, v, py y, pys es, j, py z, rfl, rfl, by simpa [py] using p1, p2, ?_, ?_, pys_get.mpr ⟨z, ez, rfl⟩, ?_, ?_, Cl.same q rh rfl⟩
    · show ((PyData.list (pys es)).canLay0 && decide ((PyData.list (pys es)).depth ≤ 64)) = true
      have h1 := py_lay _ hl
      simp only [py] at h1 hd
      rw [h1, hd]
      have : dep (.lsv es) ≤ 64 := by simp only [dep]; omega
      simp [this]
    · show ((py y).canLay0 && decide ((py y).depth ≤ 64)) = true
      rw [py_lay _ oy, py_dep _ oy]
      simp; omega
    · rw [py_eqv _ _ (oks_get ok ez) oy]; exact eq
    · intro m z' hm hz
      obtain ⟨d, ed, rfl⟩ := pys_get.mp hz
      rw [py_eqv _ _ (oks_get ok ed) oy]; exact no m d hm ed
  · obtain ⟨a, es, y, j, z, e1, e2, e, ok, dl, oy, dy, ez, eq, no, q⟩ := q
    exact ⟨a, es, y, j, z, e1, e2, e, ok, dl, oy, dy, ez, eq, no, k _ _ q⟩
theorem de_index (hu : X.A.units + 65 < cLine) {o e : Expr} {to te : DTE} {apos cpos : Pos} (ho : DE X o to) (he : DE X e te) (hbase : attributeBase o "index" X.env (eval o X.env) = eval o X.env := by rfl)
    (hfew : ((backTo cpos (starEach [e] X.env)).all (fun x => !x.1) && (backToKw cpos (keywordEach [] X.env)).all (fun x => x.1.isSome)
      && decide ([e].length + ([] : List Keyword).length + (if ([] : List Keyword).isEmpty then 0 else 1) < 30)) = true := by rfl)
    (hline : (apos.endLine == cpos.line) = true := by rfl) (hs : starEach [e] X.env = (false, eval e X.env) :: starEach [] X.env := by rfl) (hplain : (backTo cpos (starEach [] X.env)).any (·.1) = false := by rfl) :
    DE X (.Call (.Attribute o "index" apos) [e] [] cpos) (dBM isL indexD2 to (dCons te dNil)) :=
  de_bm PySem.F.plainAttrs_list PySem.F.slot_list_index PySem.F.type_list_index (dm_index hu) ho (da_cons he da_nil hs) hbase hfew hline hs hplain
end
end DL

/-! DKw: built-ins called with keywords; max(l, default=i). -/
namespace DL
open PySem PySem.Spec PyProof.Rows L2
structure DKw (X : Cx) (kws : List Keyword) (t : DTA) : Prop where
  run : PK X kws (LA X.K t)
  mono : Mono t
theorem _root_.L2.PK.wk {X : Cx} {kws : List Keyword} {t t' : TA} (p : PK X kws t) (k : ∀ σ H Q, t' σ H Q → t σ H Q) : PK X kws t' := ⟨fun pos pins s σ H Q I h => p.run pos pins s σ H Q I (k _ _ _ h)⟩
abbrev RDK := List D → List D → DH → DK → Prop
def rLAK (K : PySem.W.Frag) (rd : RDK) : List V → List V → Hp → VK → Prop := fun xs zs H Q => ∃ ds es h, Reps K H ds xs ∧ Reps K H es zs ∧ RepH K H h ∧ rd ds es h (Cl K H Q)
structure DCallRK (X : Cx) (f : Value) (ks : List Str) (rd : RDK) : Prop where
  run : CallRK X f ks (rLAK X.K rd)
  mono : ∀ ds es h Q Q', (∀ d h', Q d h' → Q' d h') → rd ds es h Q → rd ds es h Q'
def dCBK (rd : RDK) (t tk : DTA) : DTE := fun τ h Q => t τ h fun ds h1 => tk τ h1 fun es h2 => rd ds es h2 Q
section
variable {X : Cx} {x : Str} {p pos kpos : Pos} {e : Expr} {es : List Expr} {t tk : DTA} {te : DTE} {id : String} {rd : RDK} {ks : List Str} {kws : List Keyword} {nm : Option Str}
theorem dkw_nil : DKw X [] dNil := by
  refine ⟨pk_nil.wk fun σ H Q q => ?_, fun τ h Q Q' k q => k _ _ q⟩
  obtain ⟨τ, h, rs, rh, q⟩ := q
  exact q [] H .nil rh (.refl H)
theorem dkw_cons (ha : DE X e te) (hr : DKw X kws t) : DKw X (⟨nm, e, kpos⟩ :: kws) (dCons te t) := by
  refine ⟨(pk_cons ha.run hr.run).wk fun σ H Q q => ?_, fun τ h Q Q' k q => ha.mono _ _ _ _ (fun x h1 q => hr.mono _ _ _ _ (fun xs h2 q => k _ _ q) q) q⟩
  obtain ⟨τ, h, rs, rh, q⟩ := q
  refine LE.of ha.mono rs rh q fun d h1 v H1 q1 r1 rh1 k1 => ?_
  exact LA.of hr.mono (rs.tk k1) rh1 q1 fun ds h2 vs H2 q2 r2 rh2 k2 => q2 (v :: vs) H2 (.cons (r1.tk k2) r2) rh2 (k1.trans k2)
theorem de_callBK (hc : DCallRK X (.builtin id) ks rd) (hg : Gl X x) (hm : X.mg x = none) (hv : bootBuiltins x = some (.builtin id)) (ha : DA X (e :: es) t) (hk : DKw X kws tk) (hn : x ≠ "__name__" := by decide) (hdb : (x == ("__debug__" : Str)) = false := by decide)
    (he : backTo pos (starEach (e :: es) X.env) = (false, eval e X.env) :: backTo pos (starEach es X.env) := by rfl) (hpl : (backTo pos (starEach (e :: es) X.env)).any (·.1) = false := by rfl)
    (hall : (backToKw pos (keywordEach kws X.env)).all (·.1.isSome) = true := by rfl) (hnone : (backToKw pos (keywordEach kws X.env)).any (·.1.isNone) = false := by rfl) (hks : (backToKw pos (keywordEach kws X.env)).filterMap (·.1) = ks := by rfl) :
    DE X (.Call (.Name x p) (e :: es) kws pos) (dCBK rd t tk) := by
  refine ⟨(pe_callBK hc.run hg hm hv ha.run hk.run hn hdb he hpl hall hnone hks).wk fun σ H Q q => ?_, fun τ h Q Q' k q => ha.mono _ _ _ _ (fun ds h1 q => hk.mono _ _ _ _ (fun es h2 q => hc.mono _ _ _ _ _ k q) q) q⟩
  obtain ⟨τ, h, rs, rh, q⟩ := q
  refine LA.of ha.mono rs rh q fun ds h1 vs H1 q1 r1 rh1 k1 => ?_
  exact LA.of hk.mono (rs.tk k1) rh1 q1 fun es h2 zs H2 q2 r2 rh2 k2 => ⟨ds, es, h2, r1.tk k2, r2, rh2, hc.mono _ _ _ _ _ (fun _ _ c => c.tk (k1.trans k2)) q2⟩
theorem depthAll_ints : ∀ ns : List Int, PyData.depthAll (ns.map PyData.int) = 0
  | [] => by simp [PyData.depthAll]
  | n :: ns => by simp [PyData.depthAll, PyData.depth, depthAll_ints ns]
/-- max(l, default=i), ints -/
def mxI (i : Int) : List Int → Int
  | [] => i
  | n :: ns => ns.foldl max n
def maxDefD : RDK := fun xs es h Q => ∃ x ns i, xs = [x] ∧ es = [.int i] ∧ seqL x h (ns.map .int) ∧ Q (.int (mxI i ns)) h
theorem dc_maxDef (hc : X.calm = true) (hu : X.A.units + 65 < cLine) : DCallRK X (.builtin "max") [Str.ofString "default"] maxDefD := by
  refine ⟨fun pins s σ H xs zs us ws Q I r rz ⟨ds, es, h, rs, re, rh, q⟩ => ?_, fun ds es h Q Q' k ⟨x, ns, i, a, b, c, q⟩ => ⟨x, ns, i, a, b, c, k _ _ q⟩⟩
  obtain ⟨x, ns, i, rfl, rfl, e, q⟩ := q
  obtain ⟨v, rfl, r1⟩ := reps1 rs
  obtain ⟨w, rfl, r2⟩ := reps1 re
  cases rep_int r2
  obtain ⟨a, vs, rfl, hs, rv⟩ := seqL_V rh r1 e
  cases reps_ints' rv
  obtain ⟨its, rel, hl, _⟩ := I.list hs
  rw [Vals.ref1 r]
  cases rz with
  | cons rz1 rz2 =>
    cases rz2
    obtain ⟨t, rfl⟩ := rz1
    have rd := ints_readAll s.heap rel.ints
    have dep0 := depthAll_ints ns
    refine PySem.W.max_list_default (I.ok.hd hc) hl.isList rd ⟨?_, ?_⟩ (by rw [dep0]; omega) (fun e0 h' tk hk => ?_) (fun y ys j v h' tk bs e1 ev rr hk => ?_)
    · intro x hx y hy
      obtain ⟨n, _, rfl⟩ := List.mem_map.mp hx
      obtain ⟨m, _, rfl⟩ := List.mem_map.mp hy
      simp [PySem.W.alike]
    · intro x hx
      obtain ⟨n, _, rfl⟩ := List.mem_map.mp hx
      simp
    · cases ns with
      | nil => exact ⟨.int _, H, I.kept hk, ⟨_, rfl⟩, Cl.same q rh rfl⟩
      | cons n ns => simp at e0
    · cases ns with
      | nil => simp at e1
      | cons n ns =>
        simp at e1
        obtain ⟨rfl, rfl⟩ := e1
        rw [PySem.W.maxD_ints] at rr
        cases rr
        exact ⟨.int _, H, I.kept hk, ⟨_, rfl⟩, Cl.same q rh rfl⟩
end
end DL

/-! DRevT: list(reversed(a tuple)). -/
namespace DL
open PySem PySem.Spec PyProof.Rows L2 RT
theorem nolen_rt : typeLookup (.type "reversed") "__len__" = pure none := by rw [typeLookup_type, builtinLookup_eq_fast]; kernel_rfl
theorem hint_rt : typeLookup (.type "reversed") "__length_hint__" = pure (some (.builtin "reversed.__length_hint__")) := by rw [typeLookup_type, builtinLookup_eq_fast]; kernel_rfl
theorem tup_push {h : Heap} {t : Addr} {items : Array Value} (x : IsTup h t items) (o : Obj) : IsTup (h.push o) t items := let ⟨ob, ho, r⟩ := x; ⟨ob, Heap.get?_push_of_some _ ho, r⟩
theorem tup_at {h h' : Heap} {t : Addr} {items : Array Value} (x : IsTup h t items) (e : ∀ o, h.get? t = some o → h'.get? t = some o) : IsTup h' t items := let ⟨ob, ho, r⟩ := x; ⟨ob, e _ ho, r⟩
theorem tupRevW {prog : Program} {w : World} {A : Around} (hh : A.handled = none) (I l : Addr) (hne : l ≠ I) (items : Array Value) (hn : items.size ≤ sizeLine) :
    PySem.Walks prog w A I [I, l] [I] items.size (fun i v => items[items.size - 1 - i]? = some v) (fun i h => i ≤ items.size ∧ IsRt h I l ((items.size : Int) - 1 - (i : Int)) ∧ IsTup h l items) where
  sub := fun b hb => by simp at hb; simp [hb]
  frame := fun _ _ _ x hk => ⟨x.1, x.2.1.at fun o e => hk I (by simp) o e, tup_at x.2.2 fun o e => hk l (by simp) o e⟩
  item := fun i s Q E hi x hQ => by
    have e : (items.size : Int) - 1 - (i : Int) = ((items.size - 1 - i : Nat) : Int) := by omega
    have hit := x.2.1
    rw [e] at hit
    have hx : items[items.size - 1 - i]? = some (items[items.size - 1 - i]'(by omega)) := Array.getElem?_eq_getElem (by omega)
    refine next_rt_item hit x.2.2 hx hn fun h' hit' hs' => ?_
    have e2 : ((items.size - 1 - i : Nat) : Int) - 1 = (items.size : Int) - 1 - ((i + 1 : Nat) : Int) := by omega
    rw [e2] at hit'
    exact hQ _ h' (s.toks + 1) hx ⟨hi, hit', tup_at x.2.2 fun o eo => (hs'.2 l hne).trans eo⟩ fun b o hb eo => hs'.extBut b o (fun h => hb (by simp [h])) eo
  done := fun s Q E x hQ => by
    have e : (items.size : Int) - 1 - (items.size : Int) = -1 := by omega
    have hit := x.2.1
    rw [e] at hit
    exact next_rt_end hh hit fun h' he' => hQ h' s.toks fun b o hb eo => he' b o (fun h => hb (by simp [h])) eo
  self := fun _ _ _ _ x hQ => iter_rt x.2.1 hQ
theorem kind_rt_hint : builtinKind "reversed.__length_hint__" = some .method := by decide +kernel
theorem bind_rt_hint (self : Value) : bindSpecial (.builtin "reversed.__length_hint__") self = pure (.builtin "reversed.__length_hint__", [self]) := by
  have hop : withoutEnding? "reversed.__length_hint__" "#opaque" = none := by decide +kernel
  have hdat : withoutEnding? "reversed.__length_hint__" "#data" = none := by decide +kernel
  simp only [bindSpecial, typeOf, builtinType, hop, hdat, kind_rt_hint]; rfl
theorem slot_rt_hint : Slot "reversed" "__length_hint__" "reversed.__length_hint__" :=
  .of (owner := "reversed") (n := "__length_hint__") (by rw [typeLookup_type, builtinLookup_eq_fast]; kernel_rfl) (by decide +kernel) (by decide +kernel) (by decide +kernel)
    (by first | exact .inl (by decide +kernel) | exact .inr (by decide +kernel)) (by rw [isSubtype_type]; kernel_rfl)
theorem entry_rt_hint : entryFor table "reversed.__length_hint__" = some Builtin.«reversed.__length_hint__» := entryFor_of_tree (by kernel_rfl)
theorem args_rt_hint (a : Value) : argsOk "reversed.__length_hint__" ⟨[a], []⟩ := by
  unfold argsOk; rw [signature?_of (id := "reversed.__length_hint__") (n := ['_', '_', 't', 'n', 'i', 'h', '_', 'h', 't', 'g', 'n', 'e', 'l', '_', '_']) (o := ['d', 'e', 's', 'r', 'e', 'v', 'e', 'r']) (by kernel_rfl) owner_rt]; kernel_rfl
section
variable {prog : Program} {w : World} {A : Around} {E : Value → Shared → Prop} {s : Shared}
theorem call_rt_hint {it t : Addr} {items : Array Value} {Q : Value → Shared → Prop} (hit : IsRt s.heap it t ((items.size : Int) - 1)) (ht : IsTup s.heap t items) (hsz : items.size ≤ sizeLine)
    (hQ : ∀ tk u, Q (.int (items.size : Int) u) { s with toks := tk }) : wpAny (model prog w) A (call (.builtin "reversed.__length_hint__") [.ref it]) Q E s := by
  obtain ⟨o, ho, hc, hd⟩ := id hit
  rw [sizeLine_eq] at hsz
  refine wpAny_call_entry slot_rt_hint hit.typeIs entry_rt_hint ?_ (args_rt_hint _)
  unfold Builtin.«reversed.__length_hint__»
  refine wpAny_bind (wpAny_of_eq (a := Value.ref it) rfl ?_)
  try dsimp only
  refine wpAny_bind (wpAny_field ho hd (x := .ref t) rfl ?_)
  try dsimp only
  rw [if_neg (by simp)]
  refine wpAny_bind (len_tuple ht (by omega) ?_)
  refine wpAny_bind (wpAny_of_eq (a := some ((items.size : Nat) : Int)) rfl ?_)
  try dsimp only
  refine wpAny_bind (wpAny_field (s := { s with toks := s.toks + 1 + 1 }) ho hd (x := rawInt ((items.size : Int) - 1)) rfl ?_)
  show wpAny _ _ (if ((items.size : Int)) < ((items.size : Int) - 1) + 1 then _ else _) _ _ _
  rw [if_neg (by omega)]
  rw [show ((items.size : Int) - 1) + 1 = (items.size : Int) by omega]
  refine wpAny_bind (wpAny_mkInt ?_)
  exact wpAny_pure ⟨_, rfl, hQ _ _⟩
theorem hint_tup {it t : Addr} {items : Array Value} {Q : Bool → Shared → Prop} (hit : IsRt s.heap it t ((items.size : Int) - 1)) (ht : IsTup s.heap t items) (hsz : items.size ≤ sizeLine)
    (hQ : ∀ tk, Q ((items.size : Int) != 0) { s with toks := tk }) : wpAny (model prog w) A (Builtin.List.listLengthHint (.ref it)) Q E s := by
  have hT : s.TypeIs (.ref it) "reversed" := hit.typeIs
  have hsz' := hsz
  rw [sizeLine_eq] at hsz'
  unfold Builtin.List.listLengthHint
  refine wpAny_bind (wpAny_specialOf hT nolen_rt ?_)
  show wpAny _ A (specialOf (Value.ref it) (Str.ofString "__length_hint__") >>= _) _ _ _
  refine wpAny_bind (wpAny_specialOf hT hint_rt ?_)
  generalize hid : ("reversed.__length_hint__" : String) = id0
  wp_delta
  rw [show splitId id0 = some ("reversed", "__length_hint__") from by subst hid; decide +kernel]
  subst hid
  refine wpAny_bind (wpAny_isInstance (b := true) hT (by rw [isSubtype_type]; kernel_rfl) ?_)
  refine wpAny_ite_split (fun hab => absurd hab (by decide)) (fun _ => ?_)
  refine wpAny_ite_split (fun hab => absurd hab (by decide +kernel)) (fun _ => ?_)
  refine wpAny_bind (wpAny_rule ?_)
  refine wpAny_bind (wpAny_of_eq (bind_rt_hint _) ?_)
  refine wpAny_bind (wpAny_attempt (call_rt_hint hit ht hsz fun tk u => ?_))
  have h1 : (!Builtin.List.listFitsIndex ((items.size : Nat) : Int)) = false := by simp [Builtin.List.listFitsIndex]; omega
  have h2 : Builtin.List.listTooLong (((items.size : Nat) : Int).toNat) = false := by
    unfold Builtin.List.listTooLong
    rw [Int.toNat_natCast, sizeLine_eq]
    simp; omega
  generalize Builtin.List.listFitsIndex = F1 at h1 ⊢
  generalize Builtin.List.listTooLong = F2 at h2 ⊢
  dsimp only
  refine wpAny_bind (m := asInt? _) (wpAny_pure ?_)
  dsimp only
  rw [h1, h2, if_neg (by decide), if_neg (by omega), if_neg (by decide)]
  exact wpAny_pure (hQ _)
end
section
variable {prog : Program} {w : World} {A : Around} {E : Value → Shared → Prop} {s : Shared}
theorem extend_revT {R : Result → Shared → Prop} {it l : Addr} {items : Array Value} (hh : A.handled = none) (hit : IsRt s.heap it l ((items.size : Int) - 1)) (hl : IsTup s.heap l items) (hne : l ≠ it) (hn : items.size ≤ sizeLine)
    (S : Addr) (res : Value) (c₀ : Nat) (hS : s.heap.get? S = some { cls := .type "list", data := .seq #[] c₀ }) (hSi : S ≠ it) (hSl : S ≠ l)
    (hR : ∀ h' tk acc' c', (∀ b o, b ≠ S → b ≠ it → s.heap.get? b = some o → h'.get? b = some o) → h'.get? S = some { cls := .type "list", dict := none, data := .seq acc' c', slots := #[] } →
      ItemsOf (fun i v => items[items.size - 1 - i]? = some v) acc' items.size → R (.ok (.ret res)) { s with heap := h', toks := tk }) :
    wpAny (model prog w) A.in1 (Builtin.List.listExtendWith (.ref S) (.ref it) res)
      (fun fin s' => match fin with | .done f => R (.ok f) s' | .again c' => c'.quiet = true ∧ codeAny (model prog w) A c' R s') (fun e s' => R (.error e) s') s := by
  have W := (tupRevW (prog := prog) (w := w) (A := A.in1) hh it l hne items hn).toS
  have hSf : S ∉ [it, l] := by simp only [List.mem_cons, List.not_mem_nil, or_false, not_or]; exact ⟨hSi, hSl⟩
  have hT : s.TypeIs (.ref it) "reversed" := hit.typeIs
  have h1 : Builtin.List.listSameRef (.ref S) (.ref it) = false := by simp [Builtin.List.listSameRef, hSi]
  unfold Builtin.List.listExtendWith
  refine wpAny_bind (wpAny_typeOf hT ?_)
  rw [if_neg (by rw [h1]; decide)]
  refine wpAny_bind (iter_rt hit ?_)
  refine wpAny_bind (wpAny_holding ?_)
  refine hint_tup hit hl hn fun tk => ?_
  have e0 : ((items.size : Nat) : Int) - 1 - ((0 : Nat) : Int) = (items.size : Int) - 1 := by omega
  have go : ∀ (h2 : Heap) (tk c : Nat), h2.get? S = some { cls := .type "list", data := .seq #[] c } → (∀ b o, b ≠ S → s.heap.get? b = some o → h2.get? b = some o) →
      wpAny (model prog w) A.in1 (again (Code.builtin "list.extend.loop" { pos := [Value.ref S, Value.ref it, res] })) (fun fin s' => match fin with | .done f => R (.ok f) s' | .again c' => c'.quiet = true ∧ codeAny (model prog w) A c' R s') (fun e s' => R (.error e) s') { s with heap := h2, toks := tk } := by
    intro h2 tk c hS2 oth
    refine wpAny_pure ⟨plainId_quiet F.plain_extend_loop _, codeAny_extend_loopS W hn _ hSf _ items.size 0 _ _ _ rfl (Nat.zero_le _) ⟨Nat.zero_le _, by rw [e0]; exact hit.at fun o e => oth it o (Ne.symm hSi) e, tup_at hl fun o e => oth l o (Ne.symm hSl) e⟩ hS2 (ItemsOf.nil _) fun s' acc' c' hm hS' hacc => ?_⟩
    rw [Moved.eq_with hm]
    refine hR s'.heap s'.toks acc' c' (fun b o hb hi e => hm.heap b o (fun hmem => ?_) (oth b o hb e)) hS' hacc
    rcases List.mem_cons.mp hmem with e' | hmem
    · exact hb e'
    · exact hi (List.mem_singleton.mp hmem)
  dsimp only
  refine wpAny_ite_split (fun _ => ?_) (fun _ => go s.heap tk c₀ hS fun b o _ e => e)
  refine wpAny_bind (wpAny_rule ?_)
  refine wpAny_bind ?_
  show wpAny _ A.in1 (updateSeq S (·.push .none) >>= fun _ => updateSeq S (·.pop)) _ _ _
  refine wpAny_bind (wpAny_updateSeq hS rfl ?_)
  have hS2 := Heap.get?_update_self (Obj.mapSeq (·.push Value.none)) hS rfl
  refine wpAny_updateSeq (hz := by seq_fits) hS2 rfl ?_
  have hS3 := Heap.get?_update_self (Obj.mapSeq (·.pop)) hS2 rfl
  exact go _ _ _ hS3 fun b o hb e => (Heap.get?_update_other _ _ (Ne.symm hb)).trans ((Heap.get?_update_other _ _ (Ne.symm hb)).trans e)
theorem list_init_revT {R : Result → Shared → Prop} {it l : Addr} {items : Array Value} (hh : A.handled = none) (hit : IsRt s.heap it l ((items.size : Int) - 1)) (hl : IsTup s.heap l items) (hne : l ≠ it) (hn : items.size ≤ sizeLine)
    (S : Addr) (hS : s.heap.get? S = some { cls := .type "list", data := .seq #[] }) (hSi : S ≠ it) (hSl : S ≠ l)
    (hR : ∀ h' tk acc' c', (∀ b o, b ≠ S → b ≠ it → s.heap.get? b = some o → h'.get? b = some o) → h'.get? S = some { cls := .type "list", dict := none, data := .seq acc' c', slots := #[] } →
      ItemsOf (fun i v => items[items.size - 1 - i]? = some v) acc' items.size → R (.ok (.ret .none)) { s with heap := h', toks := tk }) :
    wpAny (model prog w) A.in1 (Builtin.«list.__init__» ⟨[.ref S, .ref it], []⟩)
      (fun fin s' => match fin with | .done f => R (.ok f) s' | .again c' => c'.quiet = true ∧ codeAny (model prog w) A c' R s') (fun e s' => R (.error e) s') s := by
  show wpAny _ _ (do let old ← Builtin.List.listItems (.ref S); Builtin.List.listUpdate (.ref S) (fun _ => #[]); letGo old.toList.reverse; Builtin.List.listExtendWith (.ref S) (.ref it) .none) _ _ s
  refine wpAny_bind ?_
  unfold Builtin.List.listItems
  refine wpAny_bind (wpAny_seqItems hS rfl (wpAny_pure ?_))
  show wpAny _ _ (updateSeq S (fun _ => #[]) >>= fun _ => letGo (#[] : Array Value).toList.reverse >>= fun _ => Builtin.List.listExtendWith (.ref S) (.ref it) .none) _ _ s
  refine wpAny_bind (wpAny_updateSeq hS rfl ?_)
  have hS₂ := Heap.get?_update_self (Obj.mapSeq (fun _ => (#[] : Array Value))) hS rfl
  have oth : ∀ b o, b ≠ S → s.heap.get? b = some o → (s.heap.update S (Obj.mapSeq (fun _ => (#[] : Array Value)))).get? b = some o :=
    fun b o hb e => (Heap.get?_update_other _ _ (Ne.symm hb)).trans e
  refine wpAny_bind (wpAny_letGo ?_)
  refine extend_revT (s := { s with heap := s.heap.update S (Obj.mapSeq (fun _ => (#[] : Array Value))) }) hh (hit.at fun o e => oth it o (Ne.symm hSi) e) ?_ hne hn S .none _ hS₂ hSi hSl fun h' tk acc' c' hk hS' hacc => ?_
  · obtain ⟨o, e, r⟩ := hl
    exact ⟨o, oth l o (Ne.symm hSl) e, r⟩
  · exact hR h' tk acc' c' (fun b o hb hi e => hk b o hb hi (oth b o hb e)) hS' hacc
theorem call_list_revT {Q : Value → Shared → Prop} {it l : Addr} {items : Array Value} (hh : A.handled = none) (hit : IsRt s.heap it l ((items.size : Int) - 1)) (hl : IsTup s.heap l items) (hne : l ≠ it) (hn : items.size ≤ sizeLine)
    (hQ : ∀ h' tk acc' c', (∀ b o, b ≠ it → s.heap.get? b = some o → h'.get? b = some o) →
      h'.get? s.heap.objs.size = some { cls := .type "list", dict := none, data := .seq acc' c', slots := #[] } → ItemsOf (fun i v => items[items.size - 1 - i]? = some v) acc' items.size → Q (.ref s.heap.objs.size) { s with heap := h', toks := tk }) :
    wpAny (model prog w) A (call (.type "list") [.ref it]) Q E s := by
  refine callType_codes (Q₁ := fun obj s₁ => obj = .ref s.heap.objs.size ∧ s₁ = { s with heap := s.heap.push { cls := .type "list", data := .seq #[] } }) F.called_list (F.typeCall_list_1 _) F.entry_list_init
    (code_list_new _ ⟨rfl, rfl⟩) fun obj s₁ h₁ => ?_
  obtain ⟨rfl, rfl⟩ := h₁
  have hS : (s.heap.push { cls := .type "list", data := .seq #[] }).get? s.heap.objs.size = some { cls := .type "list", data := .seq #[] } := Heap.get?_push_size _ rfl
  obtain ⟨oi, hoi, _⟩ := id hit
  obtain ⟨ol, hol, _⟩ := id hl
  have hSi : s.heap.objs.size ≠ it := Nat.ne_of_gt (Heap.lt_size hoi)
  have hSl : s.heap.objs.size ≠ l := Nat.ne_of_gt (Heap.lt_size hol)
  refine ⟨⟨_, hS, rfl⟩, F.args_list_init_2 _ _, list_init_revT (A := A.in1) hh (hit.at fun o e => Heap.get?_push_of_some _ e) (tup_push hl _) hne hn _ hS hSi hSl fun h' tk acc' c' hk hS' hacc => ?_⟩
  exact ⟨rfl, hQ h' tk acc' c' (fun b o hb e => hk b o (Nat.ne_of_lt (Heap.lt_size e)) hb (Heap.get?_push_of_some _ e)) hS' hacc⟩
end
/-- list(reversed(x)), x a tuple: a new list -/
def tLstRevT (K : PySem.W.Frag) (te : TE) : TE := fun σ H Q => te σ H fun v H1 => ∃ (a : Addr) (xs : List V), v = .ref a ∧ SqT K H1 a xs ∧ ∀ q, H1 q = none → Q (.ref q) (upd H1 q (.lst xs.reverse))
section
variable {X : Cx}
theorem pe_lstRevT {e : Expr} {te : TE} {p p2 pos pos2 : Pos} (hc : X.calm = true) (hg : Gl X "list") (hm : X.mg "list" = none) (hg2 : Gl X "reversed") (hm2 : X.mg "reversed" = none) (he : PE X e te)
    (hs : starEach [e] X.env = (false, eval e X.env) :: starEach [] X.env := by rfl)
    (hs2 : starEach [.Call (.Name "reversed" p2) [e] [] pos2] X.env = (false, eval (.Call (.Name "reversed" p2) [e] [] pos2) X.env) :: starEach [] X.env := by rfl) :
    PE X (.Call (.Name "list" p) [.Call (.Name "reversed" p2) [e] [] pos2] [] pos) (tLstRevT X.K te) := by
  refine ⟨fun pins s σ H Q I h => ?_⟩
  refine Call_ (ld_blt I hg hm boot_list (PyProof.Rows.callWith_type1 (args_cons (Call_ (ld_blt I hg2 hm2 PyProof.Rows.boot_reversed (PyProof.Rows.callWith_type1 (args_cons (thn (he.run pins s σ H _ I h) fun u s1 ⟨v, H1, I1, r1, q1⟩ => args_nil ?_) hs) hs rfl))) hs2) hs2 rfl))
  obtain ⟨a, xs, ev, hq, q⟩ := q1
  subst ev
  obtain rfl : u = Value.ref a := r1
  obtain ⟨its, rv, p', hz⟩ := I1.tuple hq
  have hn : its.toArray.size ≤ sizeLine := by rw [List.size_toArray, ← rv.length]; exact hz
  have hn2 := hn
  rw [sizeLine_eq] at hn2
  refine call_reversed_tup p' (fun A E Q k => len_tuple p' (by omega) k) (args_nil ?_)
  have k0 : ∀ b o, s1.heap.get? b = some o → (s1.heap.push (rtObj a ((its.toArray.size : Int) - 1))).get? b = some o := fun b o e => Heap.get?_push_of_some _ e
  have I2 : Inv X pins σ H1 { s1 with heap := s1.heap.push (rtObj a ((its.toArray.size : Int) - 1)), toks := s1.toks + 1 + 1 } := I1.kept (t' := s1.toks + 1 + 1) k0
  obtain ⟨ol, hol, _⟩ := id p'
  have hne : a ≠ s1.heap.objs.size := Nat.ne_of_lt (Heap.lt_size hol)
  have hnew : H1 (s1.heap.push (rtObj a ((its.toArray.size : Int) - 1))).objs.size = none := I2.hok.fresh (Nat.le_refl _)
  have ltS : s1.heap.objs.size < (s1.heap.push (rtObj a ((its.toArray.size : Int) - 1))).objs.size := Heap.lt_size (Heap.get?_push_size _ rfl : (s1.heap.push (rtObj a ((its.toArray.size : Int) - 1))).get? s1.heap.objs.size = some _)
  refine call_list_revT (s := { s1 with heap := s1.heap.push (rtObj a ((its.toArray.size : Int) - 1)), toks := s1.toks + 1 + 1 }) (I1.ok.hd hc) ⟨_, Heap.get?_push_size _ rfl, rfl, rfl⟩ (tup_push p' _) hne hn fun h' tk acc c' hk hS hi => ?_
  refine ⟨.ref (s1.heap.push (rtObj a ((its.toArray.size : Int) - 1))).objs.size, upd H1 (s1.heap.push (rtObj a ((its.toArray.size : Int) - 1))).objs.size (.lst xs.reverse), I1.laid (t' := tk) (fun b o e => hk b o (Nat.ne_of_lt (Heap.lt_size e)) (k0 b o e)) (Nat.le_of_lt ltS)
    (show ObjOk X.prog X.w _ _ _ (.lst xs.reverse) from ⟨by rw [List.length_reverse]; exact hz, acc.toList, c', vals_rev rv hi, ?_⟩), rfl, q _ hnew⟩
  rw [Array.toArray_toList]
  exact hS
end
def dLstRevT (te : DTE) : DTE := fun τ h Q => te τ h fun x h1 => ∃ ds, x = .tup ds ∧ ∀ p, h1 p = none → Q (.ref p) (updD h1 p (.lst ds.reverse))
theorem de_lstRevT {X : Cx} {e : Expr} {te : DTE} {p p2 pos pos2 : Pos} (hc : X.calm = true) (hg : Gl X "list") (hm : X.mg "list" = none) (hg2 : Gl X "reversed") (hm2 : X.mg "reversed" = none) (he : DE X e te)
    (hs : starEach [e] X.env = (false, eval e X.env) :: starEach [] X.env := by rfl)
    (hs2 : starEach [.Call (.Name "reversed" p2) [e] [] pos2] X.env = (false, eval (.Call (.Name "reversed" p2) [e] [] pos2) X.env) :: starEach [] X.env := by rfl) :
    DE X (.Call (.Name "list" p) [.Call (.Name "reversed" p2) [e] [] pos2] [] pos) (dLstRevT te) := by
  refine ⟨(pe_lstRevT hc hg hm hg2 hm2 he.run hs hs2).wk fun σ H Q q => ?_, fun τ h Q Q' k q => he.mono _ _ _ _ (fun x h1 ⟨ds, e1, q⟩ => ⟨ds, e1, fun p n => k _ _ (q p n)⟩) q⟩
  obtain ⟨τ, h, rs, rh, q⟩ := q
  refine LE.of he.mono rs rh q fun d h1 v H1 ⟨ds, e1, q⟩ r1 rh1 k1 => ?_
  subst e1
  obtain ⟨a, xs, rfl, s, r⟩ := r1
  exact ⟨a, xs, rfl, s, fun p' n => Cl.newL rh1 r.reverse n ((q p' (rh1.free n)).tk k1)⟩
end DL

/-! DMore: loops with what follows left folded. -/
namespace DL
open PySem PySem.Spec PyProof.Rows L2
/-- for: what follows a turn is a name with what it asks -/
theorem dFor_ab {wi : DTI} {g : DTG} {tb : DTS} {En : DEnds} {τ : DSt} {h : DH} {items : List D} {st : DH → Prop} {h1 : DH} (Pv : Nat → DSt → DH → Prop)
    (hi : ∀ R : DIK, R items st h1 → wi τ h R) (h0 : Pv 0 τ h1) (hst : ∀ i τ h, Pv i τ h → st h)
    (hs : ∀ i d τ h (nx : DSt → DH → Prop), items[i]? = some d → Pv i τ h → (∀ τ h, Pv (i + 1) τ h → nx τ h) → g d τ h fun τ2 h2 => tb { nx := nx, rt := En.rt, bk := En.nx, ct := nx, ex := En.ex } τ2 h2)
    (hd : ∀ τ h, Pv items.length τ h → En.nx τ h) : dFor wi g tb En τ h :=
  dFor_of Pv hi h0 hst (fun i d τ h e p => hs i d τ h (Pv (i + 1)) e p fun _ _ q => q) hd
/-- .. the list first reckoned, by what holds of it -/
theorem dFor_abI {wi : DTI} {g : DTG} {tb : DTS} {En : DEnds} {τ : DSt} {h : DH} (P : List D → (DH → Prop) → DH → Prop)
    (hi : ∀ R : DIK, (∀ items st h1, P items st h1 → R items st h1) → wi τ h R)
    (k : ∀ items st h1, P items st h1 → ∃ Pv : Nat → DSt → DH → Prop, Pv 0 τ h1 ∧ (∀ i τ h, Pv i τ h → st h) ∧
      (∀ i d τ h (nx : DSt → DH → Prop), items[i]? = some d → Pv i τ h → (∀ τ h, Pv (i + 1) τ h → nx τ h) → g d τ h fun τ2 h2 => tb { nx := nx, rt := En.rt, bk := En.nx, ct := nx, ex := En.ex } τ2 h2) ∧ ∀ τ h, Pv items.length τ h → En.nx τ h) : dFor wi g tb En τ h :=
  hi _ fun items st h1 p => let ⟨Pv, a, b, c, e⟩ := k items st h1 p; ⟨Pv, a, b, fun i d τ h e p => c i d τ h (Pv (i + 1)) e p fun _ _ q => q, e⟩
/-- a comprehension with a test, what follows a turn folded -/
theorem dLc_flt {wi : DTI} {t : DTG} {tt : DTT} {te : DTE} {vs : List Nat} {τ : DSt} {h : DH} {items : List D} {st : DH → Prop} {h1 : DH} {Q : DK} (Pv : Addr → Nat → DH → Prop)
    (hi : ∀ R : DIK, R items st h1 → wi τ h R) (hst : ∀ p i h, Pv p i h → st h) (h0 : ∀ p, h1 p = none → Pv p 0 (updD h1 p (.lst [])))
    (he : ∀ p, h1 p = none → ∀ (i : Nat) d h2 (nx : DH → Prop), items[i]? = some d → Pv p i h2 → (∀ h, Pv p (i + 1) h → nx h) → t d (wipeD τ vs) h2 fun τ2 h2 => tt τ2 h2 fun b h3 => if b = true then te τ2 h3 fun y h4 => ∃ acc, h4 p = some (.lst acc) ∧ acc.length < sizeLine ∧ nx (updD h4 p (.lst (acc ++ [y]))) else nx h3)
    (hQ : ∀ p, h1 p = none → ∀ h2, Pv p items.length h2 → Q (.ref p) h2) : dLc wi t tt te vs τ h Q :=
  hi _ fun p n => ⟨Pv p, h0 p n, hst p, fun i d h2 e q => he p n i d h2 (Pv p (i + 1)) e q fun _ q => q, hQ p n⟩
theorem dLc_ab {wi : DTI} {t : DTG} {te : DTE} {vs : List Nat} {τ : DSt} {h : DH} {items : List D} {st : DH → Prop} {h1 : DH} {Q : DK} (Pv : Addr → Nat → DH → Prop)
    (hi : ∀ R : DIK, R items st h1 → wi τ h R) (hst : ∀ p i h, Pv p i h → st h) (h0 : ∀ p, h1 p = none → Pv p 0 (updD h1 p (.lst [])))
    (he : ∀ p, h1 p = none → ∀ (i : Nat) d h2 (nx : DH → Prop), items[i]? = some d → Pv p i h2 → (∀ h, Pv p (i + 1) h → nx h) → t d (wipeD τ vs) h2 fun τ2 h3 => te τ2 h3 fun y h4 => ∃ acc, h4 p = some (.lst acc) ∧ acc.length < sizeLine ∧ nx (updD h4 p (.lst (acc ++ [y]))))
    (hQ : ∀ p, h1 p = none → ∀ h2, Pv p items.length h2 → Q (.ref p) h2) : dLc wi t dYes te vs τ h Q :=
  dLc_any Pv hi hst h0 (fun p n i d h2 e q => he p n i d h2 (Pv p (i + 1)) e q fun _ q => q) hQ
theorem atI_3 {α : Type} {x y z w : α} {xs : List α} : atI (x :: y :: z :: w :: xs) 3 = some w := atI_nat (j := 3) rfl
theorem atI_4 {α : Type} {x y z w v : α} {xs : List α} : atI (x :: y :: z :: w :: v :: xs) 4 = some v := atI_nat (j := 4) rfl
theorem ixN4 (k : Nat) (h : k < 4) : ixN 4 (k : Int) = some k := by
  match k, h with
  | 0, _ => decide
  | 1, _ => decide
  | 2, _ => decide
  | 3, _ => decide
theorem ixN5 (k : Nat) (h : k < 5) : ixN 5 (k : Int) = some k := by
  match k, h with
  | 0, _ => decide
  | 1, _ => decide
  | 2, _ => decide
  | 3, _ => decide
  | 4, _ => decide
theorem ix5s : ixN 5 (0 : Int) = some 0 ∧ ixN 5 (1 : Int) = some 1 ∧ ixN 5 (2 : Int) = some 2 ∧ ixN 5 (3 : Int) = some 3 ∧ ixN 5 (4 : Int) = some 4 := ⟨by decide, by decide, by decide, by decide, by decide⟩
theorem ix4s : ixN 4 (0 : Int) = some 0 ∧ ixN 4 (1 : Int) = some 1 ∧ ixN 4 (2 : Int) = some 2 ∧ ixN 4 (3 : Int) = some 3 := ⟨by decide, by decide, by decide, by decide⟩
theorem ite_or {P R : Prop} [Decidable P] [Decidable R] {A B : Prop} (h1 : A) (h2 : ¬ P → ¬ R → B) : if P then A else if R then A else B := by
  split
  · exact h1
  · split
    · exact h1
    · rename_i a b; exact h2 a b
end DL

/-! DIter: walks over dicts (locked), zip, enumerate. -/
namespace DL
open PySem PySem.Spec PyProof.Rows L2 RT RZ
theorem rd_upd {H : Hp} {a d : Addr} {o u : HO} (n : a ≠ d) : Rd (upd H d o) a u ↔ Rd H a u := by unfold Rd; rw [upd_ne n]
theorem TK.unlock {H H' : Hp} {d : Addr} {od : Obj} {u u2 : HO} (e : H d = some u) (mu : Mut (some u)) (k : TK (upd H d (.frz od u)) H') : TK H (upd H' d u2) := by
  have ne : ∀ a o, H a = some o → ¬ Mut (some o) → a ≠ d := fun a o q nm z => by subst z; rw [e] at q; cases q; exact nm mu
  have nt : ∀ a xs, Rd H a (.tup xs) → a ≠ d := fun a xs r => by
    rcases r with r | ⟨o, r⟩
    · exact ne a _ r (fun z => z)
    · exact ne a _ r (fun z => z)
  exact {
    t := fun a xs r => (rd_upd (nt a xs r)).mpr (k.t a xs ((rd_upd (nt a xs r)).mpr r))
    l := fun a o xs q => by
      have n := ne a _ q (fun z => z)
      rw [upd_ne n]
      exact k.l a o xs (by rw [upd_ne n]; exact q)
    f := fun a o v q => by
      have n := ne a _ q (fun z => z)
      rw [upd_ne n]
      exact k.f a o v (by rw [upd_ne n]; exact q)
    u := fun a xs q => by
      have n := ne a _ q (fun z => z)
      rw [upd_ne n]
      exact k.u a xs (by rw [upd_ne n]; exact q) }
theorem TKw.open_ {H : Hp} {d : Addr} {od : Obj} {vs : List (Key × V)} {u : HO} (e : H d = some (.frz od (.dK vs))) : TKw H (upd H d u) where
  t := fun a xs r => by
    have n : a ≠ d := fun z => by
      subst z
      rcases r with r | ⟨o, r⟩
      · rw [e] at r; cases r
      · rw [e] at r; cases r
    exact (rd_upd n).mpr r
  l := fun a o xs q => by
    have n : a ≠ d := fun z => by subst z; rw [e] at q; cases q
    rw [upd_ne n]; exact q
theorem RepS.tw {K : PySem.W.Frag} {H H' : Hp} {τ : DSt} {σ : L2.St} (r : RepS K H τ σ) (k : TKw H H') : RepS K H' τ σ :=
  ⟨fun i d e => let ⟨v, a, b⟩ := r.at_ i d e; ⟨v, a, b.tw k⟩, r.len⟩
/-- while a loop walks the dict -/
def lockX (a : Addr) (kvs : List (Key × D)) (En : DEnds) : DEnds where
  nx := fun τ' h' => h' a = some (.fdK kvs) ∧ En.nx τ' (updD h' a (.dK kvs))
  rt := fun v h' => h' a = some (.fdK kvs) ∧ En.rt v (updD h' a (.dK kvs))
  bk := fun τ' h' => h' a = some (.fdK kvs) ∧ En.bk τ' (updD h' a (.dK kvs))
  ct := fun τ' h' => h' a = some (.fdK kvs) ∧ En.ct τ' (updD h' a (.dK kvs))
  ex := En.ex
def dLock (t : DTS) : DTS := fun En τ h => ∃ a kvs, h a = some (.dK kvs) ∧ t (lockX a kvs En) τ (updD h a (.fdK kvs))
def dLockE (t : DTE) : DTE := fun τ h Q => ∃ a kvs, h a = some (.dK kvs) ∧ t τ (updD h a (.fdK kvs)) fun v h' => h' a = some (.fdK kvs) ∧ Q v (updD h' a (.dK kvs))
theorem lockX_le {a : Addr} {kvs : List (Key × D)} {D D' : DEnds} (le : D.Le D') : (lockX a kvs D).Le (lockX a kvs D') :=
  ⟨fun _ _ (q : _ ∧ _) => ⟨q.1, le.nx _ _ q.2⟩, fun _ _ (q : _ ∧ _) => ⟨q.1, le.rt _ _ q.2⟩, fun _ _ (q : _ ∧ _) => ⟨q.1, le.bk _ _ q.2⟩, fun _ _ (q : _ ∧ _) => ⟨q.1, le.ct _ _ q.2⟩, le.ex⟩
theorem lock_back {K : PySem.W.Frag} {H H' : Hp} {h' : DH} {a : Addr} {od : Obj} {kvs : List (Key × D)} {vs : List (Key × V)} (ev : H a = some (.dK vs)) (rv : RepKV K H kvs vs) (e' : h' a = some (.fdK kvs)) (rh' : RepH K H' h') (k' : TK (upd H a (.frz od (.dK vs))) H') :
    H' a = some (.frz od (.dK vs)) ∧ RepH K (upd H' a (.dK vs)) (updD h' a (.dK kvs)) ∧ TK H (upd H' a (.dK vs)) ∧ TKw H' (upd H' a (.dK vs)) := by
  have x1 : H' a = some (.frz od (.dK vs)) := k'.f a od _ upd_same
  have x3 : TK H (upd H' a (.dK vs)) := TK.unlock ev trivial k'
  have x4 : TKw H' (upd H' a (.dK vs)) := TKw.open_ x1
  refine ⟨x1, fun b o q => ?_, x3, x4⟩
  by_cases z : b = a
  · subst z
    rw [updD_same] at q; cases q
    exact ⟨vs, upd_same, rv.tk x3⟩
  · rw [updD_ne z] at q
    exact (rh' b o q).stayw x4 (upd_ne z)
section
variable {X : Cx} {W : WX}
theorem ds_lock {st : Stmt} {t : DTS} (hs : DS X W st t) : DS X W st (dLock t) := by
  refine ⟨(ps_lock hs.run).wk fun E σ H q => ?_, fun D D' τ h le ⟨a, kvs, e, q⟩ => ⟨a, kvs, e, hs.mono _ _ _ _ (lockX_le le) q⟩⟩
  obtain ⟨τ, h, rs, rh, a, kvs, e, q⟩ := q
  obtain ⟨vs, ev, rv⟩ := rh.dK e
  have mu : Mut (H a) := dmut ev
  refine ⟨a, .dK vs, ev, trivial, fun od => ?_⟩
  have k0 : TK H (upd H a (.frz od (.dK vs))) := TK.mut mu
  refine ⟨τ, updD h a (.fdK kvs), rs.tk k0, rh.mut (u := .fdK kvs) mu ⟨od, vs, upd_same, RepKV.tk k0 rv⟩, hs.mono _ _ _ _ ?_ q⟩
  refine ⟨fun τ' h' ⟨e', c⟩ σ' H' rs' rh' k' => ?_, fun d h' ⟨e', c⟩ v H' r' rh' k' => ?_, fun τ' h' ⟨e', c⟩ σ' H' rs' rh' k' => ?_, fun τ' h' ⟨e', c⟩ σ' H' rs' rh' k' => ?_, fun τ' C d h' c σ' H' rs' rh' k' => c σ' H' rs' rh' (k0.trans k')⟩
  · obtain ⟨x1, x2, x3, x4⟩ := lock_back ev rv e' rh' k'
    exact ⟨x1, c σ' _ (rs'.tw x4) x2 x3⟩
  · obtain ⟨x1, x2, x3, x4⟩ := lock_back ev rv e' rh' k'
    exact ⟨x1, c v _ (r'.tw x4) x2 x3⟩
  · obtain ⟨x1, x2, x3, x4⟩ := lock_back ev rv e' rh' k'
    exact ⟨x1, c σ' _ (rs'.tw x4) x2 x3⟩
  · obtain ⟨x1, x2, x3, x4⟩ := lock_back ev rv e' rh' k'
    exact ⟨x1, c σ' _ (rs'.tw x4) x2 x3⟩
theorem de_lock {e : Expr} {t : DTE} (he : DE X e t) : DE X e (dLockE t) := by
  refine ⟨(pe_lock he.run).wk fun σ H Q q => ?_, fun τ h Q Q' k ⟨a, kvs, e, q⟩ => ⟨a, kvs, e, he.mono _ _ _ _ (fun v h' q => ⟨q.1, k _ _ q.2⟩) q⟩⟩
  obtain ⟨τ, h, rs, rh, a, kvs, e, q⟩ := q
  obtain ⟨vs, ev, rv⟩ := rh.dK e
  have mu : Mut (H a) := dmut ev
  refine ⟨a, .dK vs, ev, trivial, fun od => ?_⟩
  have k0 : TK H (upd H a (.frz od (.dK vs))) := TK.mut mu
  refine ⟨τ, updD h a (.fdK kvs), rs.tk k0, rh.mut (u := .fdK kvs) mu ⟨od, vs, upd_same, RepKV.tk k0 rv⟩, he.mono _ _ _ _ (fun v h' ⟨e', c⟩ x H' r' rh' k' => ?_) q⟩
  obtain ⟨x1, x2, x3, x4⟩ := lock_back ev rv e' rh' k'
  exact ⟨x1, c x _ (r'.tw x4) x2 x3⟩
end
/-! ### what is walked -/
def kD : Key → D
  | .inl i => .int i
  | .inr x => .str x
theorem rep_kD {K : PySem.W.Frag} {H : Hp} (k : Key) : Rep K H (kD k) (kV k) := by cases k <;> rfl
def itemsK (kvs : List (Key × D)) : List D := kvs.map fun kv => .tup [kD kv.1, kv.2]
theorem kvs_at {K : PySem.W.Frag} {H : Hp} {kvs : List (Key × D)} {vs : List (Key × V)} (r : RepKV K H kvs vs) {i : Nat} {k : Key} {d : D} {k2 : Key} {v : V} (e : kvs[i]? = some (k, d)) (e2 : vs[i]? = some (k2, v)) : k = k2 ∧ Rep K H d v := by
  obtain ⟨b, eb, h1, h2⟩ := paired_get r e
  rw [e2] at eb; cases eb
  exact ⟨h1, h2⟩
section
variable {K : PySem.W.Frag} {H0 : Hp} {a : Addr} {od : Obj} {kvs : List (Key × D)} {vs : List (Key × V)}
theorem itd_items (e : H0 a = some (.frz od (.dK vs))) (r : RepKV K H0 kvs vs) : ItD K H0 (Iti a od vs) (itemsK kvs) fun _ => True where
  go := fun i H h l k rh _ => ⟨k.f _ _ _ e, by rw [itemsK, List.length_map, Paired.length r] at l; exact l⟩
  yld := fun i H h x H' d ed k rh _ y => by
    obtain ⟨T, k2, v, e2, rfl, nT, rfl⟩ := y
    rw [itemsK, List.getElem?_map] at ed
    cases q : kvs[i]? with
    | none => rw [q] at ed; cases ed
    | some kv =>
      obtain ⟨k1, d1⟩ := kv
      rw [q] at ed; cases ed
      obtain ⟨rfl, r1⟩ := kvs_at r q e2
      exact ⟨⟨T, _, rfl, .of upd_same, .cons (rep_kD _) (.cons ((r1.tk k).tk (.new nT)) .nil)⟩, rh.skip nT, .new nT⟩
  stop := fun H h k rh _ => ⟨k.f _ _ _ e, by rw [itemsK, List.length_map, Paired.length r]; exact Nat.le_refl _⟩
theorem itd_keys (e : H0 a = some (.frz od (.dK vs))) (r : RepKV K H0 kvs vs) : ItD K H0 (Itk a od vs) (kvs.map fun kv => kD kv.1) fun _ => True where
  go := fun i H h l k rh _ => ⟨k.f _ _ _ e, by rw [List.length_map, Paired.length r] at l; exact l⟩
  yld := fun i H h x H' d ed k rh _ y => by
    obtain ⟨rfl, k2, v, e2, rfl⟩ := y
    rw [List.getElem?_map] at ed
    cases q : kvs[i]? with
    | none => rw [q] at ed; cases ed
    | some kv =>
      obtain ⟨k1, d1⟩ := kv
      rw [q] at ed; cases ed
      obtain ⟨rfl, r1⟩ := kvs_at r q e2
      exact ⟨rep_kD _, rh, .refl _⟩
  stop := fun H h k rh _ => ⟨k.f _ _ _ e, by rw [List.length_map, Paired.length r]; exact Nat.le_refl _⟩
theorem itd_vals (e : H0 a = some (.frz od (.dK vs))) (r : RepKV K H0 kvs vs) : ItD K H0 (Itd a od vs) (kvs.map (·.2)) fun _ => True where
  go := fun i H h l k rh _ => ⟨k.f _ _ _ e, by rw [List.length_map, Paired.length r] at l; exact l⟩
  yld := fun i H h x H' d ed k rh _ y => by
    obtain ⟨rfl, k2, e2⟩ := y
    rw [List.getElem?_map] at ed
    cases q : kvs[i]? with
    | none => rw [q] at ed; cases ed
    | some kv =>
      obtain ⟨k1, d1⟩ := kv
      rw [q] at ed; cases ed
      obtain ⟨rfl, r1⟩ := kvs_at r q e2
      exact ⟨r1.tk k, rh, .refl _⟩
  stop := fun H h k rh _ => ⟨k.f _ _ _ e, by rw [List.length_map, Paired.length r]; exact Nat.le_refl _⟩
end
def zipD (xs ys : List D) : List D := List.zipWith (fun x y => .tup [x, y]) xs ys
theorem zipD_get {xs ys : List D} {i : Nat} {d : D} (e : (zipD xs ys)[i]? = some d) : ∃ x y, xs[i]? = some x ∧ ys[i]? = some y ∧ d = .tup [x, y] := by
  unfold zipD at e
  rw [List.getElem?_zipWith] at e
  cases q : xs[i]? with
  | none => rw [q] at e; cases e
  | some x =>
    cases p : ys[i]? with
    | none => rw [q, p] at e; cases e
    | some y => rw [q, p] at e; cases e; exact ⟨x, y, rfl, rfl, rfl⟩
theorem zipD_length {xs ys : List D} : (zipD xs ys).length = min xs.length ys.length := by unfold zipD; rw [List.length_zipWith]
section
variable {K : PySem.W.Frag}
theorem itd_zipT {H0 : Hp} {a b : Addr} {xs ys : List V} {ds es : List D} (s1 : SqT K H0 a xs) (r1 : Reps K H0 ds xs) (s2 : SqT K H0 b ys) (r2 : Reps K H0 es ys) : ItD K H0 (ItzT K a b) (zipD ds es) fun _ => True where
  go := fun i H h l k rh _ => by
    rw [zipD_length] at l
    obtain ⟨x, ex, _⟩ := r1.get (List.getElem?_eq_getElem (show i < ds.length by omega))
    obtain ⟨y, ey, _⟩ := r2.get (List.getElem?_eq_getElem (show i < es.length by omega))
    exact ⟨xs, ys, x, y, k.sqT s1, k.sqT s2, ex, ey⟩
  yld := fun i H h v H' d ed k rh _ y => by
    obtain ⟨T, x, y, rfl, nT, rfl, f1, f2⟩ := y
    obtain ⟨dx, dy, e1, e2, rfl⟩ := zipD_get ed
    obtain ⟨x', ex, rx⟩ := r1.get e1
    obtain ⟨y', ey, ry⟩ := r2.get e2
    rw [f1 xs (k.sqT s1)] at ex; cases ex
    rw [f2 ys (k.sqT s2)] at ey; cases ey
    exact ⟨⟨T, _, rfl, .of upd_same, .cons ((rx.tk k).tk (.new nT)) (.cons ((ry.tk k).tk (.new nT)) .nil)⟩, rh.skip nT, .new nT⟩
  stop := fun H h k rh _ => ⟨xs, ys, k.sqT s1, k.sqT s2, by rw [zipD_length, r1.length, r2.length]; omega⟩
theorem itd_zipL {H0 : Hp} {a b : Addr} {ds es : List D} : ItD K H0 (Itz K a b) (zipD ds es) fun h => h a = some (.lst ds) ∧ h b = some (.lst es) where
  go := fun i H h l k rh ⟨e1, e2⟩ => by
    obtain ⟨xs, ea, r1⟩ := rh.lst e1
    obtain ⟨ys, eb, r2⟩ := rh.lst e2
    rw [zipD_length] at l
    obtain ⟨x, ex, _⟩ := r1.get (List.getElem?_eq_getElem (show i < ds.length by omega))
    obtain ⟨y, ey, _⟩ := r2.get (List.getElem?_eq_getElem (show i < es.length by omega))
    exact ⟨xs, ys, x, y, .of ea, .of eb, ex, ey⟩
  yld := fun i H h v H' d ed k rh ⟨q1, q2⟩ y => by
    obtain ⟨xs, ea, r1⟩ := rh.lst q1
    obtain ⟨ys, eb, r2⟩ := rh.lst q2
    obtain ⟨T, x, y, rfl, nT, rfl, f1, f2⟩ := y
    obtain ⟨dx, dy, e1, e2, rfl⟩ := zipD_get ed
    obtain ⟨x', ex, rx⟩ := r1.get e1
    obtain ⟨y', ey, ry⟩ := r2.get e2
    rw [f1 xs (.of ea)] at ex; cases ex
    rw [f2 ys (.of eb)] at ey; cases ey
    exact ⟨⟨T, _, rfl, .of upd_same, .cons (rx.tk (.new nT)) (.cons (ry.tk (.new nT)) .nil)⟩, rh.skip nT, .new nT⟩
  stop := fun H h k rh ⟨e1, e2⟩ => by
    obtain ⟨xs, ea, r1⟩ := rh.lst e1
    obtain ⟨ys, eb, r2⟩ := rh.lst e2
    exact ⟨xs, ys, .of ea, .of eb, by rw [zipD_length, r1.length, r2.length]; omega⟩
end
/-- 0, x; 1, y; .. -/
def enumD (k : Nat) : List D → List D
  | [] => []
  | d :: ds => .tup [.int (k : Nat), d] :: enumD (k + 1) ds
theorem enumD_length : ∀ {ds : List D} {k : Nat}, (enumD k ds).length = ds.length
  | [], _ => rfl
  | d :: ds, k => by simp [enumD, enumD_length]
theorem enumD_get : ∀ {ds : List D} {k i : Nat} {d : D}, (enumD k ds)[i]? = some d → ∃ x, ds[i]? = some x ∧ d = .tup [.int ((k + i : Nat) : Int), x]
  | [], k, i, d, e => by simp [enumD] at e
  | x :: ds, k, 0, d, e => by simp [enumD] at e; exact ⟨x, rfl, e.symm⟩
  | x :: ds, k, i + 1, d, e => by
    obtain ⟨y, e1, e2⟩ := enumD_get (k := k + 1) (i := i) (by simpa [enumD] using e)
    exact ⟨y, by simpa using e1, by rw [e2, show k + 1 + i = k + (i + 1) by omega]⟩
theorem itd_enum {K : PySem.W.Frag} {H0 : Hp} {a : Addr} {ds : List D} : ItD K H0 (Ite K a) (enumD 0 ds) fun h => h a = some (.lst ds) where
  go := fun i H h l k rh e => by
    obtain ⟨xs, ea, r⟩ := rh.lst e
    rw [enumD_length] at l
    obtain ⟨x, ex, _⟩ := r.get (List.getElem?_eq_getElem l)
    exact ⟨xs, x, .of ea, ex⟩
  yld := fun i H h v H' d ed k rh e y => by
    obtain ⟨xs, ea, r⟩ := rh.lst e
    obtain ⟨T, x, rfl, nT, rfl, f1⟩ := y
    obtain ⟨dx, e1, rfl⟩ := enumD_get ed
    obtain ⟨x', ex, rx⟩ := r.get e1
    rw [f1 xs (.of ea)] at ex; cases ex
    rw [Nat.zero_add]
    exact ⟨⟨T, _, rfl, .of upd_same, .cons rfl (.cons (rx.tk (.new nT)) .nil)⟩, rh.skip nT, .new nT⟩
  stop := fun H h k rh e => by
    obtain ⟨xs, ea, r⟩ := rh.lst e
    exact ⟨xs, .of ea, by rw [enumD_length, r.length]; exact Nat.le_refl _⟩
theorem itd_enumV {K : PySem.W.Frag} {H0 : Hp} {a : Addr} {xs : List V} {ds : List D} (s : LsK K H0 a xs) (r : Reps K H0 ds xs) : ItD K H0 (Ite K a) (enumD 0 ds) fun _ => True where
  go := fun i H h l k rh _ => by
    rw [enumD_length] at l
    obtain ⟨x, ex, _⟩ := r.get (List.getElem?_eq_getElem l)
    exact ⟨xs, x, (k.lsK s).sq, ex⟩
  yld := fun i H h v H' d ed k rh _ y => by
    obtain ⟨T, x, rfl, nT, rfl, f1⟩ := y
    obtain ⟨dx, e1, rfl⟩ := enumD_get ed
    obtain ⟨x', ex, rx⟩ := r.get e1
    rw [f1 xs (k.lsK s).sq] at ex; cases ex
    rw [Nat.zero_add]
    exact ⟨⟨T, _, rfl, .of upd_same, .cons rfl (.cons ((rx.tk k).tk (.new nT)) .nil)⟩, rh.skip nT, .new nT⟩
  stop := fun H h k rh _ => ⟨xs, (k.lsK s).sq, by rw [enumD_length, r.length]; exact Nat.le_refl _⟩
def diItems (td : DTE) : DTI := fun τ h R => td τ h fun x h1 => ∃ a kvs, x = .ref a ∧ h1 a = some (.fdK kvs) ∧ R (itemsK kvs) (fun _ => True) h1
def diKeys (td : DTE) : DTI := fun τ h R => td τ h fun x h1 => ∃ a kvs, x = .ref a ∧ h1 a = some (.fdK kvs) ∧ R (kvs.map fun kv => kD kv.1) (fun _ => True) h1
def diVals (td : DTE) : DTI := fun τ h R => td τ h fun x h1 => ∃ a kvs, x = .ref a ∧ h1 a = some (.fdK kvs) ∧ R (kvs.map (·.2)) (fun _ => True) h1
def diZip (t : DTA) : DTI := fun τ h R => t τ h fun xs h1 => (∃ ds es, xs = [.tup ds, .tup es] ∧ R (zipD ds es) (fun _ => True) h1) ∨ ∃ a b ds es, xs = [.ref a, .ref b] ∧ h1 a = some (.lst ds) ∧ h1 b = some (.lst es) ∧ R (zipD ds es) (fun h => h a = some (.lst ds) ∧ h b = some (.lst es)) h1
def diEnum (t : DTA) : DTI := fun τ h R => t τ h fun xs h1 => (∃ ds, xs = [.lsv ds] ∧ R (enumD 0 ds) (fun _ => True) h1) ∨ ∃ a ds, xs = [.ref a] ∧ h1 a = some (.lst ds) ∧ R (enumD 0 ds) (fun h => h a = some (.lst ds)) h1
section
variable {X : Cx} {tg e e2 : Expr} {te : DTE} {t : DTA} {p pos apos cpos tpos : Pos} {elts : List Expr} {kk : Nat}
theorem RepH.fdK {K : PySem.W.Frag} {H : Hp} {h : DH} {a : Addr} {kvs : List (Key × D)} (r : RepH K H h) (e : h a = some (.fdK kvs)) : ∃ od vs, H a = some (.frz od (.dK vs)) ∧ RepKV K H kvs vs := r a _ e
theorem di_items (he : DE X e te) (hbase : attributeBase e "items" X.env (eval e X.env) = eval e X.env := by rfl) (hline : (apos.endLine == cpos.line) = true := by rfl) : DI X (.Tuple elts kk tpos) (.Call (.Attribute e "items" apos) [] [] cpos) (diItems te) := by
  refine ⟨(pi_items he.run hbase hline).wk fun σ H R q => ?_, fun τ h R R' k q => he.mono _ _ _ _ (fun x h1 ⟨a, kvs, e, f, q⟩ => ⟨a, kvs, e, f, k _ _ _ q⟩) q⟩
  obtain ⟨τ, h, rs, rh, q⟩ := q
  refine LE.of he.mono rs rh q fun d h1 v H1 ⟨a, kvs, e, f, q⟩ r1 rh1 k1 => ?_
  subst e
  cases rep_ref r1
  obtain ⟨od, vs, ev, rv⟩ := rh1.fdK f
  exact ⟨a, od, vs, rfl, ev, q _ H1 (itd_items ev rv) rh1 k1⟩
theorem di_keys (he : DE X e te) : DI X tg e (diKeys te) := by
  refine ⟨(pi_keys he.run).wk fun σ H R q => ?_, fun τ h R R' k q => he.mono _ _ _ _ (fun x h1 ⟨a, kvs, e, f, q⟩ => ⟨a, kvs, e, f, k _ _ _ q⟩) q⟩
  obtain ⟨τ, h, rs, rh, q⟩ := q
  refine LE.of he.mono rs rh q fun d h1 v H1 ⟨a, kvs, e, f, q⟩ r1 rh1 k1 => ?_
  subst e
  cases rep_ref r1
  obtain ⟨od, vs, ev, rv⟩ := rh1.fdK f
  exact ⟨a, od, rfl, .inl ⟨vs, ev, q _ H1 (itd_keys ev rv) rh1 k1⟩⟩
theorem di_vals (he : DE X e te) (hbase : attributeBase e "values" X.env (eval e X.env) = eval e X.env := by rfl) (hline : (apos.endLine == cpos.line) = true := by rfl) : DI X tg (.Call (.Attribute e "values" apos) [] [] cpos) (diVals te) := by
  refine ⟨(pi_values he.run hbase hline).wk fun σ H R q => ?_, fun τ h R R' k q => he.mono _ _ _ _ (fun x h1 ⟨a, kvs, e, f, q⟩ => ⟨a, kvs, e, f, k _ _ _ q⟩) q⟩
  obtain ⟨τ, h, rs, rh, q⟩ := q
  refine LE.of he.mono rs rh q fun d h1 v H1 ⟨a, kvs, e, f, q⟩ r1 rh1 k1 => ?_
  subst e
  cases rep_ref r1
  obtain ⟨od, vs, ev, rv⟩ := rh1.fdK f
  exact ⟨a, od, vs, rfl, ev, q _ H1 (itd_vals ev rv) rh1 k1⟩
theorem di_zip (hg : Gl X "zip") (hm : X.mg "zip" = none) (ha : DA X [e, e2] t) (hs : starEach [e, e2] X.env = (false, eval e X.env) :: starEach [e2] X.env := by rfl) (hpl : (backTo pos (starEach [e2] X.env)).any (·.1) = false := by rfl) :
    DI X (.Tuple elts kk tpos) (.Call (.Name "zip" p) [e, e2] [] pos) (diZip t) := by
  refine ⟨(pi_zipA hg hm ha.run hs hpl).wk fun σ H R q => ?_, fun τ h R R' k q => ha.mono _ _ _ _ (fun x h1 q => ?_) q⟩
  · obtain ⟨τ, h, rs, rh, q⟩ := q
    refine LA.of ha.mono rs rh q fun ds h1 vs H1 q r1 rh1 k1 => ?_
    rcases q with ⟨ds, es, e, q⟩ | ⟨a, b, ds, es, e, f1, f2, q⟩
    · subst e
      obtain ⟨x, y, rfl, ⟨a, xs, rfl, s1, p1⟩, b, ys, rfl, s2, p2⟩ := reps2 r1
      exact ⟨a, b, xs, ys, rfl, .inr ⟨s1, s2, q _ H1 (itd_zipT s1 p1 s2 p2) rh1 k1⟩⟩
    · subst e
      obtain ⟨x, y, rfl, r1, r2⟩ := reps2 r1
      cases rep_ref r1
      cases rep_ref r2
      obtain ⟨xs, ea, p1⟩ := rh1.lst f1
      obtain ⟨ys, eb, p2⟩ := rh1.lst f2
      exact ⟨a, b, xs, ys, rfl, .inl ⟨.of ea, .of eb, q _ H1 itd_zipL rh1 k1⟩⟩
  · rcases q with ⟨ds, es, e, q⟩ | ⟨a, b, ds, es, e, f1, f2, q⟩
    · exact .inl ⟨ds, es, e, k _ _ _ q⟩
    · exact .inr ⟨a, b, ds, es, e, f1, f2, k _ _ _ q⟩
theorem di_enum (hg : Gl X "enumerate") (hm : X.mg "enumerate" = none) (ha : DA X [e] t) (hs : starEach [e] X.env = [(false, eval e X.env)] := by rfl) : DI X (.Tuple elts kk tpos) (.Call (.Name "enumerate" p) [e] [] pos) (diEnum t) := by
  refine ⟨(pi_enum hg hm ha.run hs).wk fun σ H R q => ?_, fun τ h R R' k q => ha.mono _ _ _ _ (fun x h1 q => ?_) q⟩
  · obtain ⟨τ, h, rs, rh, q⟩ := q
    refine LA.of ha.mono rs rh q fun ds h1 vs H1 q r1 rh1 k1 => ?_
    rcases q with ⟨ds, e, q⟩ | ⟨a, ds, e, f1, q⟩
    · subst e
      obtain ⟨x, rfl, a, xs, rfl, s, r⟩ := reps1 r1
      exact ⟨a, xs, rfl, s.sq, q _ H1 (itd_enumV s r) rh1 k1⟩
    · subst e
      obtain ⟨x, rfl, r⟩ := reps1 r1
      cases rep_ref r
      obtain ⟨xs, ea, p1⟩ := rh1.lst f1
      exact ⟨a, xs, rfl, .of ea, q _ H1 itd_enum rh1 k1⟩
  · rcases q with ⟨ds, e, q⟩ | ⟨a, ds, e, f1, q⟩
    · exact .inl ⟨ds, e, k _ _ _ q⟩
    · exact .inr ⟨a, ds, e, f1, k _ _ _ q⟩
end
end DL

/-! DKwF: defs with keyword-only parameters, called with and without keywords. -/
namespace DL
open PySem PySem.Spec PyProof.Rows L2
/-- the arguments in the parameters' order: behind the written ones each keyword-only parameter's, from the keywords (true) or from the defaults that lack -/
def gK {α : Type} : List (Bool × Nat) → List α → List α → List α → List α
  | [], us, _, _ => us
  | (b, j) :: c, us, mv, ws => gK c (us ++ ((bif b then ws else mv)[j]?).toList) mv ws
theorem vals_opt {vs : List V} {us : List Value} (r : Vals vs us) (j : Nat) : Vals (vs[j]?).toList (us[j]?).toList := by
  cases e : vs[j]? with
  | none => rw [r.none_of e]; exact .nil
  | some v =>
    obtain ⟨u, eu, q⟩ := r.get e
    rw [eu]; exact .cons q .nil
theorem reps_opt {K : PySem.W.Frag} {H : Hp} {ds : List D} {vs : List V} (r : Reps K H ds vs) (j : Nat) : Reps K H (ds[j]?).toList (vs[j]?).toList := by
  cases e : ds[j]? with
  | none =>
    have : vs[j]? = none := by
      rw [List.getElem?_eq_none_iff] at e ⊢
      rw [r.length]; exact e
    rw [this]; exact .nil
  | some d =>
    obtain ⟨v, ev, q⟩ := r.get e
    rw [ev]; exact .cons q .nil
theorem gK_vals : ∀ (c : List (Bool × Nat)) {vs mz zs : List V} {us mv ws : List Value}, Vals vs us → Vals mz mv → Vals zs ws → Vals (gK c vs mz zs) (gK c us mv ws)
  | [], _, _, _, _, _, _, r, _, _ => r
  | (b, j) :: c, vs, mz, zs, us, mv, ws, r, r2, r3 => by
    refine gK_vals c (r.append (vals_opt ?_ j)) r2 r3
    cases b
    · exact r2
    · exact r3
theorem gK_reps {K : PySem.W.Frag} {H : Hp} : ∀ (c : List (Bool × Nat)) {ds md es : List D} {vs mz zs : List V}, Reps K H ds vs → Reps K H md mz → Reps K H es zs → Reps K H (gK c ds md es) (gK c vs mz zs)
  | [], _, _, _, _, _, _, r, _, _ => r
  | (b, j) :: c, ds, md, es, vs, mz, zs, r, r2, r3 => by
    refine gK_reps c (r.append (reps_opt ?_ j)) r2 r3
    cases b
    · exact r2
    · exact r3
section
variable {K : PySem.W.Frag} {x qual : Str} {params : Arguments} {body : List Stmt} {scope : Scope} {kws : List (Str × V)} {f : Addr} {fd : FuncData} {ps : List Str}
theorem FunD.kb (F : FunD K x qual params body scope [] kws f fd) (n : Nat) (ks : List Str) (ms : List (Str × V)) (c : List (Bool × Nat)) (hk : kws ≠ []) (hms : ∀ q ∈ ms, q ∈ kws)
    (h : ∀ (D : Addr) (doc pm : Value) (an : Option Addr) (cdv ct : Value) (us mv ws : List Value), us.length = n → mv.length = ms.length → ws.length = ks.length →
      KwChain D ((ms.map (·.1)).zip mv) (bindArgs (PySem.W.fnOf x qual params body scope .none (.ref D) doc pm an cdv ct) ⟨us, ks.zip ws⟩) (ps.zip (gK c us mv ws))) :
    ∃ mv : List Value, KBn K fd ps n ks (fun us ws => gK c us mv ws) (fun vs zs => gK c vs (ms.map (·.2)) zs) := by
  obtain ⟨oc, od, dV, kV, doc, pm, an, cdv, ct, osl, rfl, lk, hcd, hD, hK⟩ := F.ex
  rcases hD with ⟨_, rfl⟩ | ⟨e, _⟩
  · rcases hK with e | ⟨D, rfl, hq⟩
    · exact absurd e hk
    · obtain ⟨mv, hl, rk, hks⟩ := kwd_vals (ms := ms) fun q hm => hq q (hms q hm)
      refine ⟨mv, ⟨fun s us ws X l1 l2 => ?_, fun r1 r2 => gK_vals c r1 rk r2⟩⟩
      exact BindsTo.of_looks fun M => KwChain.looks X hks (h D doc pm an cdv ct us mv ws l1 hl l2)
  · exact absurd rfl e
end
/-- a def of the top that keeps its promise, however it is called -/
structure HasF (P : Program) (w : World) (K : PySem.W.Frag) (mg : Str → Option Value) (base : Heap) (x : Str) (k : Nat) (ps : List Str) (sp : SpD) : Prop where
  g : mg x = some (.ref (He.ga K x))
  ms : MonoSp sp
  ok : ∃ fd, (∃ o, K.lookup (He.ga K x) = some o ∧ o.data = .func fd) ∧ PySem.W.keepIn K (.ref (He.ga K x)) = true ∧ FnOk P w K mg base CX0 k (He.ga K x) fd ps (LSp K sp)
section
variable {P : Program} {w : World} {K : PySem.W.Frag} {mg : Str → Option Value} {base : Heap} {x : Str} {params : Arguments} {body : List Stmt} {scope : Scope} {N ps : List Str} {j k : Nat} {sp : SpD} {t : DTS} {dvs : List V} {kws : List (Str × V)}
theorem HasF.mono (h : HasF P w K mg base x j ps sp) (l : j ≤ k) : HasF P w K mg base x k ps sp :=
  ⟨h.g, h.ms, let ⟨fd, z, a, c⟩ := h.ok; ⟨fd, z, a, c.mono l⟩⟩
theorem HasF.of (g : mg x = some (.ref (He.ga K x))) (F : ∃ fd, FunD K x x params body scope dvs kws (He.ga K x) fd) (S : FnScope N ps scope) (ms : MonoSp sp) (len : ∀ ds h Q E, sp ds h Q E → ds.length = ps.length)
    (d : ∀ (cdv : Value) (A : Around) (outer : List Env) (s : Shared) (H : Hp) (E : XK), Room k (A.deeper (envOfC x scope s.heap.objs.size (He.ga K x) cdv)) → DSs (cxOf CX0 P w K mg base N x scope (He.ga K x) cdv A outer s H E).nox WN body t)
    (r : ∀ ds h Q Ed, Up Q → sp ds h Q Ed → t { nx := fun _ h' => Q .non h', rt := Q } (dstart N ds) h) : HasF P w K mg base x (k + 1) ps sp :=
  let ⟨fd, F⟩ := F
  ⟨g, ms, fd, FunD.there F, F.kp, FunD.okD F S len fun cdv A outer s H E hr => ⟨t, d cdv A outer s H E hr, r⟩⟩
theorem HasF.void (g : mg x = some (.ref (He.ga K x))) (F : ∃ fd, FunD K x x params body scope dvs kws (He.ga K x) fd) (no : ∀ ds h Q E, ¬ sp ds h Q E) : HasF P w K mg base x k ps sp :=
  let ⟨fd, F⟩ := F
  ⟨g, fun ds h Q _ E _ q => (no ds h Q E q).elim, fd, FunD.there F, F.kp, fun _ _ _ _ ⟨_, _, _, _, q⟩ => (no _ _ _ _ q).elim, fun _ _ _ _ _ _ _ _ _ _ _ _ _ ⟨_, _, _, _, q⟩ => (no _ _ _ _ q).elim⟩
end
def dCallN (sp : SpD) (c : List (Bool × Nat)) (n m : Nat) (md : List D) (t tk : DTA) : DTE := fun τ h Q => t τ h fun ds h1 => tk τ h1 fun es h2 => ds.length = n ∧ es.length = m ∧ ∀ E, sp (gK c ds md es) h2 Q E
theorem de_callN {X : Cx} {x : Str} {params : Arguments} {body : List Stmt} {scope : Scope} {kws : List (Str × V)} {k : Nat} {ps : List Str} {sp : SpD} {p pos : Pos} {e : Expr} {es : List Expr} {kwl : List Keyword} {t tk : DTA}
    (h : HasF X.prog X.w X.K X.mg X.base x k ps sp) (F : ∃ fd, FunD X.K x x params body scope [] kws (He.ga X.K x) fd) (hr : Room k X.A) (hg : Gl X x) (n : Nat) (ks : List Str) (ms : List (Str × V)) (md : List D) (c : List (Bool × Nat)) (hmd : ∀ H, Reps X.K H md (ms.map (·.2))) (hk : kws ≠ []) (hms : ∀ q ∈ ms, q ∈ kws)
    (hch : ∀ (D : Addr) (doc pm : Value) (an : Option Addr) (cdv ct : Value) (us mv ws : List Value), us.length = n → mv.length = ms.length → ws.length = ks.length →
      KwChain D ((ms.map (·.1)).zip mv) (bindArgs (PySem.W.fnOf x x params body scope .none (.ref D) doc pm an cdv ct) ⟨us, ks.zip ws⟩) (ps.zip (gK c us mv ws)))
    (ha : DA X (e :: es) t) (hkw : DKw X kwl tk) (hall : (backToKw pos (keywordEach kwl X.env)).all (·.1.isSome) = true := by rfl) (hks : (backToKw pos (keywordEach kwl X.env)).filterMap (·.1) = ks := by rfl)
    (hdb : (x == ("__debug__" : Str)) = false := by decide) (he : starEach (e :: es) X.env = (false, eval e X.env) :: starEach es X.env := by rfl)
    (hpl : ((backTo pos (starEach (e :: es) X.env)).any (·.1) || (backToKw pos (keywordEach kwl X.env)).any (·.1.isNone)) = false := by rfl) :
    DE X (.Call (.Name x p) (e :: es) kwl pos) (dCallN sp c n ks.length md t tk) := by
  obtain ⟨fd, ⟨o, lo, eo⟩, kp, Fn⟩ := h.ok
  obtain ⟨fd2, F⟩ := F
  obtain ⟨o2, lo2, eo2⟩ := FunD.there F
  rw [lo] at lo2; cases lo2
  rw [eo] at eo2; cases eo2
  obtain ⟨mv, hb⟩ := FunD.kb F n ks ms c hk hms hch
  refine ⟨(pe_callN (E := E0) Fn hr hg h.g kp hb pass0 ha.run hkw.run hall hks hdb he hpl).wk fun σ H Q q => ?_, fun τ h2 Q Q' k q => ha.mono _ _ _ _ (fun ds h1 q => hkw.mono _ _ _ _ (fun es h2 q => ⟨q.1, q.2.1, fun E => h.ms _ _ _ _ _ k (q.2.2 E)⟩) q) q⟩
  obtain ⟨τ, hh, rs, rh, q⟩ := q
  refine LA.of ha.mono rs rh q fun ds h1 vs H1 q1 r1 rh1 k1 => ?_
  refine LA.of hkw.mono (rs.tk k1) rh1 q1 fun es h2 zs H2 q2 r2 rh2 k2 => ?_
  obtain ⟨l1, l2, q2⟩ := q2
  refine ⟨by rw [r1.length]; exact l1, by rw [r2.length]; exact l2, _, h2, gK_reps c (r1.tk k2) (hmd H2) r2, rh2, h.ms _ _ _ _ _ (fun _ _ c => c.tk (k1.trans k2)) (q2 _)⟩
end DL

/-! DDEq: == of dicts, list of a dict, dicts written with entries. -/
namespace DL
open PySem PySem.Spec PyProof.Rows L2
def kvsEq (ls : List (Key × D)) : List (Key × D) → Bool
  | [] => true
  | (k, d) :: r => match getK ls k with
    | none => false
    | some e => deq d e && kvsEq ls r
def kEq (ks ls : List (Key × D)) : Bool := ks.length == ls.length && kvsEq ls ks
/-- a dict of data -/
def KOk (ks : List (Key × D)) : Prop := ∀ p ∈ ks, okD p.2 = true ∧ dep p.2 ≤ 60
theorem getK_mem {α : Type} {ks : List (Key × α)} {k : Key} {d : α} (e : getK ks k = some d) : (k, d) ∈ ks := by
  unfold getK at e
  cases q : ks.find? fun kv => decide (kv.1 = k) with
  | none => rw [q] at e; cases e
  | some kv =>
    rw [q] at e
    have m := List.mem_of_find?_eq_some q
    have p := List.find?_some q
    obtain ⟨k2, d2⟩ := kv
    simp only [Option.map_some, Option.some.injEq] at e
    subst e
    simp at p
    subst p
    exact m
theorem hits_D {X : Cx} {pins : List (Addr × Obj)} {σ : L2.St} {H : Hp} {s : Shared} (I : Inv X pins σ H s) {A : Around} (hu : A.units + 64 < cLine) {ls : List (Key × D)} {ws : List (Key × V)} {vb : List (Key × Value)} (r1 : RepKV X.K H ls ws) (rb : KV ws vb) (kl : KOk ls) :
    ∀ {ks : List (Key × D)} {vs : List (Key × V)} {va : List (Key × Value)}, RepKV X.K H ks vs → KV vs va → KOk ks → PySem.W.KeqHitsP X.prog X.w A s vb va (kvsEq ls ks) := by
  intro ks vs va r ra
  induction r generalizing va with
  | nil =>
    intro _
    cases ra
    exact .nil
  | @cons p q ps qs h t ih =>
    intro ko
    cases ra with
    | @cons _ z _ zs hz tz =>
      obtain ⟨k, d⟩ := p
      obtain ⟨k2, v⟩ := q
      obtain ⟨k3, x⟩ := z
      obtain ⟨h1, h2⟩ := h
      obtain ⟨h3, h4⟩ := hz
      simp only at h1 h2 h3 h4
      subst h1; subst h3
      have rr : RelO (valV ws k) (valueAt vb k) := rb.val k
      have kd := ko _ List.mem_cons_self
      have tail := ih tz fun p m => ko p (List.mem_cons_of_mem _ m)
      unfold kvsEq
      cases e : getK ls k with
      | none =>
        have e1 := (kv_get r1).2 e
        rw [e1] at rr
        exact .miss (by
          cases q : valueAt vb k with
          | none => rfl
          | some y => rw [q] at rr; exact False.elim rr)
      | some d2 =>
        obtain ⟨y, ey, ry⟩ := (kv_get r1).1 d2 e
        rw [ey] at rr
        obtain ⟨y2, hy, ry2⟩ := rr.some_of
        have ke := kl _ (getK_mem e)
        obtain ⟨as, p1⟩ := Dp.reads I _ v x (Rep.dp kd.1 h2) h4
        obtain ⟨bs, p2⟩ := Dp.reads I _ y y2 (Rep.dp ke.1 ry) ry2
        refine .hit hy ?_ tail
        have := (SeqAt.eqAt_reads _ _ A s _ _ _ _ p1 p2 (py_lay _ kd.1) (py_lay _ ke.1) (by rw [py_dep _ kd.1, py_dep _ ke.1]; omega)).eqP (prog := X.prog) (w := X.w)
        rw [py_eqv _ _ kd.1 ke.1] at this
        exact this
def eqKD (x y : D) (h : DH) (Q : DK) : Prop := ∃ a b ks ls, x = .ref a ∧ y = .ref b ∧ h a = some (.dK ks) ∧ h b = some (.dK ls) ∧ KOk ks ∧ KOk ls ∧ Q (.bl (kEq ks ls)) h
theorem dop_eqK {X : Cx} (hu : X.A.units + 65 < cLine) : DOp X (compareOp .Eq) eqKD := by
  refine ⟨fun pins s σ H x y u v dx dy h Q I e1 e2 r1 r2 rh q => ?_, fun x y h Q Q' k ⟨a, b, ks, ls, e1, e2, e3, e4, e5, e6, q⟩ => ⟨a, b, ks, ls, e1, e2, e3, e4, e5, e6, k _ _ q⟩⟩
  obtain ⟨a, b, ks, ls, rfl, rfl, f1, f2, o1, o2, q⟩ := q
  cases rep_ref r1
  cases rep_ref r2
  obtain rfl : u = Value.ref a := e1
  obtain rfl : v = Value.ref b := e2
  obtain ⟨vs, ea, rv⟩ := rh.dK f1
  obtain ⟨ws, eb, rw'⟩ := rh.dK f2
  obtain ⟨_, ya, va, ra, da⟩ := (show ObjOk X.prog X.w H s.heap a (.dK vs) from I.hok a _ ea)
  obtain ⟨_, yb, vb, rb, db⟩ := (show ObjOk X.prog X.w H s.heap b (.dK ws) from I.hok b _ eb)
  refine PySem.W.rcP_dicts (knd := mixKind X.prog X.w) (r := kvsEq ls ks) ya yb da db (by omega) (fun _ => hits_D I (by show X.A.units + 1 + 64 < cLine; omega) rw' rb o2 rv ra o1) _ _ ?_
  have l1 : va.length = ks.length := by rw [← ra.length]; exact (Paired.length rv).symm
  have l2 : vb.length = ls.length := by rw [← rb.length]; exact (Paired.length rw').symm
  rw [l1, l2]
  exact ⟨.bl _, H, I, rfl, Cl.same q rh rfl⟩
/-- list(d): a new list of the keys -/
def listKD : RDC := fun xs h Q => match xs with
  | [.ref a] => ∃ kvs, h a = some (.dK kvs) ∧ ∀ p, h p = none → Q (.ref p) (updD h p (.lst (kvs.map fun kv => kD kv.1)))
  | _ => False
theorem reps_keys {K : PySem.W.Frag} {H : Hp} {kvs : List (Key × D)} {vs : List (Key × V)} (r : RepKV K H kvs vs) : Reps K H (kvs.map fun kv => kD kv.1) (vs.map fun kv => kV kv.1) := by
  induction r with
  | nil => exact .nil
  | @cons p q _ _ pq _ ih =>
    rw [List.map_cons, List.map_cons]
    exact .cons (by rw [pq.1]; exact rep_kD _) ih
theorem dc_listK {X : Cx} (hc : X.calm = true) : DCallR X (.type "list") listKD := by
  refine .of (call_list_dK hc) (fun H xs ds h Q rs rh q => ?_) (fun ds h Q Q' k q => ?_)
  · unfold listKD at q
    split at q <;> first | exact False.elim q | skip
    obtain ⟨x, rfl, r1⟩ := reps1 rs
    obtain ⟨kvs, e, q⟩ := q
    cases rep_ref r1
    obtain ⟨vs, ev, rv⟩ := rh.dK e
    exact ⟨_, vs, rfl, ev, fun p n => Cl.newL rh (reps_keys rv) n (q p (rh.free n))⟩
  · unfold listKD at q ⊢
    split at q <;> first | exact False.elim q | skip
    obtain ⟨kvs, e, q⟩ := q
    exact ⟨kvs, e, fun p n => k _ _ (q p n)⟩
/-! ### dicts written with entries -/
def keyed : List (D × D) → Option (List (Key × D))
  | [] => some []
  | (x, d) :: r => match keyD x, keyed r with
    | some k, some l => some ((k, d) :: l)
    | _, _ => none
def mergeD (kvs more : List (Key × D)) : List (Key × D) := more.foldl (fun acc kv => setK acc kv.1 kv.2) kvs
def dPairs : List (DTE × DTE) → DSt → DH → (List (D × D) → DH → Prop) → Prop
  | [], _, h, Q => Q [] h
  | (tk, tv) :: r, τ, h, Q => tk τ h fun x h1 => tv τ h1 fun y h2 => dPairs r τ h2 fun ps h3 => Q ((x, y) :: ps) h3
def dDisp (trs : List (DTE × DTE)) : DTE := fun τ h Q => ∀ p, h p = none → dPairs trs τ (updD h p (.dK [])) fun ps h2 => h2 p = some (.dK []) ∧ ∃ kvs, keyed ps = some kvs ∧ kvs.length ≤ 15 ∧ Q (.ref p) (updD h2 p (.dK (mergeD [] kvs)))
structure DPs (X : Cx) (pos : Pos) (keys : List (Option Expr)) (values : List Expr) (trs : List (DTE × DTE)) : Prop where
  run : PPs X pos keys values (trs.map fun p => (LE X.K p.1, LE X.K p.2))
  mono : ∀ p ∈ trs, Mono p.1 ∧ Mono p.2
theorem dPairs_mono : ∀ {trs : List (DTE × DTE)}, (∀ p ∈ trs, Mono p.1 ∧ Mono p.2) → ∀ τ h Q Q', (∀ ps h, Q ps h → Q' ps h) → dPairs trs τ h Q → dPairs trs τ h Q'
  | [], _, _, _, _, _, k, q => k _ _ q
  | (tk, tv) :: r, m, τ, h, Q, Q', k, q => (m _ List.mem_cons_self).1 _ _ _ _ (fun x h1 q => (m _ List.mem_cons_self).2 _ _ _ _ (fun y h2 q => dPairs_mono (fun p hp => m p (List.mem_cons_of_mem _ hp)) _ _ _ _ (fun ps h q => k _ _ q) q) q) q
section
variable {X : Cx} {pos : Pos} {k v : Expr} {ks : List (Option Expr)} {vs : List Expr} {tk tv : DTE} {trs : List (DTE × DTE)}
theorem dps_nil : DPs X pos [] [] [] := ⟨pps_nil, fun _ h => by cases h⟩
theorem dps_cons (hk : DE X k tk) (hv : DE X v tv) (hr : DPs X pos ks vs trs) : DPs X pos (some k :: ks) (v :: vs) ((tk, tv) :: trs) :=
  ⟨pps_cons hk.run hv.run hr.run, fun p hp => by
    rcases List.mem_cons.mp hp with rfl | hp
    · exact ⟨hk.mono, hv.mono⟩
    · exact hr.mono p hp⟩
def RepP (K : PySem.W.Frag) (H : Hp) : List (D × D) → List (V × V) → Prop := Paired fun p q => Rep K H p.1 q.1 ∧ Rep K H p.2 q.2
theorem dPairs_lift {K : PySem.W.Frag} : ∀ {trs : List (DTE × DTE)}, (∀ p ∈ trs, Mono p.1 ∧ Mono p.2) → ∀ {τ : DSt} {σ : L2.St} {H : Hp} {h : DH} {Qd : List (D × D) → DH → Prop} {R : List (V × V) → Hp → Prop}, RepS K H τ σ → RepH K H h → dPairs trs τ h Qd →
    (∀ ps h1 vs H1, Qd ps h1 → RepP K H1 ps vs → RepH K H1 h1 → TK H H1 → R vs H1) → tPairs (trs.map fun p => (LE K p.1, LE K p.2)) σ H R
  | [], _, τ, σ, H, h, Qd, R, rs, rh, q, k => k _ _ _ _ q .nil rh (.refl H)
  | (tk, tv) :: r, m, τ, σ, H, h, Qd, R, rs, rh, q, k => by
    have m1 := m _ List.mem_cons_self
    refine LE.of m1.1 rs rh q fun x h1 a H1 q1 r1 rh1 k1 => ?_
    refine LE.of m1.2 (rs.tk k1) rh1 q1 fun y h2 b H2 q2 r2 rh2 k2 => ?_
    refine dPairs_lift (fun p hp => m p (List.mem_cons_of_mem _ hp)) (rs.tk (k1.trans k2)) rh2 q2 fun ps h3 vs H3 q3 r3 rh3 k3 => ?_
    exact k _ _ _ _ q3 (.cons ⟨r1.tk (k2.trans k3), r2.tk k3⟩ r3) rh3 (k1.trans (k2.trans k3))
theorem keyed_V {K : PySem.W.Frag} {H : Hp} : ∀ {ps : List (D × D)} {vs : List (V × V)} {kvs : List (Key × D)}, RepP K H ps vs → keyed ps = some kvs → ∃ ws : List (Key × V), vs = ws.map (fun kv => (kV kv.1, kv.2)) ∧ RepKV K H kvs ws
  | [], vs, kvs, r, e => by
    cases r; cases e
    exact ⟨[], rfl, .nil⟩
  | (x, d) :: ps, vs, kvs, r, e => by
    cases r with
    | @cons _ q _ qs pq t =>
      obtain ⟨a, b⟩ := q
      unfold keyed at e
      split at e
      · rename_i k l e1 e2
        cases e
        obtain ⟨ws, rfl, r2⟩ := keyed_V t e2
        refine ⟨(k, b) :: ws, ?_, .cons ⟨rfl, pq.2⟩ r2⟩
        rw [List.map_cons]
        rw [show a = kV k from keyD_V pq.1 e1]
      · cases e
theorem kv_merge {K : PySem.W.Frag} {H : Hp} {more : List (Key × D)} {ms : List (Key × V)} (r : RepKV K H more ms) : ∀ {kvs : List (Key × D)} {vs : List (Key × V)}, RepKV K H kvs vs → RepKV K H (mergeD kvs more) (mergeK vs ms) := by
  induction r with
  | nil => intro _ _ q; exact q
  | @cons p q _ _ pq _ ih =>
    intro kvs vs r0
    unfold mergeD mergeK at *
    rw [List.foldl_cons, List.foldl_cons]
    refine ih ?_
    rw [pq.1]
    exact kv_set r0 pq.2
theorem de_disp {keys : List (Option Expr)} {values : List Expr} (hp : DPs X pos keys values trs) (hall : keys.all (·.isSome) = true) (hl : keys.length = values.length) (h0 : keys ≠ []) (h15 : keys.length ≤ 15) : DE X (.Dict keys values pos) (dDisp trs) := by
  refine ⟨(pe_disp hp.run hall hl h0 h15).wk fun σ H Q q => ?_, fun τ h Q Q' k q p n => dPairs_mono hp.mono _ _ _ _ (fun ps h ⟨e, kvs, a, b, q⟩ => ⟨e, kvs, a, b, k _ _ q⟩) (q p n)⟩
  obtain ⟨τ, h, rs, rh, q⟩ := q
  intro p n
  have k0 : TK H (upd H p (.dK [])) := .new n
  refine dPairs_lift hp.mono (rs.tk k0) (rh.new (u := .dK []) n ⟨[], upd_same, .nil⟩) (q p (rh.free n)) fun ps h1 vs H1 ⟨e, kvs, ek, l, q1⟩ r1 rh1 k1 => ?_
  obtain ⟨ws, ew, rw'⟩ := rh1.dK e
  cases rw'
  obtain ⟨us, rfl, ru⟩ := keyed_V r1 ek
  have m : Mut (H1 p) := dmut ew
  refine ⟨ew, us, rfl, by rw [← Paired.length ru]; exact l, q1 (.ref p) _ rfl (rh1.mut (u := .dK (mergeD [] kvs)) m ⟨_, upd_same, RepKV.tk (.mut m) (kv_merge ru .nil)⟩) ((k0.trans k1).trans (.mut m))⟩
end
end DL

/-! DIn: membership in a dict as a test. -/
namespace DL
open PySem PySem.Spec PyProof.Rows L2
section
variable {X : Cx} {i o : Expr} {ty td : DTE} {pos : Pos}
theorem dt_din (hu : X.A.units + 1 < cLine) (hi : DE X i ty) (ho : DE X o td) (hm : behindInMarks .In o = false := by first | exact nomark _ | with_unfolding_all rfl) : DT X (.Compare i [.In] [o] pos) (dTru (dDIn ty td)) := by
  refine ⟨(pt_cmp (pc_din hu hi.run ho.run) hm).wk fun σ H Q q => ?_, fun τ h Q Q' k q => din_mono (f := id) hi.mono ho.mono τ h (fun x h1 => truD x h1 fun b => Q b h1) (fun x h1 => truD x h1 fun b => Q' b h1) (fun x h1 q1 => truD_mono (fun b q => k _ _ q) q1) q⟩
  refine din_lift (f := id) (Q := fun x H' => ∃ k, x = .bl k ∧ Q k H') hi.mono ho.mono ?_
  obtain ⟨τ, h, rs, rh, q⟩ := q
  exact ⟨τ, h, rs, rh, hi.mono _ _ _ _ (fun y h1 q => ho.mono _ _ _ _ (fun x h2 ⟨a, kvs, k, e1, e2, e3, q⟩ => ⟨a, kvs, k, e1, e2, e3, fun v H' r rh k => ⟨_, r, q H' rh k⟩⟩) q) q⟩
theorem dt_dnotin (hu : X.A.units + 1 < cLine) (hi : DE X i ty) (ho : DE X o td) (hm : behindInMarks .NotIn o = false := by first | exact nomark _ | with_unfolding_all rfl) : DT X (.Compare i [.NotIn] [o] pos) (dTru (dDNotIn ty td)) := by
  refine ⟨(pt_cmp (pc_dnotin hu hi.run ho.run) hm).wk fun σ H Q q => ?_, fun τ h Q Q' k q => din_mono (f := not) hi.mono ho.mono τ h (fun x h1 => truD x h1 fun b => Q b h1) (fun x h1 => truD x h1 fun b => Q' b h1) (fun x h1 q1 => truD_mono (fun b q => k _ _ q) q1) q⟩
  refine din_lift (f := not) (Q := fun x H' => ∃ k, x = .bl k ∧ Q k H') hi.mono ho.mono ?_
  obtain ⟨τ, h, rs, rh, q⟩ := q
  exact ⟨τ, h, rs, rh, hi.mono _ _ _ _ (fun y h1 q => ho.mono _ _ _ _ (fun x h2 ⟨a, kvs, k, e1, e2, e3, q⟩ => ⟨a, kvs, k, e1, e2, e3, fun v H' r rh k => ⟨_, r, q H' rh k⟩⟩) q) q⟩
/-- o[i], o a dict that is walked -/
def dDGetF (td ty : DTE) : DTE := fun τ h Q => td τ h fun x h1 => ty τ h1 fun y h2 => ∃ a kvs k v, x = .ref a ∧ h2 a = some (.fdK kvs) ∧ keyD y = some k ∧ getK kvs k = some v ∧ Q v h2
theorem de_dgetF (hu : X.A.units + 1 < cLine) (ho : DE X o td) (hi : DE X i ty) (hs : NoSl i) : DE X (.Subscript o i pos) (dDGetF td ty) := by
  refine ⟨(pe_dget hu ho.run hi.run hs).wk fun σ H Q q => ?_, fun τ h Q Q' k q => ho.mono _ _ _ _ (fun x h1 q => hi.mono _ _ _ _ (fun y h2 ⟨a, kvs, k', v, e1, e2, e3, e4, q⟩ => ⟨a, kvs, k', v, e1, e2, e3, e4, k _ _ q⟩) q) q⟩
  obtain ⟨τ, h, rs, rh, q⟩ := q
  refine LE.of ho.mono rs rh q fun x h1 u H1 q1 r1 rh1 k1 => ?_
  refine LE.of hi.mono (rs.tk k1) rh1 q1 fun y h2 w H2 q2 r2 rh2 k2 => ?_
  obtain ⟨a, kvs, k, v, rfl, e2, e3, e4, q⟩ := q2
  cases rep_ref r1
  obtain ⟨od, vs, ev, rv⟩ := rh2 a _ e2
  obtain ⟨v', gv, rv'⟩ := (kv_get rv).1 v e4
  rw [keyD_V r2 e3]
  exact ⟨a, v', rfl, gv ▸ .inl ⟨_, _, .inr ⟨_, ev⟩, rfl, rfl⟩, q v' H2 rv' rh2 (k1.trans k2)⟩
end
end DL

/-! DIsE: isinstance(e, C), e the exception that is handled. -/
namespace DL
open PySem PySem.Spec PyProof.Rows L2
def excCB (K : PySem.W.Frag) (D : Addr) : Bool :=
  decide (PySem.W.findIn K (.ref D) "__getattribute__" = some (some (.builtin "BaseException.__getattribute__"))) && (decide (PySem.W.findIn K (.ref D) "__getattr__" = some none) && (decide (PySem.W.subIn K (.ref D) (.type "BaseException") = some true) && (PySem.W.hasDictIn K D && (decide (PySem.W.findIn K (.ref D) "__class__" = some (some (.builtin "object.__class__"))) && (decide (PySem.W.specialIn K (.builtin "object.__class__") "__get__" = some (some (.builtin "getset_descriptor.__get__"))) && (decide (PySem.W.takesIn K (.builtin "object.__class__") = some true) && decide (PySem.W.mroIn K D (.type "object") = some true)))))))
theorem excCB_ok {K : PySem.W.Frag} {D : Addr} (h : excCB K D = true) : ExcC K D := by
  unfold excCB at h
  simp only [Bool.and_eq_true, decide_eq_true_eq] at h
  obtain ⟨h1, h2, h3, h4, h5, h6, h7, h8⟩ := h
  exact ⟨h1, h2, h3, h4, h5, h6, h7, h8⟩
/-- what is known of isinstance's answers for an exception of the class C: for own classes, for built-in ones -/
structure IsEC (K : PySem.W.Frag) (mg : Str → Option Value) (C : Str) (own : List (Str × Bool)) (blt : List (String × Bool)) : Prop where
  exc : ExcC K (He.ga K C)
  ow : ∀ p ∈ own, mg p.1 = some (.ref (He.ga K p.1)) ∧ PySem.W.kitOne K (.ref (He.ga K C)) (.ref (He.ga K p.1)) = some p.2
  bl : ∀ p ∈ blt, PySem.W.kitOne K (.ref (He.ga K C)) (.type p.1) = some p.2
def isEB (K : PySem.W.Frag) (C : Str) (own : List (Str × Bool)) (blt : List (String × Bool)) : Bool := excCB K (He.ga K C) && ((own.all fun p => decide (PySem.W.nsIn K mainGlobals p.1 = some (some (.ref (He.ga K p.1)))) && decide (PySem.W.kitOne K (.ref (He.ga K C)) (.ref (He.ga K p.1)) = some p.2)) &&
  (blt.all fun p => decide (PySem.W.kitOne K (.ref (He.ga K C)) (.type p.1) = some p.2)))
theorem IsEC.of {K : PySem.W.Frag} {h : Heap} {mg : Str → Option Value} {C : Str} {own : List (Str × Bool)} {blt : List (String × Bool)} (X : K.In h) (G : h.Ns mainGlobals mg) (c : isEB K C own blt = true) : IsEC K mg C own blt := by
  unfold isEB at c
  simp only [Bool.and_eq_true, decide_eq_true_eq, List.all_eq_true] at c
  obtain ⟨c1, c2, c3⟩ := c
  exact ⟨excCB_ok c1, fun p hp => ⟨PySem.W.mg_of X G (c2 p hp).1, (c2 p hp).2⟩, c3⟩
def rIsX (K : PySem.W.Frag) (D a : Addr) (d : Option Addr) : List V → Hp → VK → Prop := fun xs H Q => ∃ (c : V) (cv : Value) (b : Bool) (dd : Addr) (fs : List (Str × V)), xs = [.ref a, c] ∧ (∀ u, RelV c u → u = cv) ∧ PySem.W.kitOne K (.ref D) cv = some b ∧ d = some dd ∧ H dd = some (.xd fs) ∧ Q (.bl b) H
theorem call_isX {X : Cx} {a D : Addr} {d : Option Addr} {oe : Obj} {pn : List (Addr × Obj)} (C : ExcC X.K D) (hz : Zc (.ref D) d oe) (hf : ∃ vs, oe.data = .fields vs) : CallR (X.suite a ((a, oe) :: pn)) (.builtin "isinstance") (rIsX X.K D a d) := by
  intro pins s σ H xs us Q I r h
  obtain ⟨c, cv, b, dd, fs, rfl, hcv, e, ed, ea, q⟩ := h
  cases r with
  | cons rx rr =>
    cases rr with
    | cons rt rr =>
      cases rr
      cases rx
      have ec := hcv _ rt
      subst ec
      subst ed
      obtain ⟨hget, _⟩ := I.pin (a, oe) (List.mem_append.mpr (.inl List.mem_cons_self))
      obtain ⟨vs, hv⟩ := hf
      have hx : ObjOk X.prog X.w H s.heap dd (.xd fs) := I.hok dd _ ea
      obtain ⟨mA, hns, hr⟩ := hx
      obtain ⟨od, ho, hl⟩ := lookIn_ns hns
      have J : PySem.W.InstAt s.heap a oe D (some od) := ⟨hget, hz.1, by unfold PySem.W.notCls; rw [hv] <;> rfl, by rw [hz.2]; exact ho⟩
      have hcl : (PySem.W.clsIn X.K D).isSome = true := by
        have := C.hd
        obtain ⟨cd, hc, _⟩ := PySem.W.any_some this
        rw [hc]; rfl
      exact PySem.W.kia_one (PySem.W.kitx_exc hcl C.hg C.hk C.hs C.ha C.hn C.ht C.hm) I.kIn J e (fun z => nomatch z) fun tk => ⟨.bl b, H, I.kept (t' := tk) fun _ _ z => z, rfl, q⟩
def dIsX (a : Addr) (d : Option Addr) (b : Bool) (te : DTE) : DTE := fun τ h Q => te τ h fun x h1 => x = .ref a ∧ ∃ dd fs, d = some dd ∧ h1 dd = some (.xd fs) ∧ Q (.bl b) h1
section
variable {X : Cx} {a : Addr} {C : Str} {oe : Obj} {pn : List (Addr × Obj)} {e : Expr} {te : DTE} {pos p p2 : Pos} {x : Str} {own : List (Str × Bool)} {blt : List (String × Bool)} {b : Bool} {d : Option Addr}
theorem dis_mono (m : Mono te) : Mono (dIsX a d b te) := fun τ h Q Q' k q => m _ _ _ _ (fun x h1 ⟨e, dd, fs, e1, e2, q⟩ => ⟨e, dd, fs, e1, e2, k _ _ q⟩) q
theorem de_isEg {v : V} {cv : Value} (T : ExcC X.K (He.ga X.K C)) (hz : L2N.Zn (.ref (He.ga X.K C)) d oe) (hf : ∃ vs, oe.data = .fields vs) (hx : PE (X.suite a ((a, oe) :: pn)) (.Name x p2) (tC v)) (rv : ∀ u, RelV v u → u = cv) (ko : PySem.W.kitOne X.K (.ref (He.ga X.K C)) cv = some b)
    (he : DE (X.suite a ((a, oe) :: pn)) e te) (hg : Gl (X.suite a ((a, oe) :: pn)) "isinstance") (hm : X.mg "isinstance" = none)
    (hs : starEach [e, .Name x p2] X.env = (false, eval e X.env) :: starEach [.Name x p2] X.env := by rfl) : DE (X.suite a ((a, oe) :: pn)) (.Call (.Name "isinstance" p) [e, .Name x p2] [] pos) (dIsX a d b te) := by
  refine ⟨(pe_callB (call_isX T hz.zc hf) hg hm PyProof.Rows.boot_isinstance (pa_cons he.run (pa_cons hx pa_nil) hs) (by decide) (by decide) hs).wk fun σ H Q q => ?_, dis_mono he.mono⟩
  obtain ⟨τ, h, rs, rh, q⟩ := q
  refine LE.of he.mono rs rh q fun x h1 v1 H1 ⟨ex, dd, fs, e1, e2, q1⟩ r1 rh1 k1 => ?_
  subst ex
  cases rep_ref r1
  obtain ⟨vs, ev, _⟩ := rh1 dd _ e2
  exact ⟨v, cv, b, dd, vs, rfl, rv, ko, e1, ev, q1 _ H1 rfl rh1 k1⟩
/-- an own class -/
theorem de_isO (T : IsEC X.K X.mg C own blt) (hz : L2N.Zn (.ref (He.ga X.K C)) d oe) (hf : ∃ vs, oe.data = .fields vs) (hm : (x, b) ∈ own) (he : DE (X.suite a ((a, oe) :: pn)) e te) (hg : Gl (X.suite a ((a, oe) :: pn)) "isinstance") (hgx : Gl (X.suite a ((a, oe) :: pn)) x) (hn : X.mg "isinstance" = none) (hd : (x == ("__debug__" : Str)) = false := by decide)
    (hs : starEach [e, .Name x p2] X.env = (false, eval e X.env) :: starEach [.Name x p2] X.env := by rfl) : DE (X.suite a ((a, oe) :: pn)) (.Call (.Name "isinstance" p) [e, .Name x p2] [] pos) (dIsX a d b te) :=
  de_isEg (v := .ref (He.ga X.K x)) T.exc hz hf (pe_glob hgx (T.ow _ hm).1 rfl hd) (fun u r => r) (T.ow _ hm).2 he hg hn hs
/-- a built-in class -/
theorem de_isB {n : String} (T : IsEC X.K X.mg C own blt) (hz : L2N.Zn (.ref (He.ga X.K C)) d oe) (hf : ∃ vs, oe.data = .fields vs) (hm : (n, b) ∈ blt) (he : DE (X.suite a ((a, oe) :: pn)) e te) (hg : Gl (X.suite a ((a, oe) :: pn)) "isinstance") (hgx : Gl (X.suite a ((a, oe) :: pn)) x) (hn : X.mg "isinstance" = none)
    (hmx : X.mg x = none) (hv : bootBuiltins x = some (.type n)) (hxn : x ≠ "__name__" := by decide) (hd : (x == ("__debug__" : Str)) = false := by decide)
    (hs : starEach [e, .Name x p2] X.env = (false, eval e X.env) :: starEach [.Name x p2] X.env := by rfl) : DE (X.suite a ((a, oe) :: pn)) (.Call (.Name "isinstance" p) [e, .Name x p2] [] pos) (dIsX a d b te) :=
  de_isEg (v := .ty n) T.exc hz hf (pe_bltn hgx hmx hv rfl hxn hd) (fun u r => r) (T.bl _ hm) he hg hn hs
end
end DL

/-! DProp: methods that are never reached, properties. -/
namespace DL
open PySem PySem.Spec PyProof.Rows L2
theorem HasM.void {P : Program} {w : World} {K : PySem.W.Frag} {mg : Str → Option Value} {base : Heap} {C m qual : Str} {params : Arguments} {body : List Stmt} {scope : Scope} {ps : List Str} {k : Nat} {sp : SpD} (at_ : Meth K (He.ga K C) m (He.ma K (He.ga K C) m))
    (F : ∃ fd, FunD K m qual params body scope [] [] (He.ma K (He.ga K C) m) fd)
    (bind : ∀ (kV doc pm : Value) (an : Option Addr) (cdv ct : Value) (us : List Value), us.length = ps.length → bindArgs (PySem.W.fnOf m qual params body scope .none kV doc pm an cdv ct) ⟨us, []⟩ = pure (ps.zip us))
    (no : ∀ ds h Q E, ¬ sp ds h Q E) : HasM P w K mg base C m k ps sp :=
  let ⟨fd, F⟩ := F
  ⟨at_, fun ds h Q _ E _ q => (no ds h Q E q).elim, fd, F.bindsN bind, fun _ _ _ _ ⟨_, _, _, _, q⟩ => (no _ _ _ _ q).elim, fun _ _ _ _ _ _ _ _ _ _ _ _ _ ⟨_, _, _, _, q⟩ => (no _ _ _ _ q).elim⟩
/-- the getter of a property of the class -/
def pgA (K : PySem.W.Frag) (C f : Str) : Addr := match PySem.W.recIn K (He.ma K (He.ga K C) f) "property" with
  | some (.ref g :: _) => g
  | _ => 0
structure HasP (P : Program) (w : World) (K : PySem.W.Frag) (mg : Str → Option Value) (base : Heap) (C f : Str) (k : Nat) (ps : List Str) (sp : SpD) : Prop where
  at_ : PropOf K (He.ga K C) f (He.ma K (He.ga K C) f) (pgA K C f)
  ms : MonoSp sp
  ok : ∃ fd, Binds K fd ps [] ∧ FnOk P w K mg base CX0 k (pgA K C f) fd ps (LSp K sp)
theorem HasP.mono {P : Program} {w : World} {K : PySem.W.Frag} {mg : Str → Option Value} {base : Heap} {C f : Str} {j k : Nat} {ps : List Str} {sp : SpD} (h : HasP P w K mg base C f j ps sp) (l : j ≤ k) : HasP P w K mg base C f k ps sp :=
  ⟨h.at_, h.ms, let ⟨fd, b, c⟩ := h.ok; ⟨fd, b, c.mono l⟩⟩
theorem HasP.of {P : Program} {w : World} {K : PySem.W.Frag} {mg : Str → Option Value} {base : Heap} {C f qual : Str} {params : Arguments} {body : List Stmt} {scope : Scope} {N ps : List Str} {k : Nat} {sp : SpD} {t : DTS} (at_ : PropOf K (He.ga K C) f (He.ma K (He.ga K C) f) (pgA K C f))
    (F : ∃ fd, FunD K f qual params body scope [] [] (pgA K C f) fd) (S : FnScope N ps scope) (ms : MonoSp sp) (len : ∀ ds h Q E, sp ds h Q E → ds.length = ps.length)
    (bind : ∀ (kV doc pm : Value) (an : Option Addr) (cdv ct : Value) (us : List Value), us.length = ps.length → bindArgs (PySem.W.fnOf f qual params body scope .none kV doc pm an cdv ct) ⟨us, []⟩ = pure (ps.zip us))
    (d : ∀ (cdv : Value) (A : Around) (outer : List Env) (s : Shared) (H : Hp) (E : XK), Room k (A.deeper (envOfC qual scope s.heap.objs.size (pgA K C f) cdv)) → DSs (cxOf CX0 P w K mg base N qual scope (pgA K C f) cdv A outer s H E).nox WN body t)
    (r : ∀ ds h Q Ed, Up Q → sp ds h Q Ed → t { nx := fun _ h' => Q .non h', rt := Q } (dstart N ds) h) : HasP P w K mg base C f (k + 1) ps sp :=
  let ⟨fd, F⟩ := F
  ⟨at_, ms, fd, F.bindsN bind, FunD.okD F S len fun cdv A outer s H E hr => ⟨t, d cdv A outer s H E hr, r⟩⟩
def dProp (C : Str) (sp : SpD) (te : DTE) : DTE := fun τ h Q => te τ h fun x h1 => ∃ a fs, x = .ref a ∧ h1 a = some (.ins C fs) ∧ ∀ E, sp [x] h1 Q E
theorem de_prop {X : Cx} {C f : Str} {fs : List Str} {k : Nat} {ps : List Str} {sp : SpD} {e : Expr} {pos : Pos} {te : DTE} (T : ClsF X.K C fs) (F : HasP X.prog X.w X.K X.mg X.base C f k ps sp) (hr : Room (k + 1) X.A) (he : DE X e te)
    (hb : attributeBase e f X.env (eval e X.env) = eval e X.env := by rfl) : DE X (.Attribute e f pos) (dProp C sp te) := by
  obtain ⟨fd, b, c⟩ := F.ok
  refine ⟨(pe_prop (E := E0) (ds := []) (dvs := []) he.run T.c F.at_ c hr b .nil pass0 hb).wk fun σ H Q q => ?_, fun τ h Q Q' k q => he.mono _ _ _ _ (fun x h1 ⟨a, gs, e1, e2, q⟩ => ⟨a, gs, e1, e2, fun E => F.ms _ _ _ _ _ k (q E)⟩) q⟩
  obtain ⟨τ, h, rs, rh, q⟩ := q
  refine LE.of he.mono rs rh q fun x h1 v H1 q1 r1 rh1 k1 => ?_
  obtain ⟨a, gs, rfl, e2, q⟩ := q1
  cases rep_ref r1
  obtain ⟨dx, vs, ev, rv⟩ := rh1.ins e2
  exact ⟨a, dx, vs, rfl, ev, [.ref a], h1, Reps.cons (d := .ref a) (show Rep _ _ (.ref a) (.ref a) from rfl) Reps.nil, rh1, F.ms _ _ _ _ _ (fun _ _ c => c.tk k1) (q _)⟩
end DL

/-! DHook: what is told at a law's start, with the getters of properties. -/
namespace DL
open PySem PySem.Spec PyProof.Rows L2
/-- the def at an address, as it is compared -/
def fnAt (K : PySem.W.Frag) (a : Addr) : He.FnV := match K.lookup a with
  | some ⟨_, _, .func fd, _⟩ => some (fd.name, fd.qualname, fd.params, fd.body, fd.scope, fd.globals, fd.closure, fd.defaults, fd.builtins)
  | _ => none
def codeAt (K : PySem.W.Frag) (a : Addr) (qual : Str) : Bool := match K.lookup a with
  | some ⟨_, _, .func fd, _⟩ => PySem.W.codeIn K fd.code qual
  | _ => false
theorem fnAt_ok {K : PySem.W.Frag} {a : Addr} {name qual : Str} {params : Arguments} {body : List Stmt} {scope : Scope} (e : fnAt K a = some (name, qual, params, .stmts body, scope, mainGlobals, [], .none, builtinsNs)) (c : codeAt K a qual = true) (kp : PySem.W.keepIn K (.ref a) = true) :
    ∃ fd, FunD K name qual params body scope [] [] a fd := by
  unfold fnAt at e
  unfold codeAt at c
  cases l : K.lookup a with
  | none => rw [l] at c; cases c
  | some o =>
    obtain ⟨oc, od, dt, sl⟩ := o
    rw [l] at e c
    cases dt with
    | func fd =>
      obtain ⟨m1, m2, m3, m4, m5, m6, m7, m8, kV, doc, pm, an, cdv, ct, m15⟩ := fd
      simp only [Option.some.injEq, Prod.mk.injEq] at e
      obtain ⟨rfl, rfl, rfl, rfl, rfl, rfl, rfl, rfl, rfl⟩ := e
      exact ⟨_, ⟨oc, od, .none, kV, doc, pm, an, cdv, ct, sl, rfl, l, c, .inl ⟨rfl, rfl⟩, .inl rfl⟩, kp⟩
    | _ => cases c
/-- a property of a class: its class, name, getter -/
structure PgD where
  cls : Str
  name : Str
  qual : Str
  params : Arguments
  body : List Stmt
  scope : Scope
def PgD.val (d : PgD) : He.FnV := some (d.name, d.qual, d.params, .stmts d.body, d.scope, mainGlobals, [], .none, builtinsNs)
def PgD.ok (K : PySem.W.Frag) (d : PgD) : Bool := decide (PySem.W.findIn K (.ref (He.ga K d.cls)) d.name = some (some (.ref (He.ma K (He.ga K d.cls) d.name)))) &&
  (decide (PySem.W.specialIn K (.ref (He.ma K (He.ga K d.cls) d.name)) "__get__" = some (some (.builtin "property.__get__"))) && (decide (PySem.W.takesIn K (.ref (He.ma K (He.ga K d.cls) d.name)) = some true) &&
  ((match PySem.W.recIn K (He.ma K (He.ga K d.cls) d.name) "property" with
    | some (.ref _ :: _) => true
    | _ => false) && (codeAt K (pgA K d.cls d.name) d.qual && PySem.W.keepIn K (.ref (pgA K d.cls d.name))))))
theorem PgD.prop {K : PySem.W.Frag} {d : PgD} (h : d.ok K = true) : PropOf K (He.ga K d.cls) d.name (He.ma K (He.ga K d.cls) d.name) (pgA K d.cls d.name) := by
  unfold PgD.ok at h
  simp only [Bool.and_eq_true, decide_eq_true_eq] at h
  obtain ⟨h1, h2, h3, h4, _, _⟩ := h
  refine ⟨h1, h2, h3, ?_⟩
  unfold pgA
  split at h4
  · rename_i g r e
    exact ⟨r, by rw [e]⟩
  · cases h4
theorem PgD.fun {K : PySem.W.Frag} {d : PgD} (h : d.ok K = true) (e : fnAt K (pgA K d.cls d.name) = d.val) : ∃ fd, FunD K d.name d.qual d.params d.body d.scope [] [] (pgA K d.cls d.name) fd := by
  unfold PgD.ok at h
  simp only [Bool.and_eq_true, decide_eq_true_eq] at h
  obtain ⟨_, _, _, _, h5, h6⟩ := h
  exact fnAt_ok e h5 h6
abbrev AlP : Type := He.AlX × List He.FnV
def obsP (n : Nat) (fa : List He.Fa) (fn : List He.DefD) (ex : PySem.W.Frag → Bool) (pg : List PgD) (g : Addr → Option Obj) : AlP := (He.obsX n fa fn [] [] ex g, pg.map fun d => fnAt (He.frT g (He.asD g n)) (pgA (He.frT g (He.asD g n)) d.cls d.name))
def hookP (n : Nat) (fa : List He.Fa) (fn : List He.DefD) (ex : PySem.W.Frag → Bool) (pg : List PgD) : PySem.W.Hook where
  α := AlP
  obs := fun s => obsP n fa fn ex pg s.heap.get?
  val := fun w => (He.valX fn [] w, pg.map PgD.val)
  says := fun w h => ∃ K : PySem.W.Frag, K.In h ∧ He.SaysX fa fn [] [] ex w h K ∧ pg.map (fun d => fnAt K (pgA K d.cls d.name)) = pg.map PgD.val
  of := fun _ _ e => ⟨_, He.frT_in, He.saysX_of (congrArg (fun z : AlP => z.1) e), congrArg (fun z : AlP => z.2) e⟩
  keeps := fun _ _ _ ⟨K, hK, c, cp⟩ k => ⟨K, PySem.W.Frag.In.keeps hK k, ⟨c.t, c.more, c.hd, c.out, fun p hp => k _ _ (c.empty p hp)⟩, cp⟩
theorem obsP_eq {n : Nat} {fa : List He.Fa} {fn : List He.DefD} {ex : PySem.W.Frag → Bool} {pg : List PgD} {g : Addr → Option Obj} {s : Shared} (h : ∀ a, g a = s.heap.get? a) : obsP n fa fn ex pg g = (hookP n fa fn ex pg).obs s := by
  have e : g = s.heap.get? := funext h
  rw [e] <;> rfl
theorem pg_get {K : PySem.W.Frag} {pg : List PgD} (c : pg.map (fun d => fnAt K (pgA K d.cls d.name)) = pg.map PgD.val) (i : Nat) {d : PgD} (h : pg[i]? = some d := by rfl) : fnAt K (pgA K d.cls d.name) = d.val := by
  have e2 : (pg.map fun d => fnAt K (pgA K d.cls d.name))[i]? = (pg.map PgD.val)[i]? := by rw [c]
  rw [List.getElem?_map, List.getElem?_map, h] at e2
  exact Option.some.inj e2
end DL

/-! DIntB: int of an int, of a bool. -/
namespace DL
open PySem PySem.Spec PyProof.Rows L2
section
variable {X : Cx}
def intBD : RDC := fun xs h Q => match xs with
  | [.int i] => Q (.int i) h
  | [.bl k] => Q (.int (if k then 1 else 0)) h
  | _ => False
theorem dc_intB : DCallR X (.type "int") intBD := by
  refine .of call_int1 (fun H xs ds h Q rs rh q => ?_) (fun ds h Q Q' k q => ?_)
  · unfold intBD at q
    split at q <;> first | exact False.elim q | skip
    · obtain ⟨x, rfl, r⟩ := reps1 rs
      cases rep_int r
      exact .inl ⟨_, rfl, Cl.same q rh rfl⟩
    · obtain ⟨x, rfl, r⟩ := reps1 rs
      cases (show _ = _ from r)
      exact .inr ⟨_, rfl, Cl.same q rh rfl⟩
  · unfold intBD at q ⊢
    split at q <;> first | exact False.elim q | exact k _ _ q
end
end DL

/-! DMethX: methods and classes whose calls may let exceptions out; != of dicts. -/
namespace DL
open PySem PySem.Spec PyProof.Rows L2

section
variable {X : Cx} {CX : CXT} {k : Nat} {f C : Addr} {fd : FuncData} {ps : List Str} {sp : Sp} {dvs : List V} {ds : List Value} {E : L2.St → XK} {x m : Str} {p pos apos : Pos} {e o : Expr} {es : List Expr} {ta : TE} {t : TA}
def tMethXS (C : Addr) (m : Str) (sp : Sp) (E : L2.St → XK) (ta : TE) (t : TA) : TE := fun σ H Q => ta σ H fun x H1 => ∃ a dx fs, x = .ref a ∧ H1 a = some (.ins C dx fs) ∧ fs.lookup m = none ∧ t σ H1 fun vs H2 => sp (.ref a :: vs) H2 Q (E σ)
theorem pe_methXS {pl : Sem Bool} (he : PE X o ta) (c : Cls X.K C) (hm : Meth X.K C m f) (F : FnOk X.prog X.w X.K X.mg X.base CX k f fd ps sp) (hr : Room k X.A) (hb : Binds X.K fd ps []) (hx : ∀ σ, PassesAt CX X σ (E σ)) (ha : PA X (e :: es) t)
    (hst : starEach (e :: es) X.env = (false, eval e X.env) :: starEach es X.env := by rfl) (hpl : (backTo pos (starEach es X.env)).any (·.1) = false := by rfl)
    (ht : eval (.Call (.Attribute o m apos) (e :: es) [] pos) X.env = (do
      let ov ← eval o X.env
      standAt apos.atName
      let (f, first) ← holding [ov] (getMethod ov m pl)
      callWith pos f first (backTo pos (starEach (e :: es) X.env)) (backToKw pos (keywordEach [] X.env))) := by rfl) :
    PE X (.Call (.Attribute o m apos) (e :: es) [] pos) (tMethXS C m sp E ta t) := by
  refine ⟨fun pins s σ H Q I h => ?_⟩
  refine PySem.W.methodCall_KW (pl := pl) (thn (he.run pins s σ H _ I h) fun u s1 ⟨x, H1, I1, rx, a, dx, fs, ex, ea, l, q⟩ => ?_) ht
  subst ex
  obtain rfl : u = Value.ref a := rx
  refine getmeth_ok I1 ea c hm l ?_
  refine PySem.W.callWith_K (first := [.ref a]) (h₀ := X.base) I.ok.mod.kin hm.kp (thn (ha.run pos pins s1 σ H1 _ I1 q) fun us s2 ⟨vs, H2, I2, r, q2⟩ => ⟨I2.kIn, ?_⟩) hst hpl
  exact run_fnSD (us := .ref a :: us) (vs := .ref a :: vs) (dvs := []) F hr hb .nil (hx σ) I2 (.cons rfl r) (by simpa using q2)
theorem pe_methXS0 {pl : Sem Bool} (he : PE X o ta) (c : Cls X.K C) (hm : Meth X.K C m f) (F : FnOk X.prog X.w X.K X.mg X.base CX k f fd ps sp) (hr : Room k X.A) (hb : Binds X.K fd ps []) (hx : ∀ σ, PassesAt CX X σ (E σ))
    (ht : eval (.Call (.Attribute o m apos) [] [] pos) X.env = (do
      let ov ← eval o X.env
      standAt apos.atName
      let (f, first) ← holding [ov] (getMethod ov m pl)
      callWith pos f first (backTo pos (starEach [] X.env)) (backToKw pos (keywordEach [] X.env))) := by rfl) :
    PE X (.Call (.Attribute o m apos) [] [] pos) (tMethXS C m sp E ta tNil) := by
  refine ⟨fun pins s σ H Q I h => ?_⟩
  refine PySem.W.methodCall_KW (pl := pl) (thn (he.run pins s σ H _ I h) fun u s1 ⟨x, H1, I1, rx, a, dx, fs, ex, ea, l, q⟩ => ?_) ht
  subst ex
  obtain rfl : u = Value.ref a := rx
  refine getmeth_ok I1 ea c hm l ?_
  exact PySem.W.callWith_K0 (first := [.ref a]) I1.kIn hm.kp (run_fnSD (us := [.ref a]) (vs := [.ref a]) (dvs := []) F hr hb .nil (hx σ) I1 (.cons rfl .nil) q)
theorem run_makeS {pins : List (Addr × Obj)} {σ : L2.St} {H : Hp} {s : Shared} {Q : VK} {us : List Value} {vs : List V} (M : Mk X.K C f) (F : FnOk X.prog X.w X.K X.mg X.base CX k f fd ps sp) (hr : Room (k + 1) X.A) (hb : Binds X.K fd ps [])
    (hx : PassesAt CX X σ (E σ)) (I : Inv X pins σ H s) (r : Vals vs us)
    (h : ∀ x dx, H x = none → H dx = none → dx ≠ x → sp (.ref x :: vs) (upd (upd H dx (.own x)) x (.ins C dx [])) (fun v H2 => v = .non ∧ Q (.ref x) H2) (E σ)) :
    wpAny (model X.prog X.w) X.A (call (.ref C) us) (EP X pins σ Q) X.xe s := by
  have hq := h (s.heap.objs.size + 1) s.heap.objs.size (I.hok.fresh (Nat.le_succ _)) (I.hok.fresh (Nat.le_refl _)) (Nat.ne_of_lt (Nat.lt_succ_self _))
  have I2 := Inv.made (C := C) I
  have r2 : Vals (V.ref (s.heap.objs.size + 1) :: vs) (Value.ref (s.heap.objs.size + 1) :: us) := .cons rfl r
  have hl : (Value.ref (s.heap.objs.size + 1) :: us ++ []).length = ps.length := by
    have e := r2.length
    rw [F.len _ _ _ _ hq] at e
    rw [List.append_nil]
    exact e.symm
  have hb2 := hb _ (Value.ref (s.heap.objs.size + 1) :: us) I2.kIn hl
  rw [List.append_nil] at hb2
  refine wpAny_call (make_map (f := f) I.kIn M.makes M.init (beq_iff_eq.mp M.fn) (codeAny_mono (F.run _ X.stack _ _ ⟨Value.ref (s.heap.objs.size + 1) :: us, []⟩ (Value.ref (s.heap.objs.size + 1) :: us) _ _ (E σ) (hr.make C us [])
    (I2.env0.make C us []) hb2 r2 hq) fun r s' hq' => ?_))
  cases r with
  | error e => exact hx pins _ _ e s' I2 hq'
  | ok fl =>
    cases fl with
    | ret u =>
      obtain ⟨v, H', I3, rv, ev, q3⟩ := I2.after hq'
      subst ev
      exact ⟨rv, ⟨V.ref (s.heap.objs.size + 1), H', I3, rfl, q3⟩⟩
    | next => exact False.elim hq'
    | brk => exact False.elim hq'
    | cont => exact False.elim hq'
def tMakeXS (C : Addr) (sp : Sp) (E : L2.St → XK) (t : TA) : TE := fun σ H Q => t σ H fun vs H1 => ∀ x dx, H1 x = none → H1 dx = none → dx ≠ x → sp (.ref x :: vs) (upd (upd H1 dx (.own x)) x (.ins C dx [])) (fun v H2 => v = .non ∧ Q (.ref x) H2) (E σ)
theorem pe_makeXS (M : Mk X.K C f) (F : FnOk X.prog X.w X.K X.mg X.base CX k f fd ps sp) (hr : Room (k + 1) X.A) (hg : Gl X x) (hm : X.mg x = some (.ref C)) (hb : Binds X.K fd ps []) (hx : ∀ σ, PassesAt CX X σ (E σ))
    (ha : PA X (e :: es) t) (hdb : (x == ("__debug__" : Str)) = false := by decide) (he : starEach (e :: es) X.env = (false, eval e X.env) :: starEach es X.env := by rfl) (hpl : (backTo pos (starEach es X.env)).any (·.1) = false := by rfl) :
    PE X (.Call (.Name x p) (e :: es) [] pos) (tMakeXS C sp E t) := by
  refine ⟨fun pins s σ H Q I h => ?_⟩
  refine wpAny_Call_Name_kw (ld_glob I hg hm ?_ hdb)
  refine PySem.W.callWith_K (h₀ := X.base) I.ok.mod.kin M.kp (thn (ha.run pos pins s σ H _ I h) fun us s1 ⟨vs, H1, I1, r, q⟩ => ⟨I1.kIn, ?_⟩) he hpl
  exact run_makeS M F hr hb (hx σ) I1 r q
end
/-- a method that may let exceptions out -/
structure HasMX (P : Program) (w : World) (K : PySem.W.Frag) (mg : Str → Option Value) (base : Heap) (C m : Str) (k : Nat) (ps : List Str) (sp : SpD) : Prop where
  at_ : Meth K (He.ga K C) m (He.ma K (He.ga K C) m)
  ms : MonoSp sp
  mx : MonoX sp
  ok : ∃ fd, Binds K fd ps [] ∧ FnOk P w K mg base (L2N.CX P w) k (He.ma K (He.ga K C) m) fd ps (LSp K sp)
theorem HasMX.mono {P : Program} {w : World} {K : PySem.W.Frag} {mg : Str → Option Value} {base : Heap} {C m : Str} {j k : Nat} {ps : List Str} {sp : SpD} (h : HasMX P w K mg base C m j ps sp) (l : j ≤ k) : HasMX P w K mg base C m k ps sp :=
  ⟨h.at_, h.ms, h.mx, let ⟨fd, b, c⟩ := h.ok; ⟨fd, b, c.mono l⟩⟩
theorem HasMX.of {P : Program} {w : World} {K : PySem.W.Frag} {mg : Str → Option Value} {base : Heap} {C m qual : Str} {params : Arguments} {body : List Stmt} {scope : Scope} {N ps : List Str} {k : Nat} {sp : SpD} {t : DTS} (at_ : Meth K (He.ga K C) m (He.ma K (He.ga K C) m))
    (F : ∃ fd, FunD K m qual params body scope [] [] (He.ma K (He.ga K C) m) fd) (S : FnScope N ps scope) (ms : MonoSp sp) (mx : MonoX sp) (len : ∀ ds h Q E, sp ds h Q E → ds.length = ps.length)
    (bind : ∀ (kV doc pm : Value) (an : Option Addr) (cdv ct : Value) (us : List Value), us.length = ps.length → bindArgs (PySem.W.fnOf m qual params body scope .none kV doc pm an cdv ct) ⟨us, []⟩ = pure (ps.zip us))
    (d : ∀ (cdv : Value) (A : Around) (outer : List Env) (s : Shared) (H : Hp) (E : XK), Room k (A.deeper (envOfC qual scope s.heap.objs.size (He.ma K (He.ga K C) m) cdv)) →
      DSs (cxOf (L2N.CX P w) P w K mg base N qual scope (He.ma K (He.ga K C) m) cdv A outer s H E) (fun cls d _ H => E cls d H) body t)
    (r : ∀ ds h Q Ed, Up Q → sp ds h Q Ed → t { nx := fun _ h' => Q .non h', rt := Q, ex := fun _ => Ed } (dstart N ds) h) : HasMX P w K mg base C m (k + 1) ps sp := by
  obtain ⟨fd, F⟩ := F
  refine ⟨at_, ms, mx, fd, F.bindsN bind, F.ok S (fun vs H Q E ⟨ds, h, r, rh, q⟩ => by rw [r.length]; exact len _ _ _ _ q) fun cdv A outer s H vs Q E hr hsp => ?_⟩
  obtain ⟨ds, h, rr, rh, hs⟩ := hsp
  have ht := d cdv A outer s H E hr
  refine ⟨_, ht.run, dstart N ds, h, .start rr, rh, ht.mono _ _ _ _ ?_ (r ds h _ _ Cl.up hs)⟩
  exact ⟨fun τ h q σ' H' rs rh k => q .non H' rfl rh k, fun d h q v H' r rh k => q v H' r rh k, fun _ _ z => z.elim, fun _ _ z => z.elim, fun τ C d h q σ' H' rs rh k => q H' rh k⟩
def dMethX (C m : Str) (sp : SpD) (te : DTE) (t : DTA) : DXTE := fun τ h Q E => te τ h fun x h1 => ∃ a fs, x = .ref a ∧ h1 a = some (.ins C fs) ∧ fs.lookup m = none ∧ t τ h1 fun ds h2 => sp (x :: ds) h2 Q E
def dMakeX (C : Str) (sp : SpD) (t : DTA) : DXTE := fun τ h Q E => t τ h fun ds h1 => ∀ x, h1 x = none → sp (.ref x :: ds) (updD h1 x (.ins C [])) (fun v h2 => v = .non ∧ Q (.ref x) h2) E
section
variable {X : Cx} {W : WX} {C m f : Str} {fs : List Str} {o e : Expr} {es : List Expr} {te : DTE} {t : DTA} {sp : SpD} {k : Nat} {ps : List Str} {p pos apos : Pos}
theorem methX_lift (ms : MonoSp sp) (mx : MonoX sp) (mo : Mono te) (ma : Mono t) {σ : L2.St} {H : Hp} {Q : VK} (q : LEX X.K W (dMethX C m sp te t) σ H Q) : tMethXS (He.ga X.K C) m (LSp X.K sp) (WE W) (LE X.K te) (LA X.K t) σ H Q := by
  obtain ⟨τ, h, rs, rh, q⟩ := q
  refine LE.of mo rs rh q fun x h1 v H1 q1 r1 rh1 k1 => ?_
  obtain ⟨a, gs, rfl, e2, e3, q⟩ := q1
  cases rep_ref r1
  obtain ⟨dx, vs, ev, rv⟩ := rh1.ins e2
  refine ⟨a, dx, vs, rfl, ev, repKV_none rv e3, ?_⟩
  refine LA.of ma (rs.tk k1) rh1 q fun ds h2 us H2 q2 r2 rh2 k2 => ?_
  exact ⟨_, h2, Reps.cons (d := .ref a) (show Rep _ _ (.ref a) (.ref a) from rfl) r2, rh2, ms _ _ _ _ _ (fun _ _ c => c.tk (k1.trans k2)) (mx _ _ _ _ _ (fun _ _ _ c => ClF.tk (k1.trans k2) c) q2)⟩
theorem methX_mono (ms : MonoSp sp) (mx : MonoX sp) (mo : Mono te) (ma : Mono t) : ∀ τ h Q Q' E E', (∀ d h', Q d h' → Q' d h') → (∀ C d h', E C d h' → E' C d h') → dMethX C m sp te t τ h Q E → dMethX C m sp te t τ h Q' E' :=
  fun τ h Q Q' E E' k1 k2 q => mo _ _ _ _ (fun x h1 ⟨a, gs, e1, e2, e3, q⟩ => ⟨a, gs, e1, e2, e3, ma _ _ _ _ (fun ds h2 q => ms _ _ _ _ _ k1 (mx _ _ _ _ _ k2 q)) q⟩) q
theorem dx_meth {pl : Sem Bool} (T : ClsF X.K C fs) (F : HasMX X.prog X.w X.K X.mg X.base C m k ps sp) (tk : L2N.Takes X W) (hr : Room k X.A) (ho : DE X o te) (ha : DA X (e :: es) t)
    (hst : starEach (e :: es) X.env = (false, eval e X.env) :: starEach es X.env := by rfl) (hpl : (backTo pos (starEach es X.env)).any (·.1) = false := by rfl)
    (ht : eval (.Call (.Attribute o m apos) (e :: es) [] pos) X.env = (do
      let ov ← eval o X.env
      standAt apos.atName
      let (f, first) ← holding [ov] (getMethod ov m pl)
      callWith pos f first (backTo pos (starEach (e :: es) X.env)) (backToKw pos (keywordEach [] X.env))) := by rfl) :
    DX X W (.Call (.Attribute o m apos) (e :: es) [] pos) (dMethX C m sp te t) := by
  obtain ⟨fd, b, c⟩ := F.ok
  exact ⟨(pe_methXS (E := WE W) ho.run T.c F.at_ c hr b (L2N.passAt tk) ha.run hst hpl ht).wk fun σ H Q q => methX_lift F.ms F.mx ho.mono ha.mono q, methX_mono F.ms F.mx ho.mono ha.mono⟩
theorem dx_meth0 {pl : Sem Bool} (T : ClsF X.K C fs) (F : HasMX X.prog X.w X.K X.mg X.base C m k ps sp) (tk : L2N.Takes X W) (hr : Room k X.A) (ho : DE X o te)
    (ht : eval (.Call (.Attribute o m apos) [] [] pos) X.env = (do
      let ov ← eval o X.env
      standAt apos.atName
      let (f, first) ← holding [ov] (getMethod ov m pl)
      callWith pos f first (backTo pos (starEach [] X.env)) (backToKw pos (keywordEach [] X.env))) := by rfl) :
    DX X W (.Call (.Attribute o m apos) [] [] pos) (dMethX C m sp te dNil) := by
  obtain ⟨fd, b, c⟩ := F.ok
  refine ⟨(pe_methXS0 (E := WE W) ho.run T.c F.at_ c hr b (L2N.passAt tk) ht).wk fun σ H Q q => ?_, methX_mono F.ms F.mx ho.mono (fun τ h Q Q' k q => k _ _ q)⟩
  obtain ⟨τ, h, rs, rh, q⟩ := q
  refine LE.of ho.mono rs rh q fun x h1 v H1 q1 r1 rh1 k1 => ?_
  obtain ⟨a, gs, rfl, e2, e3, q⟩ := q1
  cases rep_ref r1
  obtain ⟨dx, vs, ev, rv⟩ := rh1.ins e2
  refine ⟨a, dx, vs, rfl, ev, repKV_none rv e3, ?_⟩
  exact ⟨_, h1, Reps.cons (d := .ref a) (show Rep _ _ (.ref a) (.ref a) from rfl) Reps.nil, rh1, F.ms _ _ _ _ _ (fun _ _ c => c.tk k1) (F.mx _ _ _ _ _ (fun _ _ _ c => ClF.tk k1 c) q)⟩
/-- .. where it lets nothing out -/
theorem de_methN {pl : Sem Bool} (T : ClsF X.K C fs) (F : HasMX X.prog X.w X.K X.mg X.base C m k ps sp) (hr : Room k X.A) (ho : DE X o te) (ha : DA X (e :: es) t)
    (hst : starEach (e :: es) X.env = (false, eval e X.env) :: starEach es X.env := by rfl) (hpl : (backTo pos (starEach es X.env)).any (·.1) = false := by rfl)
    (ht : eval (.Call (.Attribute o m apos) (e :: es) [] pos) X.env = (do
      let ov ← eval o X.env
      standAt apos.atName
      let (f, first) ← holding [ov] (getMethod ov m pl)
      callWith pos f first (backTo pos (starEach (e :: es) X.env)) (backToKw pos (keywordEach [] X.env))) := by rfl) :
    DE X (.Call (.Attribute o m apos) (e :: es) [] pos) (dMeth C m sp te t) := by
  obtain ⟨fd, b, c⟩ := F.ok
  refine ⟨(pe_meth (E := E0) (ds := []) (dvs := []) ho.run T.c F.at_ c hr b .nil passN ha.run hst hpl ht).wk fun σ H Q q => ?_, fun τ h Q Q' k q => ho.mono _ _ _ _ (fun x h1 ⟨a, gs, e1, e2, e3, q⟩ => ⟨a, gs, e1, e2, e3, ha.mono _ _ _ _ (fun ds h2 q E => F.ms _ _ _ _ _ k (q E)) q⟩) q⟩
  obtain ⟨τ, h, rs, rh, q⟩ := q
  refine LE.of ho.mono rs rh q fun x h1 v H1 q1 r1 rh1 k1 => ?_
  obtain ⟨a, gs, rfl, e2, e3, q⟩ := q1
  cases rep_ref r1
  obtain ⟨dx, vs, ev, rv⟩ := rh1.ins e2
  refine ⟨a, dx, vs, rfl, ev, repKV_none rv e3, ?_⟩
  refine LA.of ha.mono (rs.tk k1) rh1 q fun ds h2 us H2 q2 r2 rh2 k2 => ?_
  rw [List.append_nil]
  exact ⟨_, h2, Reps.cons (d := .ref a) (show Rep _ _ (.ref a) (.ref a) from rfl) r2, rh2, F.ms _ _ _ _ _ (fun _ _ c => c.tk (k1.trans k2)) (q2 _)⟩
theorem dx_make (M : Mk X.K (He.ga X.K C) (He.ma X.K (He.ga X.K C) "__init__")) (F : HasMX X.prog X.w X.K X.mg X.base C "__init__" k ps sp) (tk : L2N.Takes X W) (hr : Room (k + 1) X.A) (hg : Gl X C) (hm : X.mg C = some (.ref (He.ga X.K C))) (ha : DA X (e :: es) t)
    (hdb : (C == ("__debug__" : Str)) = false := by decide) (he : starEach (e :: es) X.env = (false, eval e X.env) :: starEach es X.env := by rfl) (hpl : (backTo pos (starEach es X.env)).any (·.1) = false := by rfl) :
    DX X W (.Call (.Name C p) (e :: es) [] pos) (dMakeX C sp t) := by
  obtain ⟨fd, b, c⟩ := F.ok
  refine ⟨(pe_makeXS (E := WE W) M c hr hg hm b (L2N.passAt tk) ha.run hdb he hpl).wk fun σ H Q q => ?_, fun τ h Q Q' E E' k1 k2 q => ha.mono _ _ _ _ (fun ds h1 q x nx => F.ms _ _ _ _ _ (fun d h2 ⟨e, q⟩ => ⟨e, k1 _ _ q⟩) (F.mx _ _ _ _ _ k2 (q x nx))) q⟩
  obtain ⟨τ, h, rs, rh, q⟩ := q
  refine LA.of ha.mono rs rh q fun ds h1 us H1 q1 r1 rh1 k1 x dx nx nd ne => ?_
  have n1 : upd H1 dx (.own x) x = none := by rw [upd_ne ne.symm]; exact nx
  have kk : TK H1 (upd (upd H1 dx (.own x)) x (.ins (He.ga X.K C) dx [])) := (TK.new nd).trans (TK.new n1)
  refine ⟨.ref x :: ds, updD h1 x (.ins C []), ⟨_, _, rfl, rfl, r1.tk kk⟩, (rh1.skip nd).new n1 ⟨dx, [], upd_same, .nil⟩, F.ms _ _ _ _ _ (fun d h2 ⟨e, q⟩ v H2 r2 rh2 k2 => ?_) (F.mx _ _ _ _ _ (fun _ _ _ c => ClF.tk (k1.trans kk) c) (q1 x (rh1.free nx)))⟩
  subst e
  cases (show _ = _ from r2)
  exact ⟨rfl, q (.ref x) H2 rfl rh2 (k1.trans (kk.trans k2))⟩
/-- .. where it lets nothing out -/
theorem de_makeN (M : Mk X.K (He.ga X.K C) (He.ma X.K (He.ga X.K C) "__init__")) (F : HasMX X.prog X.w X.K X.mg X.base C "__init__" k ps sp) (hr : Room (k + 1) X.A) (hg : Gl X C) (hm : X.mg C = some (.ref (He.ga X.K C))) (ha : DA X (e :: es) t)
    (hdb : (C == ("__debug__" : Str)) = false := by decide) (he : starEach (e :: es) X.env = (false, eval e X.env) :: starEach es X.env := by rfl) (hpl : (backTo pos (starEach es X.env)).any (·.1) = false := by rfl) :
    DE X (.Call (.Name C p) (e :: es) [] pos) (dMake C sp t) :=
  let ⟨_, b, c⟩ := F.ok
  ⟨(pe_make (E := E0) (ds := []) (dvs := []) M c hr hg hm b .nil passN ha.run hdb he hpl).wk fun σ H Q q => make_lift F.ms ha.mono q, make_mono F.ms ha.mono⟩
end
/-! != of dicts -/
section
variable {prog : Program} {w : World} {K : Type} [DecidableEq K] {knd : KeyKind prog w K} {A : Around} {E : Value → Shared → Prop} {s : Shared}
theorem rcP_dictsNe {a b : Addr} {ka kb : List (K × Value)} {r : Bool} (ha : (a == sysModules) = false) (hb : (b == sysModules) = false)
    (da : s.heap.DictOf knd a ka) (db : s.heap.DictOf knd b kb) (hu : A.units < cLine) (hits : ka.length = kb.length → PySem.W.KeqHitsP prog w A.in1 s kb ka r) (E Q : Value → Shared → Prop) (h : Q (.bool (!(ka.length == kb.length && r))) s) : wpAny (model prog w) A (compareOp .NotEq (.ref a) (.ref b)) Q E s := by
  refine wpAny_richCompare_same_room (op := .NotEq) da.typeIs db.typeIs PySem.F.slot_dict_ne (wpAny_call_entry PySem.F.slot_dict_ne da.typeIs PySem.F.entry_dict_ne ?_ (PySem.F.args_dict_ne_2 _ _)) hu
  show wpAny _ _ (Builtin.Dict.dictSlotArgs "__ne__" ⟨[.ref a, .ref b], []⟩ >>= _) _ _ s
  refine wpAny_bind ?_
  unfold Builtin.Dict.dictSlotArgs
  refine wpAny_bind (PySem.wpAny_notOrdered_dict da.typeIs ?_)
  show wpAny _ _ (pure (Value.ref a, Value.ref b)) _ _ s
  refine wpAny_pure ?_
  refine wpAny_bind (wpAny_isInstance (T := "dict") db.typeIs PySem.F.sub_dict_dict ?_)
  simp only [Bool.not_true, Bool.false_eq_true, if_false]
  refine wpAny_bind (wpAny_pure (wpAny_bind (wpAny_pure ?_)))
  refine wpAny_bind (PySem.W.samePairsP ha hb da db hits ?_)
  refine wpAny_pure ⟨_, rfl, ?_, ?_⟩
  · exact fun x => nomatch x
  · simpa using h
end
def isDKF (h : DH) (a : Addr) (ks : List (Key × D)) : Prop := h a = some (.dK ks) ∨ h a = some (.fdK ks)
def neKD (x y : D) (h : DH) (Q : DK) : Prop := ∃ a b ks ls, x = .ref a ∧ y = .ref b ∧ isDKF h a ks ∧ isDKF h b ls ∧ KOk ks ∧ KOk ls ∧ Q (.bl (!kEq ks ls)) h
theorem RepH.rdK {K : PySem.W.Frag} {H : Hp} {h : DH} {a : Addr} {ks : List (Key × D)} (r : RepH K H h) (e : isDKF h a ks) : ∃ vs, Rd H a (.dK vs) ∧ RepKV K H ks vs := by
  rcases e with e | e
  · obtain ⟨vs, a1, a2⟩ := r.dK e
    exact ⟨vs, .inl a1, a2⟩
  · obtain ⟨od, vs, a1, a2⟩ := r a _ e
    exact ⟨vs, .inr ⟨od, a1⟩, a2⟩
theorem dop_neK {X : Cx} (hu : X.A.units + 65 < cLine) : DOp X (compareOp .NotEq) neKD := by
  refine ⟨fun pins s σ H x y u v dx dy h Q I e1 e2 r1 r2 rh q => ?_, fun x y h Q Q' k ⟨a, b, ks, ls, e1, e2, e3, e4, e5, e6, q⟩ => ⟨a, b, ks, ls, e1, e2, e3, e4, e5, e6, k _ _ q⟩⟩
  obtain ⟨a, b, ks, ls, rfl, rfl, f1, f2, o1, o2, q⟩ := q
  cases rep_ref r1
  cases rep_ref r2
  obtain rfl : u = Value.ref a := e1
  obtain rfl : v = Value.ref b := e2
  obtain ⟨vs, ea, rv⟩ := rh.rdK f1
  obtain ⟨ws, eb, rw'⟩ := rh.rdK f2
  obtain ⟨_, ya, va, ra, da⟩ := dk_rd I.hok ea
  obtain ⟨_, yb, vb, rb, db⟩ := dk_rd I.hok eb
  refine rcP_dictsNe (knd := mixKind X.prog X.w) (r := kvsEq ls ks) ya yb da db (by omega) (fun _ => hits_D I (by show X.A.units + 1 + 64 < cLine; omega) rw' rb o2 rv ra o1) _ _ ?_
  have l1 : va.length = ks.length := by rw [← ra.length]; exact (Paired.length rv).symm
  have l2 : vb.length = ls.length := by rw [← rb.length]; exact (Paired.length rw').symm
  rw [l1, l2]
  exact ⟨.bl _, H, I, rfl, Cl.same q rh rfl⟩
/-! x is True, x is not False: x a bool, None -/
def isBV (x y : V) : Option Bool := match x, y with
  | .bl a, .bl b => some (a == b)
  | .non, .bl _ => some false
  | _, _ => none
section
variable {X : Cx}
theorem op_isB : OpR X (compareOp .Is) (fun x y H Q => ∃ b, isBV x y = some b ∧ Q (.bl b) H) := by
  intro pins s σ H x y v u Q I rx ry h
  obtain ⟨b, e, q⟩ := h
  show wpAny _ _ ((isSame v u) >>= fun z => pure (Value.bool z)) _ _ s
  cases x with
  | bl a =>
    cases y with
    | bl c =>
      cases rx; cases ry
      cases e
      exact wpAny_bind (wpAny_isSame_plain rfl (wpAny_pure (fin_bl I q (by cases a <;> cases c <;> rfl))))
    | _ => cases e
  | non =>
    cases y with
    | bl c =>
      cases rx; cases ry
      cases e
      exact wpAny_bind (wpAny_isSame_plain rfl (wpAny_pure (fin_bl I q rfl)))
    | _ => cases e
  | _ => cases y <;> cases e
theorem op_isNotB : OpR X (compareOp .IsNot) (fun x y H Q => ∃ b, isBV x y = some b ∧ Q (.bl (!b)) H) := by
  intro pins s σ H x y v u Q I rx ry h
  obtain ⟨b, e, q⟩ := h
  show wpAny _ _ ((isSame v u) >>= fun z => pure (Value.bool (!z))) _ _ s
  cases x with
  | bl a =>
    cases y with
    | bl c =>
      cases rx; cases ry
      cases e
      exact wpAny_bind (wpAny_isSame_plain rfl (wpAny_pure (fin_bl I q (by cases a <;> cases c <;> rfl))))
    | _ => cases e
  | non =>
    cases y with
    | bl c =>
      cases rx; cases ry
      cases e
      exact wpAny_bind (wpAny_isSame_plain rfl (wpAny_pure (fin_bl I q rfl)))
    | _ => cases e
  | _ => cases y <;> cases e
def isBoD (x y : D) (h : DH) (Q : DK) : Prop := match x, y with
  | .bl a, .bl b => Q (.bl (a == b)) h
  | .non, .bl _ => Q (.bl false) h
  | _, _ => False
def isNotBoD (x y : D) (h : DH) (Q : DK) : Prop := match x, y with
  | .bl a, .bl b => Q (.bl (!(a == b))) h
  | .non, .bl _ => Q (.bl true) h
  | _, _ => False
theorem dop_isBo : DOp X (compareOp .Is) isBoD := by
  refine .of op_isB (fun H x y dx dy h Q r1 r2 rh q => ?_) (fun x y h Q Q' k q => ?_)
  · cases dx <;> cases dy <;> first | exact False.elim q | skip
    · cases (show _ = _ from r1); cases (show _ = _ from r2); exact ⟨_, rfl, Cl.same q rh rfl⟩
    · cases (show _ = _ from r1); cases (show _ = _ from r2); exact ⟨_, rfl, Cl.same q rh rfl⟩
  · cases x <;> cases y <;> first | exact False.elim q | exact k _ _ q
theorem dop_isNotBo : DOp X (compareOp .IsNot) isNotBoD := by
  refine .of op_isNotB (fun H x y dx dy h Q r1 r2 rh q => ?_) (fun x y h Q Q' k q => ?_)
  · cases dx <;> cases dy <;> first | exact False.elim q | skip
    · cases (show _ = _ from r1); cases (show _ = _ from r2); exact ⟨_, rfl, Cl.same q rh rfl⟩
    · cases (show _ = _ from r1); cases (show _ = _ from r2); exact ⟨_, rfl, Cl.same q rh rfl⟩
  · cases x <;> cases y <;> first | exact False.elim q | exact k _ _ q
end
end DL

/-! DTry2: try with several clauses, each with a name or without. -/
namespace L2N
open PySem PySem.Spec PyProof.Rows L2
abbrev Clause := Value × Option Nat × (Addr → Value → Option Addr → TS)
def asD (i : Option Nat) (D : Ends) : Ends := match i with
  | none => D
  | some i => { nx := fun σ' H' => D.nx (σ'.set i none) H', rt := D.rt, bk := fun σ' H' => D.bk (σ'.set i none) H', ct := fun σ' H' => D.ct (σ'.set i none) H' }
def asS (i : Option Nat) (a : Addr) (σ : St) : St := match i with
  | none => σ
  | some i => σ.set i (some (.ref a))
def wMix (K : PySem.W.Frag) (Wout : WX) (D : Ends) : List Clause → WX
  | [] => Wout
  | (c, i, ts) :: r => fun cls d σ H => ∃ b, PySem.W.exmOne K cls c = some b ∧ (b = true → ∀ a, H a = none → ts a cls d (asD i D) (asS i a σ) H) ∧ (b = false → wMix K Wout D r cls d σ H)
inductive HdsMix (X : Cx) : List ExceptHandler → List Clause → Prop
  | nil : HdsMix X [] []
  | plain {x : Str} {c : Value} {ts : Addr → Value → Option Addr → TS} {b₀ : Stmt} {suite : List Stmt} {np pos' : Pos} {hds : List ExceptHandler} {l : List Clause} (hc : Names X x c)
      (hsu : ∀ (a : Addr) (oe : Obj) (cls : Value) (d : Option Addr) (pn : List (Addr × Obj)), Zn cls d oe → (∃ vs, oe.data = .fields vs) → PSs (X.suite a ((a, oe) :: pn)) (b₀ :: suite) (ts a cls d)) (r : HdsMix X hds l) :
      HdsMix X (.ExceptHandler (some (.Name x np)) none (b₀ :: suite) pos' :: hds) ((c, none, ts) :: l)
  | named {x n : Str} {i : Nat} {c : Value} {ts : Addr → Value → Option Addr → TS} {b₀ : Stmt} {suite : List Stmt} {np pos' : Pos} {hds : List ExceptHandler} {l : List Clause} (hN : X.N.Nodup) (hi : X.N[i]? = some n) (hln : X.env.kindOf n = some .local) (hc : Names X x c)
      (hsu : ∀ (a : Addr) (oe : Obj) (cls : Value) (d : Option Addr) (pn : List (Addr × Obj)), Zn cls d oe → (∃ vs, oe.data = .fields vs) → PSs (X.suite a ((a, oe) :: pn)) (b₀ :: suite) (ts a cls d)) (r : HdsMix X hds l) :
      HdsMix X (.ExceptHandler (some (.Name x np)) (some n) (b₀ :: suite) pos' :: hds) ((c, some i, ts) :: l)
section
variable {X : Cx} {body : List Stmt} {h₀ : ExceptHandler} {hds : List ExceptHandler} {l : List Clause} {pos : Pos} {tb : WX → TS} {Wout : WX}
theorem ps_try_mix (hs : X.stack = X.env :: X.outer) (hf : X.env.frame = some X.env.locals) (tk : Takes X Wout)
    (hb : ∀ (W : WX) (pn : List (Addr × Obj)) (xe : Value → Shared → Prop), Takes (X.tr pn xe) W → PassesOwn (model X.prog X.w) X.A X.env xe → PSs (X.tr pn xe) body (tb W))
    (hh : HdsMix X (h₀ :: hds) l) : PS X (.Try body (h₀ :: hds) [] [] pos) (fun D σ H => tb (wMix X.K Wout D l) D σ H) := by
  refine ⟨fun pins s σ H D I h => ?_⟩
  have ok := I.ok
  have hfr : X.A.frames = some (X.env :: X.outer) := by rw [ok.frames, hs]
  refine wpAny_Try_except ?_
  refine wpAny_mono ((hb (wMix X.K Wout D l) (X.pn ++ pins) (fun e s₁ => wpAny (model X.prog X.w) X.A (noteFrame e X.env) (fun _ s₂ => wpAny (model X.prog X.w) X.A (setFlight e none) (fun _ s₃ =>
    wpAny (model X.prog X.w) X.A (handleBy e X.env (h₀ :: hds)) (SP X pins D) X.xe s₃) X.xe s₂) X.xe s₁) (fun u s' xx => ?_) PassesOwn.looking).run [] s σ H D (I.toTry _) h) (fun f s1 hsp => ?_) (fun e s1 he => he)
  · obtain ⟨a, B, sI, pins', σ', H', cls, d, rfl, J', nb, up, sky, na, os, ag, w⟩ := xx
    have J : Inv X pins σ' H' sI := J'.ofTry ok
    have sky' : Sky B (X.env :: X.outer) a (Zn cls d) X.env.locals s'.heap := by rw [← hs]; exact sky
    show wpAny (model X.prog X.w) X.A (noteFrame (.ref a) X.env) _ _ _
    refine Sky.land Zn.steady hfr hf sky' fun h3 fl3 up3 => ?_
    have J3 : Inv X pins σ' H' { s' with heap := h3 } := J.landed nb fl3.1 (up.trans up3) os ag
    obtain ⟨oe3, vs3, he3, hz3, hd3⟩ := fl3.there
    have notFr : ∀ {h : Heap} {o : Obj} {vs : Array Value}, h.FunFrames B (X.env :: X.outer) → h.get? a = some o → o.data = .fields vs → a ∉ frs (X.env :: X.outer) := fun {h o vs} ff e dd hm => by
      obtain ⟨_, o', e', hnf⟩ := ff.mem hm
      rw [e] at e'; cases e'
      exact hnf _ dd
    have nfr := notFr fl3.2.2.1 he3 hd3
    have nL : a ≠ X.env.locals := fun z => nfr (List.mem_filterMap.mpr ⟨X.env, List.mem_cons_self, by rw [hf, z]⟩)
    have nF : a ∉ X.fs := fun hm => by
      obtain ⟨e, he, q⟩ := List.mem_filterMap.mp hm
      exact nfr (List.mem_filterMap.mpr ⟨e, List.mem_cons_of_mem _ he, q⟩)
    have S3 := J3.suite he3 hd3 na nL nF
    have LT : PySem.W.Looks (model X.prog X.w) h3 (typeOf (.ref a)) cls := fun A Q E s k q => wpAny_typeOf_ref (k _ _ he3) (by rw [hz3.1]; exact q)
    have test : ∀ {x : Str} {c : Value} {np : Pos}, Names X x c → ∀ {Q : Value → Shared → Prop} {E : Value → Shared → Prop}, Q c { s' with heap := h3 } → wpAny (model X.prog X.w) (X.A.mark (some (.ref a))) (eval (.Name x np) X.env) Q E { s' with heap := h3 } := fun {x c np} hc {Q E} q => by
      obtain ⟨hg, hdbg, hm | ⟨hm, hv, hnn⟩⟩ := hc
      · exact ld_glob (X := X.suite a ((a, oe3) :: (X.pn ++ pins))) S3 hg hm q hdbg
      · exact ld_blt (X := X.suite a ((a, oe3) :: (X.pn ++ pins))) S3 hg hm hv q hnn hdbg
    have go : ∀ {hds' : List ExceptHandler} {l' : List Clause}, HdsMix X hds' l' → wMix X.K Wout D l' cls d σ' H' →
        wpAny (model X.prog X.w) X.A (handleBy (.ref a) X.env hds') (SP X pins D) X.xe { s' with heap := h3 } := by
      intro hds' l' hk
      induction hk with
      | nil =>
        intro w
        refine wpAny_handleBy_nil ?_
        obtain ⟨k1, k2, k3, oe, vs, T, oT, ts', he, hz, hd, h1, hr⟩ := id fl3
        unfold PySem.passOn
        refine wpAny_bind (wpAny_field he hd h1 ?_)
        rw [if_neg (show ¬ ((Value.ref T == Value.none) = true) from by simp)]
        have fin : wpAny (model X.prog X.w) X.A (setFlight (.ref a) X.env.frame) (fun _ s4 => wpAny (model X.prog X.w) X.A (throw (.ref a) : Sem Flow) (SP X pins D) X.xe s4) X.xe { s' with heap := h3 } := by
          rw [hf]
          refine HandSPX.setFlight_upZ fl3 fun h4 hh4 up4 => wpAny_throw (tk _ _ ?_)
          exact ⟨a, B, sI, pins, σ', H', cls, d, rfl, J, nb, (up.trans up3).trans up4, .inr (.inr (by rw [hs]; exact hh4)), na, os, ag, w⟩
        first
          | exact wpAny_bind (wpAny_pure (wpAny_bind fin))
          | exact wpAny_bind fin
      | @plain x c ts b₀ suite np pos' hds2 l2 hc hsu r ih =>
        intro w
        obtain ⟨b, hb1, hyes, hno⟩ := w
        refine wpAny_handleBy_cons (codeAny_handlers_test ?_) (by intro q; cases q)
        have LM := PySem.W.exm_one (M := model X.prog X.w) (J3.kIn) LT hb1
        refine test hc (LM.here ?_)
        cases b with
        | true =>
          refine codeAny_handlers_suite ?_
          refine HandSPX.lands_againZ fl3 fun h4 fl4 up4 => ?_
          have J4 : Inv X pins σ' H' { s' with heap := h4 } := J.landed nb fl4.1 ((up.trans up3).trans up4) os ag
          obtain ⟨oe4, vs4, he4, hz4, hd4⟩ := fl4.there
          have S4 := J4.suite he4 hd4 na nL nF
          refine wpAny_mono ((hsu a oe4 cls d (X.pn ++ pins) hz4 ⟨_, hd4⟩).run [] _ _ H' _ S4 (hyes rfl a na)) (fun f s6 hsp => ?_) (fun _ _ z => False.elim z)
          cases f with
          | next =>
            obtain ⟨σ6, H6, S6, q6⟩ := hsp
            exact ⟨_, _, S6.unsuite ok, q6⟩
          | brk =>
            obtain ⟨σ6, H6, S6, q6⟩ := hsp
            exact ⟨_, _, S6.unsuite ok, q6⟩
          | cont =>
            obtain ⟨σ6, H6, S6, q6⟩ := hsp
            exact ⟨_, _, S6.unsuite ok, q6⟩
          | ret u =>
            obtain ⟨v6, σ6, H6, S6, r6, q6⟩ := hsp
            exact ⟨_, _, _, S6.unsuite ok, r6, q6⟩
        | false =>
          show wpAny _ X.A (handleBy (.ref a) X.env hds2) _ _ _
          exact ih (hno rfl)
      | @named x n i c ts b₀ suite np pos' hds2 l2 hN hi hln hc hsu r ih =>
        intro w
        obtain ⟨b, hb1, hyes, hno⟩ := w
        have hloc : Loc X.env.scope n := .inl hln
        refine wpAny_handleBy_cons (codeAny_handlers_test ?_) (by intro q; cases q)
        have LM := PySem.W.exm_one (M := model X.prog X.w) (J3.kIn) LT hb1
        refine test hc (LM.here ?_)
        cases b with
        | true =>
          refine codeAny_handlers_suite_as ?_
          refine HandSPX.lands_againZ fl3 fun h4 fl4 up4 => ?_
          have J4 : Inv X pins σ' H' { s' with heap := h4 } := J.landed nb fl4.1 ((up.trans up3).trans up4) os ag
          obtain ⟨oe4, vs4, he4, hz4, hd4⟩ := fl4.there
          have S4 := J4.suite he4 hd4 na nL nF
          refine store_ok (X := X.suite a ((a, oe4) :: (X.pn ++ pins))) (v := .ref a) S4 hN hi hloc rfl (fun s5 S5 => ?_) (.inr hln)
          refine wpAny_mono ((hsu a oe4 cls d (X.pn ++ pins) hz4 ⟨_, hd4⟩).run [] s5 _ H' _ S5 (hyes rfl a na)) (fun f s6 hsp => ?_) (fun _ _ z => False.elim z)
          have end_ : ∀ {σ6 : St} {H6 : Hp} {Q : Shared → Prop}, Inv (X.suite a ((a, oe4) :: (X.pn ++ pins))) [] σ6 H6 s6 → (∀ s7, Inv X pins (σ6.set i none) H6 s7 → Q s7) →
              wpAny (model X.prog X.w) X.A (do bindName X.env n .none; unbindBehindTheSuite X.env n pos') (fun _ s7 => Q s7) X.xe s6 := fun {σ6 H6 Q} S6 hq => gone_ok (S6.unsuite ok) hN hi hln hq
          cases f with
          | next =>
            obtain ⟨σ6, H6, S6, q6⟩ := hsp
            exact end_ S6 fun s7 J7 => ⟨_, _, J7, q6⟩
          | brk =>
            obtain ⟨σ6, H6, S6, q6⟩ := hsp
            exact end_ S6 fun s7 J7 => ⟨_, _, J7, q6⟩
          | cont =>
            obtain ⟨σ6, H6, S6, q6⟩ := hsp
            exact end_ S6 fun s7 J7 => ⟨_, _, J7, q6⟩
          | ret u =>
            obtain ⟨v6, σ6, H6, S6, r6, q6⟩ := hsp
            exact end_ S6 fun s7 J7 => ⟨_, _, _, J7, r6, q6⟩
        | false =>
          show wpAny _ X.A (handleBy (.ref a) X.env hds2) _ _ _
          exact ih (hno rfl)
    exact go hh w
  · cases f with
    | next =>
      obtain ⟨σ', H', J', q⟩ := hsp
      exact wpAny_execs_nil ⟨σ', H', J'.ofTry ok, q⟩
    | brk =>
      obtain ⟨σ', H', J', q⟩ := hsp
      exact ⟨σ', H', J'.ofTry ok, q⟩
    | cont =>
      obtain ⟨σ', H', J', q⟩ := hsp
      exact ⟨σ', H', J'.ofTry ok, q⟩
    | ret u =>
      obtain ⟨v, σ', H', J', r, q⟩ := hsp
      exact ⟨v, σ', H', J'.ofTry ok, r, q⟩
end
end L2N
namespace DL
open PySem PySem.Spec PyProof.Rows L2
abbrev DClause := List (Str × Bool) × Option Nat × (Addr → Str → Option Addr → DTS)
def asDD (i : Option Nat) (D : DEnds) : DEnds := match i with
  | none => { nx := D.nx, rt := D.rt, bk := D.bk, ct := D.ct }
  | some i => { nx := fun τ2 h2 => D.nx (τ2.set i none) h2, rt := D.rt, bk := fun τ2 h2 => D.bk (τ2.set i none) h2, ct := fun τ2 h2 => D.ct (τ2.set i none) h2 }
def asSD (i : Option Nat) (a : Addr) (τ : DSt) : DSt := match i with
  | none => τ
  | some i => τ.set i (some (.ref a))
def mixD (D : DEnds) : List DClause → DSt → DXK
  | [] => D.ex
  | (m, i, ts) :: r => fun τ' C d h' => ∃ b, exmD m C = some b ∧ (b = true → ∀ a, h' a = none → ts a C d (asDD i D) (asSD i a τ') h') ∧ (b = false → mixD D r τ' C d h')
def dTryMix (l : List DClause) (tb : DTS) : DTS := fun D τ h => tb { D with ex := mixD D l } τ h
inductive DHds (X : Cx) : List ExceptHandler → List DClause → Prop
  | nil : DHds X [] []
  | plain {x : Str} {m : List (Str × Bool)} {ts : Addr → Str → Option Addr → DTS} {b₀ : Stmt} {suite : List Stmt} {np pos' : Pos} {hds : List ExceptHandler} {l : List DClause} (hg : Gl X x) (hm : X.mg x = some (.ref (He.ga X.K x))) (ml : ExmL X.K x m)
      (hsu : ∀ (a : Addr) (oe : Obj) (C : Str) (d : Option Addr) (pn : List (Addr × Obj)), (C, true) ∈ m → L2N.Zn (.ref (He.ga X.K C)) d oe → (∃ vs, oe.data = .fields vs) → DSs (X.suite a ((a, oe) :: pn)) WN (b₀ :: suite) (ts a C d)) (r : DHds X hds l)
      (hdb : (x == ("__debug__" : Str)) = false := by decide) : DHds X (.ExceptHandler (some (.Name x np)) none (b₀ :: suite) pos' :: hds) ((m, none, ts) :: l)
  | named {x n : Str} {i : Nat} {m : List (Str × Bool)} {ts : Addr → Str → Option Addr → DTS} {b₀ : Stmt} {suite : List Stmt} {np pos' : Pos} {hds : List ExceptHandler} {l : List DClause} (hN : X.N.Nodup) (hi : X.N[i]? = some n) (hln : X.env.kindOf n = some .local) (hg : Gl X x) (hm : X.mg x = some (.ref (He.ga X.K x))) (ml : ExmL X.K x m)
      (hsu : ∀ (a : Addr) (oe : Obj) (C : Str) (d : Option Addr) (pn : List (Addr × Obj)), (C, true) ∈ m → L2N.Zn (.ref (He.ga X.K C)) d oe → (∃ vs, oe.data = .fields vs) → DSs (X.suite a ((a, oe) :: pn)) WN (b₀ :: suite) (ts a C d)) (r : DHds X hds l)
      (hdb : (x == ("__debug__" : Str)) = false := by decide) : DHds X (.ExceptHandler (some (.Name x np)) (some n) (b₀ :: suite) pos' :: hds) ((m, some i, ts) :: l)
section
variable {X : Cx} {W : WX} {body : List Stmt} {h₀ : ExceptHandler} {hds : List ExceptHandler} {l : List DClause} {pos : Pos} {tb : DTS}
theorem zn_any (C : Str) (d : Option Addr) : ∃ oe : Obj, L2N.Zn (.ref (He.ga X.K C)) d oe ∧ ∃ vs, oe.data = .fields vs :=
  ⟨{ cls := .ref (He.ga X.K C), dict := d, data := .fields #[.none, .none, .none] }, ⟨rfl, rfl, fun vs h => by cases h; rfl⟩, _, rfl⟩
theorem asDD_le {i : Option Nat} {D D' : DEnds} (le : D.Le D') : (asDD i D).Le (asDD i D') := by
  cases i with
  | none => exact ⟨le.nx, le.rt, le.bk, le.ct, fun _ _ _ _ z => z⟩
  | some i => exact ⟨fun _ _ c => le.nx _ _ c, le.rt, fun _ _ c => le.bk _ _ c, fun _ _ c => le.ct _ _ c, fun _ _ _ _ z => z⟩
theorem mixD_mono {D D' : DEnds} (le : D.Le D') (hk : DHds X hds l) : ∀ τ C d h, mixD D l τ C d h → mixD D' l τ C d h := by
  induction hk with
  | nil => exact fun τ C d h q => le.ex _ _ _ _ q
  | plain hg hm ml hsu r hdb ih =>
    rintro τ C d h ⟨b, eb, h1, h2⟩
    refine ⟨b, eb, fun bt a na => ?_, fun bf => ih _ _ _ _ (h2 bf)⟩
    subst bt
    obtain ⟨oe, z1, z2⟩ := zn_any (X := X) C d
    exact (hsu a oe C d [] (lookup_mem' eb) z1 z2).mono _ _ _ _ (asDD_le le) (h1 rfl a na)
  | named hN hi hln hg hm ml hsu r hdb ih =>
    rintro τ C d h ⟨b, eb, h1, h2⟩
    refine ⟨b, eb, fun bt a na => ?_, fun bf => ih _ _ _ _ (h2 bf)⟩
    subst bt
    obtain ⟨oe, z1, z2⟩ := zn_any (X := X) C d
    exact (hsu a oe C d [] (lookup_mem' eb) z1 z2).mono _ _ _ _ (asDD_le le) (h1 rfl a na)
/-- the clauses, below -/
theorem hds_low (hk : DHds X hds l) : ∃ l', L2N.HdsMix X hds l' ∧ ∀ (E : Ends) (H : Hp) (τ : DSt) (C : Str) (d : Option Addr) (h' : DH), mixD (ClE X.K W H E) l τ C d h' →
    ∀ σ' H', RepS X.K H' τ σ' → RepH X.K H' h' → TK H H' → L2N.wMix X.K W E l' (.ref (He.ga X.K C)) d σ' H' := by
  induction hk with
  | nil => exact ⟨[], .nil, fun E H τ C d h' q σ' H' rs rh k => q σ' H' rs rh k⟩
  | @plain x m ts b₀ suite np pos' hds l hg hm ml hsu r hdb ih =>
    obtain ⟨l', hx, lift⟩ := ih
    refine ⟨(.ref (He.ga X.K x), none, fun a cls d D σ H => ∃ C, cls = .ref (He.ga X.K C) ∧ (C, true) ∈ m ∧ LS X.K WN (ts a C d) D σ H) :: l', .plain ⟨hg, hdb, .inl hm⟩ (fun a oe cls d pn hz hv => ⟨fun pins s σ H D I h => ?_⟩) hx, ?_⟩
    · obtain ⟨C, rfl, hC, q⟩ := h
      exact (hsu a oe C d pn hC hz hv).run.run pins s σ H D I q
    · rintro E H τ C d h' ⟨b, eb, h1, h2⟩ σ' H' rs rh k
      refine ⟨b, ml _ (lookup_mem' eb), fun bt a na => ?_, fun bf => lift E H τ C d h' (h2 bf) σ' H' rs rh k⟩
      subst bt
      obtain ⟨oe, z1, z2⟩ := zn_any (X := X) C d
      refine ⟨C, rfl, lookup_mem' eb, τ, h', rs, rh, (hsu a oe C d [] (lookup_mem' eb) z1 z2).mono _ _ _ _ ?_ (h1 rfl a (rh.free na))⟩
      exact ⟨fun _ _ c => ClS.tk k c, fun _ _ c => Cl.tk k c, fun _ _ c => ClS.tk k c, fun _ _ c => ClS.tk k c, fun _ _ _ _ z => z.elim⟩
  | @named x n i m ts b₀ suite np pos' hds l hN hi hln hg hm ml hsu r hdb ih =>
    obtain ⟨l', hx, lift⟩ := ih
    refine ⟨(.ref (He.ga X.K x), some i, fun a cls d D σ H => ∃ C, cls = .ref (He.ga X.K C) ∧ (C, true) ∈ m ∧ LS X.K WN (ts a C d) D σ H) :: l', .named hN hi hln ⟨hg, hdb, .inl hm⟩ (fun a oe cls d pn hz hv => ⟨fun pins s σ H D I h => ?_⟩) hx, ?_⟩
    · obtain ⟨C, rfl, hC, q⟩ := h
      exact (hsu a oe C d pn hC hz hv).run.run pins s σ H D I q
    · rintro E H τ C d h' ⟨b, eb, h1, h2⟩ σ' H' rs rh k
      refine ⟨b, ml _ (lookup_mem' eb), fun bt a na => ?_, fun bf => lift E H τ C d h' (h2 bf) σ' H' rs rh k⟩
      subst bt
      obtain ⟨oe, z1, z2⟩ := zn_any (X := X) C d
      refine ⟨C, rfl, lookup_mem' eb, _, h', rs.set (d := .ref a) rfl i, rh, (hsu a oe C d [] (lookup_mem' eb) z1 z2).mono _ _ _ _ ?_ (h1 rfl a (rh.free na))⟩
      exact ⟨fun τ2 h2 c σ2 H2 r2 rh2 k2 => c _ H2 (r2.drop i) rh2 (k.trans k2), fun _ _ c => Cl.tk k c, fun τ2 h2 c σ2 H2 r2 rh2 k2 => c _ H2 (r2.drop i) rh2 (k.trans k2), fun τ2 h2 c σ2 H2 r2 rh2 k2 => c _ H2 (r2.drop i) rh2 (k.trans k2), fun _ _ _ _ z => z.elim⟩
theorem ds_tryMix (hs : X.stack = X.env :: X.outer) (hf : X.env.frame = some X.env.locals) (tk : L2N.Takes X W)
    (hb : ∀ (W : WX) (pn : List (Addr × Obj)) (xe : Value → Shared → Prop), L2N.Takes (X.tr pn xe) W → PassesOwn (model X.prog X.w) X.A X.env xe → DSs (X.tr pn xe) W body tb)
    (hk : DHds X (h₀ :: hds) l) : DS X W (.Try body (h₀ :: hds) [] [] pos) (dTryMix l tb) := by
  have mb : MonoS tb := (hb WN [] (fun _ _ => False) takes_nox PassesOwn.never).mono
  obtain ⟨l', hx, lift⟩ := hds_low (W := W) hk
  refine ⟨(L2N.ps_try_mix (tb := fun W => LS X.K W tb) hs hf tk (fun W pn xe t p => (hb W pn xe t p).run) hx).wk fun E σ H q => ?_, fun D D' τ h le q => ?_⟩
  · obtain ⟨τ, h, rs, rh, q⟩ := q
    unfold dTryMix at q
    refine ⟨τ, h, rs, rh, mb _ _ _ _ ?_ q⟩
    exact ⟨fun _ _ q => q, fun _ _ q => q, fun _ _ q => q, fun _ _ q => q, fun τ' C d h' q σ' H' rs' rh' k => lift E H τ' C d h' q σ' H' rs' rh' k⟩
  · unfold dTryMix at q ⊢
    refine mb _ _ _ _ ?_ q
    exact ⟨le.nx, le.rt, le.bk, le.ct, fun τ C d h q => mixD_mono le hk τ C d h q⟩
end
end DL

/-! DEqW: == of data nested up to 150 deep. -/
namespace DL
open PySem PySem.Spec PyProof.Rows L2
def EqOkW (x y : D) : Prop := okD x = true ∧ okD y = true ∧ min (dep x) (dep y) ≤ 150
def eqWD (x y : D) (h : DH) (Q : DK) : Prop := ∃ d e, datD h x = some d ∧ datD h y = some e ∧ EqOkW d e ∧ Q (.bl (deq d e)) h
section
variable {X : Cx}
theorem u150 {k : Nat} {A : Around} (r : Room k A) : A.units + 150 < cLine := by have := r.un; omega
theorem dop_eqW (hu : X.A.units + 150 < cLine) : DOp X (compareOp .Eq) eqWD := by
  refine ⟨fun pins s σ H x y u v dx dy h Q I e1 e2 r1 r2 rh q => ?_, fun x y h Q Q' k ⟨d, e, a, b, c, q⟩ => ⟨d, e, a, b, c, k _ _ q⟩⟩
  obtain ⟨d, e, a, b, ⟨c1, c2, c3⟩, q⟩ := q
  obtain ⟨as, p1⟩ := Dp.reads I _ x u (datD_dp rh a c1 r1) e1
  obtain ⟨bs, p2⟩ := Dp.reads I _ y v (datD_dp rh b c2 r2) e2
  refine SeqAt.compareEq_reads p1 p2 (py_lay _ c1) (py_lay _ c2) ?_ ⟨.bl _, H, I, rfl, ?_⟩
  · rw [py_dep _ c1, py_dep _ c2]; omega
  · rw [py_eqv _ _ c1 c2]; exact Cl.same q rh rfl
end
end DL

/-! DTup: dicts whose keys are tuples of ints and texts; a module's constant dict with text keys. -/
namespace DL
open PySem PySem.Spec PyProof.Rows L2

section
variable {κ α : Type} [DecidableEq κ]
def getT (kvs : List (κ × α)) (k : κ) : Option α := (kvs.find? fun kv => decide (kv.1 = k)).map (·.2)
def setT (kvs : List (κ × α)) (k : κ) (v : α) : List (κ × α) :=
  if (kvs.any fun kv => decide (kv.1 = k)) = true then kvs.map (fun kv => if kv.1 = k then (kv.1, v) else kv) else kvs ++ [(k, v)]
end
section
variable {κ : Type} [DecidableEq κ] {K : PySem.W.Frag} {H : Hp} {ds : List (κ × D)} {vs : List (κ × V)} {k : κ}
theorem tv_get (r : RepKV K H ds vs) : (∀ d, getT ds k = some d → ∃ v, valV vs k = some v ∧ Rep K H d v) ∧ (getT ds k = none → valV vs k = none) := by
  induction r with
  | nil => exact ⟨fun d e => (by cases e), fun _ => rfl⟩
  | @cons p q _ _ pq _ ih =>
    obtain ⟨g, d1⟩ := p
    obtain ⟨g', v1⟩ := q
    obtain ⟨e1, r1⟩ := pq
    simp only at e1 r1
    subst e1
    by_cases z : g = k
    · unfold getT valV
      simp only [List.find?_cons, z, decide_true, Option.map_some, Option.some.injEq]
      exact ⟨fun d e => ⟨v1, rfl, e ▸ r1⟩, fun e => (by cases e)⟩
    · unfold getT valV at ih ⊢
      simp only [List.find?_cons, z, decide_false]
      exact ih
theorem tv_getD {z : D} {w : V} (r : RepKV K H ds vs) (q : Rep K H z w) : Rep K H ((getT ds k).getD z) ((valV vs k).getD w) := by
  cases e : getT ds k with
  | none => rw [(tv_get r).2 e]; exact q
  | some d =>
    obtain ⟨v, e2, rv⟩ := (tv_get r).1 d e
    rw [e2]; exact rv
theorem tv_any (r : RepKV K H ds vs) : (ds.any fun kv => decide (kv.1 = k)) = vs.any fun kv => decide (kv.1 = k) := by
  induction r with
  | nil => rfl
  | cons pq _ ih => rw [List.any_cons, List.any_cons, ih, pq.1]
theorem tv_app {p : κ × D} {q : κ × V} (r : RepKV K H ds vs) (pq : p.1 = q.1 ∧ Rep K H p.2 q.2) : RepKV K H (ds ++ [p]) (vs ++ [q]) := by
  induction r with
  | nil => exact .cons pq .nil
  | cons h _ ih => exact .cons h ih
theorem tv_map {d : D} {v : V} (r : RepKV K H ds vs) (q : Rep K H d v) : RepKV K H (ds.map fun kv => if kv.1 = k then (kv.1, d) else kv) (vs.map fun kv => if kv.1 = k then (kv.1, v) else kv) := by
  induction r with
  | nil => exact .nil
  | cons pq _ ih =>
    refine .cons ?_ ih
    dsimp only
    rw [pq.1]
    split
    · exact ⟨rfl, q⟩
    · exact pq
theorem tv_set {d : D} {v : V} (r : RepKV K H ds vs) (q : Rep K H d v) : RepKV K H (setT ds k d) (putK vs k v) := by
  unfold setT putK
  rw [tv_any r]
  split
  · exact tv_map r q
  · exact tv_app r ⟨rfl, q⟩
end
/-- the keys that a tuple's items are -/
def keysD : List D → Option (List Key)
  | [] => some []
  | d :: ds => match keyD d, keysD ds with
    | some k, some ks => some (k :: ks)
    | _, _ => none
theorem keysD_V {K : PySem.W.Frag} {H : Hp} : ∀ {ds : List D} {vs : List V} {ks : List Key}, Reps K H ds vs → keysD ds = some ks → vs = ks.map kV
  | [], vs, ks, r, e => by cases e; exact r
  | d :: ds, vs, ks, r, e => by
    obtain ⟨x, xs, rfl, r1, r2⟩ := r
    unfold keysD at e
    split at e
    · rename_i k ks' e1 e2
      cases e
      rw [keyD_V r1 e1, keysD_V r2 e2]
      rfl
    · cases e
theorem keysD_ints (ns : List Int) : keysD (ns.map D.int) = some (ns.map Sum.inl) := by
  induction ns with
  | nil => rfl
  | cons n ns ih => rw [List.map_cons, keysD, ih]; rfl
theorem RepH.dT {K : PySem.W.Frag} {H : Hp} {h : DH} {a : Addr} {kvs : List (List Key × D)} (r : RepH K H h) (e : h a = some (.dT kvs)) : ∃ vs, H a = some (.dT vs) ∧ RepKV K H kvs vs := r a _ e
theorem dmutT {H : Hp} {a : Addr} {vs : List (List Key × V)} (e : H a = some (.dT vs)) : Mut (H a) := by rw [e]; exact True.intro
theorem kt_val {H : Hp} {kvs : List (List Key × V)} {xs : List (List Key × Addr × Value)} {k : List Key} {z : V} {r : Value} (t : KT H kvs xs) (rz : RelV z r) : RelV ((valV kvs k).getD z) (((atKey xs k).map (·.2)).getD r) := by
  induction t with
  | nil => exact rz
  | @cons p q ps qs pq _ ih =>
    obtain ⟨g, v⟩ := p
    obtain ⟨g', a, u⟩ := q
    obtain ⟨e1, e2, e3⟩ := pq
    simp only at e1 e2 e3
    subst e1
    by_cases h : g = k
    · subst h
      simpa [valV, atKey] using e3
    · simpa [valV, atKey, h] using ih
/-- d.get(t, z), t a tuple -/
def rGetT (K : PySem.W.Frag) : V → List V → Hp → VK → Prop := fun x xs H Q => ∃ a kvs b ks z, x = .ref a ∧ xs = [.ref b, z] ∧ Rd H a (.dT kvs) ∧ SqT K H b (ks.map kV) ∧ Q ((valV kvs ks).getD z) H
theorem mt_getT {X : Cx} (hu : X.A.units + 1 < cLine) : MtR X "dict.get" (rGetT X.K) := by
  intro pins s σ H x xs v us Q I r1 r2 ⟨a, kvs, b, ks, z, e1, e2, rd, sq, q⟩
  subst e1 e2
  obtain rfl : v = Value.ref a := r1
  rcases us with _ | ⟨u, _ | ⟨w, _ | ⟨_, _⟩⟩⟩
  · cases r2
  · cases r2 with
    | cons _ r => cases r
  rotate_left
  · cases r2 with
    | cons _ r => cases r with
      | cons _ r => cases r
  obtain ⟨hb, hz⟩ : RelV (.ref b) u ∧ RelV z w := by
    cases r2 with
    | cons r0 r => cases r with
      | cons r1 r => exact ⟨r0, r1⟩
  obtain rfl : u = Value.ref b := hb
  obtain ⟨_, hm, ys, kt, dof⟩ := dt_rd I.hok rd
  obtain ⟨its, rv, tp, hl⟩ := I.tuple sq
  obtain ⟨o, ho, hc, n, hd⟩ := tp
  have ky : (tupleKind (mixKind X.prog X.w)).is s.heap ks b := ⟨o, its.toArray, n, ho, hc, hd, items_are rv⟩
  exact call_meetsIn PySem.F.slot_dict_get dof.typeIs PySem.F.entry_dict_get (PySem.F.args_dict_get_3 _ _ _) (meetsH_dict_get_default (tupleKind (mixKind X.prog X.w)) a b hm w)
    ⟨tupleKind_room_in1 hu, ks, ys, ky, dof, ⟨_, H, I.kept (fun _ _ e => e), kt_val kt hz, q⟩⟩
def isDT : D → DH → Prop := fun d h => ∃ a kvs, d = .ref a ∧ h a = some (.dT kvs)
def getTD : RDM := fun x vs h Q => ∃ a kvs ds ks z, x = .ref a ∧ vs = [.tup ds, z] ∧ h a = some (.dT kvs) ∧ keysD ds = some ks ∧ Q ((getT kvs ks).getD z) h
theorem dm_getT {X : Cx} (hu : X.A.units + 1 < cLine) : DMt X "dict" "dict.get" isDT getTD := by
  refine ⟨fun H h d v r rh t => ?_, fun pins s σ H x xs v us Q I r1 r2 ⟨d, ds, h, p1, p2, rh, q⟩ => mt_getT hu pins s σ H x xs v us Q I r1 r2 ?_, fun x ds h Q Q' k q => ?_⟩
  · obtain ⟨a, kvs, rfl, e⟩ := t
    cases rep_ref r
    obtain ⟨vs, ea, _⟩ := rh.dT e
    exact .inr (.inr (.inl ⟨rfl, .inr ⟨_, ea⟩⟩))
  · obtain ⟨a, kvs, es, ks, z, rfl, rfl, e, ek, q⟩ := q
    cases rep_ref p1
    obtain ⟨vs, ea, rv⟩ := rh.dT e
    obtain ⟨y, ys, rfl, ry, rys⟩ := p2
    obtain ⟨w, ws, rfl, rw', rws⟩ := rys
    cases (show _ = _ from rws)
    obtain ⟨b, bs, rfl, sq, rbs⟩ := ry
    rw [keysD_V rbs ek] at sq
    exact ⟨a, vs, b, ks, w, rfl, rfl, .inl ea, sq, q _ _ (tv_getD rv rw') rh (.refl H)⟩
  · obtain ⟨a, kvs, es, ks, z, e1, e2, e, ek, q⟩ := q
    exact ⟨a, kvs, es, ks, z, e1, e2, e, ek, k _ _ q⟩
section
variable {X : Cx} {W : WX} {o i e f value : Expr} {es : List Expr} {pos pos' p1 tpos apos cpos : Pos} {td ty tv tx te : DTE} {t : DTA} {x1 : Nat}
theorem de_getT (hu : X.A.units + 1 < cLine) (ho : DE X o td) (he : DE X e ty) (hf : DE X f tx) (hbase : attributeBase o "get" X.env (eval o X.env) = eval o X.env := by rfl)
    (hfew : ((backTo cpos (starEach [e, f] X.env)).all (fun x => !x.1) && (backToKw cpos (keywordEach [] X.env)).all (fun x => x.1.isSome)
      && decide ([e, f].length + ([] : List Keyword).length + (if ([] : List Keyword).isEmpty then 0 else 1) < 30)) = true := by rfl)
    (hline : (apos.endLine == cpos.line) = true := by rfl) (hs : starEach [e, f] X.env = (false, eval e X.env) :: starEach [f] X.env := by rfl) (hs2 : starEach [f] X.env = (false, eval f X.env) :: starEach [] X.env := by rfl) (hplain : (backTo cpos (starEach [f] X.env)).any (·.1) = false := by rfl) :
    DE X (.Call (.Attribute o "get" apos) [e, f] [] cpos) (dBM isDT getTD td (dCons ty (dCons tx dNil))) :=
  de_bm PySem.F.plainAttrs_dict PySem.F.slot_dict_get PySem.F.type_dict_get (dm_getT hu) ho (da_cons he (da_cons hf da_nil hs2) hs) hbase hfew hline hs hplain
/-- {} that will hold tuple keys -/
def dDNewT : DTE := fun _ h Q => ∀ p, h p = none → Q (.ref p) (updD h p (.dT []))
theorem de_dnewT : DE X (.Dict [] [] pos) dDNewT := by
  refine ⟨pe_dnewT.wk fun σ H Q q => ?_, fun τ h Q Q' k q p n => k _ _ (q p n)⟩
  obtain ⟨τ, h, rs, rh, q⟩ := q
  exact fun p n => q p (rh.free n) _ _ rfl (rh.new n ⟨[], upd_same, .nil⟩) (.new n)
/-- d[x, y] = v -/
def dDPutT (td : DTE) (t : DTA) (tv : DTE) : DTS := fun D τ h => tv τ h fun v h1 => td τ h1 fun x h2 => t τ h2 fun ks h3 => ∃ a kvs k, x = .ref a ∧ h3 a = some (.dT kvs) ∧ keysD ks = some k ∧ ks.length ≤ sizeLine ∧ kvs.length < sizeLine ∧ D.nx τ (updD h3 a (.dT (setT kvs k v)))
theorem ds_dputT (hu : X.A.units + 1 < cLine) (ho : DE X o td) (ha : DA X es t) (hv : DE X value tv) (hs : swapsWith value (some (.Subscript o (.Tuple es x1 p1) pos')) pos.line X.env = pure false := by rfl) : DS X W (.Assign [.Subscript o (.Tuple es x1 p1) pos'] value pos) (dDPutT td t tv) := by
  refine ⟨(ps_dput hu ho.run (pe_tup ha.run) hv.run hs).wk fun E σ H q => ?_, fun D D' τ h le q => hv.mono _ _ _ _ (fun v h1 q => ho.mono _ _ _ _ (fun x h2 q => ha.mono _ _ _ _ (fun y h3 ⟨a, kvs, k, e1, e2, e3, l1, l, q⟩ => ⟨a, kvs, k, e1, e2, e3, l1, l, le.nx _ _ q⟩) q) q) q⟩
  obtain ⟨τ, h, rs, rh, q⟩ := q
  refine LE.of hv.mono rs rh q fun v h1 u H1 q1 r1 rh1 k1 => ?_
  refine LE.of ho.mono (rs.tk k1) rh1 q1 fun x h2 w H2 q2 r2 rh2 k2 => ?_
  refine LA.of ha.mono (rs.tk (k1.trans k2)) rh2 q2 fun ds h3 zs H3 q3 r3 rh3 k3 => ?_
  obtain ⟨a, kvs, k, rfl, e2, e3, l1, l, q⟩ := q3
  refine ⟨by rw [r3.length]; exact l1, fun p n => ?_⟩
  cases rep_ref r2
  obtain ⟨vs, ev, rv⟩ := rh3.dT e2
  rw [keysD_V r3 e3]
  have na : a ≠ p := ne_of_none ev n
  have kp : TK H3 (upd H3 p (.tup (k.map kV))) := .new n
  have ev' : upd H3 p (.tup (k.map kV)) a = some (.dT vs) := by rw [upd_ne na]; exact ev
  have m := dmutT ev'
  have kk := (((k1.trans k2).trans k3).trans kp).trans (TK.mut (o := .dT (putK vs k u)) m)
  refine ⟨a, _, rfl, .inr ⟨vs, k, p, ev', rfl, upd_same, by rw [← Paired.length rv]; exact l, rfl⟩, q σ _ (rs.tk kk) ((rh3.skip n).mut m ⟨_, upd_same, ?_⟩) kk⟩
  exact RepKV.tk (.mut m) (tv_set (rv.tk kp) (r1.tk ((k2.trans k3).trans kp)))
end
/-! {(): v} -/
theorem evalPairs_one {X : Cx} {k v : Sem Value} {Q : List (Value × Value) → Shared → Prop} {s : Shared} (h : wpAny (model X.prog X.w) X.A k (fun a s1 => wpAny (model X.prog X.w) X.A v (fun b s2 => Q [(a, b)] s2) X.xe s1) X.xe s) :
    wpAny (model X.prog X.w) X.A (evalPairs [(k, v)]) Q X.xe s := by
  simp only [evalPairs]
  refine wpAny_bind (wpAny_mono h (fun a s1 h1 => wpAny_bind (wpAny_holding (wpAny_mono h1 (fun b s2 h2 => ?_) fun _ _ e => e))) fun _ _ e => e)
  exact wpAny_bind (wpAny_holding (wpAny_pure (wpAny_pure h2)))
def tDispT1 (te : TE) : TE := fun σ H Q => ∀ p, H p = none → ∀ b, upd H p (.dT []) b = none → te σ (upd (upd H p (.dT [])) b (.tup [])) fun v H1 => H1 p = some (.dT []) ∧ H1 b = some (.tup []) ∧ Q (.ref p) (upd H1 p (.dT [([], v)]))
theorem eval_disp1 (k e : Expr) (pos : Pos) (env : Env) : eval (.Dict [some k] [e] pos) env = (do standAt pos; dictDisplay [(some (eval k env), (do let x ← eval e env; standAt pos; pure x))]) := by
  simp only [eval, evalEach, evalEachOpt, evalOpt, List.map, List.zip, List.zipWith]
theorem disp1 (k v : Sem Value) : dictDisplay [(some k, v)] = (do let d ← subDict [(k, v)]; pure (Value.ref d)) := dictDisplay_pairs [(k, v)] (by simp) (by simp)
theorem pe_dispT1 {X : Cx} {e : Expr} {te : TE} {pos p1 : Pos} {x1 : Nat} (hu : X.A.units + 1 < cLine) (he : PE X e te) : PE X (.Dict [some (.Tuple [] x1 p1)] [e] pos) (tDispT1 te) := by
  refine ⟨fun pins s σ H Q I h => ?_⟩
  rw [eval_disp1, disp1]
  refine wpAny_bind (wpAny_standAt (wpAny_bind ?_))
  unfold subDict
  refine wpAny_bind (wpAny_alloc ?_)
  have big := I.big
  have n0 : H s.heap.objs.size = none := I.hok.fresh (Nat.le_refl _)
  have I1 : Inv X pins σ (upd H s.heap.objs.size (.dT [])) { s with heap := s.heap.push { cls := .type "dict", data := .dict #[] } } := I.laid (t' := s.toks) (fun b o e => Heap.get?_push_of_some _ e) (Nat.le_refl _) (dt_empty s.heap big)
  refine wpAny_bind (wpAny_holding ?_)
  rw [if_pos (by simp)]
  let QK : VK := fun u H' => ∃ b, u = .ref b ∧ H' b = some (.tup []) ∧ te σ H' fun v H1 => H1 s.heap.objs.size = some (.dT []) ∧ H1 b = some (.tup []) ∧ Q (.ref s.heap.objs.size) (upd H1 s.heap.objs.size (.dT [([], v)]))
  refine wpAny_bind (evalPairs_one (thn ((pe_tup pa_nil).run pins _ σ _ QK I1 ⟨Nat.zero_le _, fun b nb => ⟨b, rfl, upd_same, h _ n0 b nb⟩⟩) fun u s2 ⟨w, H2, I2, r2, b, ew, eb, q2⟩ => ?_))
  subst ew
  obtain rfl : u = Value.ref b := r2
  refine wpAny_bind (thn (he.run pins _ σ _ _ I2 q2) fun v s3 ⟨x, H3, I3, r3, ep, eb3, q3⟩ => ?_)
  refine wpAny_bind (wpAny_standAt (wpAny_pure ?_))
  refine wpAny_holding ?_
  simp only [List.forIn_cons, List.forIn_nil]
  obtain ⟨_, hm, xs, kt, dof⟩ := dt_of I3.hok ep
  cases kt
  refine wpAny_bind (wpAny_bind (wpAny_bind (wpAny_dictSet_heap (knd := tupleKind (mixKind X.prog X.w)) (k := []) (xs := []) (by show X.A.units < cLine; omega) (key_of I3.hok eb3) dof (fun h' d' sb => ?_))))
  have ne : b ≠ s.heap.objs.size := fun z => by subst z; rw [ep] at eb3; cases eb3
  refine wpAny_pure (wpAny_pure (wpAny_pure (wpAny_pure (wpAny_pure ⟨.ref s.heap.objs.size, upd H3 s.heap.objs.size (.dT [([], x)]), d_write I3 (dmutT ep) sb (let ⟨o, _, _, a, _⟩ := d'; ⟨o, a⟩) ?_, rfl, q3⟩))))
  obtain ⟨o, es, epo, a1, a2, a3, a4, a5, a6⟩ := d'
  simp only [ObjOk]
  refine ⟨by simp [sizeLine_eq], hm, [([], b, v)], .cons ⟨rfl, ?_, r3⟩ .nil, o, es, epo, a1, a2, a3, a4, a6⟩
  rw [upd_ne ne]; exact eb3
/-- {(): e} -/
def dDispT1 (te : DTE) : DTE := fun τ h Q => ∀ p, h p = none → te τ (updD h p (.dT [])) fun v h1 => h1 p = some (.dT []) ∧ Q (.ref p) (updD h1 p (.dT [([], v)]))
theorem de_dispT1 {X : Cx} {e : Expr} {te : DTE} {pos p1 : Pos} {x1 : Nat} (hu : X.A.units + 1 < cLine) (he : DE X e te) : DE X (.Dict [some (.Tuple [] x1 p1)] [e] pos) (dDispT1 te) := by
  refine ⟨(pe_dispT1 hu he.run).wk fun σ H Q q => ?_, fun τ h Q Q' k q p n => he.mono _ _ _ _ (fun v h1 ⟨e, q⟩ => ⟨e, k _ _ q⟩) (q p n)⟩
  obtain ⟨τ, h, rs, rh, q⟩ := q
  intro p n b nb
  have k0 : TK H (upd H p (.dT [])) := .new n
  have k1 : TK (upd H p (.dT [])) (upd (upd H p (.dT [])) b (.tup [])) := .new nb
  refine LE.of he.mono (rs.tk (k0.trans k1)) (DL.RepH.skip (rh.new (u := .dT []) n ⟨[], upd_same, .nil⟩) nb) (q p (rh.free n)) fun v h1 w H1 ⟨e1, q1⟩ r1 rh1 k2 => ?_
  obtain ⟨ws, ew, rw'⟩ := rh1.dT e1
  cases rw'
  have m : Mut (H1 p) := dmutT ew
  exact ⟨ew, k2.u b _ upd_same, q1 (.ref p) _ rfl (rh1.mut (u := .dT [([], v)]) m ⟨_, upd_same, .cons ⟨rfl, r1.tk (.mut m)⟩ .nil⟩) (((k0.trans k1).trans k2).trans (.mut m))⟩
/-! a module's constant dict with text keys -/
structure GlobK (K : PySem.W.Frag) (w : World) (mg : Str → Option Value) (x : Str) (tbl : List (Str × D)) : Prop where
  ex : ∃ a, mg x = some (.ref a) ∧ ∀ z d, tbl.lookup z = some d → ∃ v, KDct K w a z v ∧ ∀ H, Rep K H d v
def gdA (K : PySem.W.Frag) (x : Str) : Addr := match PySem.W.nsIn K mainGlobals x with
  | some (some (.ref a)) => a
  | _ => 0
def gdQ (K : PySem.W.Frag) (x : Str) (tbl : List (Str × D)) : Bool := (match PySem.W.nsIn K mainGlobals x with
  | some (some (.ref _)) => true
  | _ => false) && tbl.all fun p => match PySem.W.nsIn K (gdA K x) p.1 with
    | some (some u) => gcB K p.2 u
    | _ => false
theorem lookup_in {α : Type} {z : Str} {d : α} : ∀ {tbl : List (Str × α)}, tbl.lookup z = some d → (z, d) ∈ tbl
  | [], e => by cases e
  | (y, v) :: r, e => by
    rw [List.lookup_cons] at e
    split at e
    · rename_i hb
      cases e
      rw [eq_of_beq hb]
      exact List.mem_cons_self
    · exact List.mem_cons_of_mem _ (lookup_in e)
theorem GlobK.of {K : PySem.W.Frag} {w : World} {h : Heap} {mg : Str → Option Value} {x : Str} {tbl : List (Str × D)} (X : K.In h) (G : h.Ns mainGlobals mg) (D : ∃ es n, KDict K w (gdA K x) es n) (c : gdQ K x tbl = true) : GlobK K w mg x tbl := by
  unfold gdQ at c
  simp only [Bool.and_eq_true, List.all_eq_true] at c
  obtain ⟨c1, c2⟩ := c
  unfold gdA at D c2
  split at c1
  · rename_i a q
    rw [q] at D
    simp only [q] at c2
    obtain ⟨es, n, kd⟩ := D
    refine ⟨a, PySem.W.mg_of X G q, fun z d e => ?_⟩
    have c3 := c2 _ (lookup_in e)
    dsimp only at c3
    split at c3
    · rename_i u q2
      obtain ⟨v, r, rp⟩ := gcB_ok c3
      exact ⟨v, ⟨es, n, u, kd.at_, kd.lit, q2, r⟩, rp⟩
    · cases c3
  · cases c1
def dKIx (tbl : List (Str × D)) (ty : DTE) : DTE := fun τ h Q => ty τ h fun y h1 => ∃ z d, y = .str z ∧ tbl.lookup z = some d ∧ Q d h1
theorem de_kix {X : Cx} {x : Str} {i : Expr} {ty : DTE} {tbl : List (Str × D)} {p pos : Pos} (c : GlobK X.K X.w X.mg x tbl) (hg : Gl X x) (hi : DE X i ty) (hs : PlainIx i) (hd : (x == ("__debug__" : Str)) = false := by decide) : DE X (.Subscript (.Name x p) i pos) (dKIx tbl ty) := by
  obtain ⟨a, em, hl⟩ := c.ex
  refine ⟨(pe_ix ix_kdict (pe_glob (pos := p) (v := V.ref a) hg em rfl hd) hi.run hs).wk fun σ H Q q => ?_, fun τ h Q Q' k q => hi.mono _ _ _ _ (fun y h1 ⟨z, d, e1, e2, q⟩ => ⟨z, d, e1, e2, k _ _ q⟩) q⟩
  obtain ⟨τ, h, rs, rh, q⟩ := q
  refine LE.of hi.mono rs rh q fun y h1 u H1 ⟨z, d, e1, e2, q1⟩ r1 rh1 k1 => ?_
  subst e1
  cases (show _ = _ from r1)
  obtain ⟨v, kd, rp⟩ := hl z d e2
  exact ⟨a, z, v, rfl, rfl, kd, q1 v H1 (rp H1) rh1 k1⟩
end DL

/-! DStr: f-strings of texts and ints, sep.join(list), str(int). -/
namespace DL
open PySem PySem.Spec PyProof.Rows L2

/-- an int's text -/
def iS (i : Int) : Str := Str.ofString (toString i)
def fmtD (x : D) (Q : Str → Prop) : Prop := match x with
  | .str y => y.length ≤ sizeLine ∧ Q y
  | .int i => i.natAbs.log2 < 1920 ∧ Q (iS i)
  | _ => False
theorem fmtD_mono {x : D} {Q Q' : Str → Prop} (k : ∀ y, Q y → Q' y) (q : fmtD x Q) : fmtD x Q' := by
  cases x <;> first | exact False.elim q | exact ⟨q.1, k _ q.2⟩
/-- {x} -/
def dFmt (te : DTE) : DTE := fun τ h Q => te τ h fun x h1 => fmtD x fun y => Q (.str y) h1
def dJs : List DTE → Str → DSt → DH → (Str → DH → Prop) → Prop
  | [], acc, _, h, Q => Q acc h
  | t :: ts, acc, τ, h, Q => t τ h fun x h1 => ∃ y, x = .str y ∧ (acc ++ y).length ≤ sizeLine ∧ dJs ts (acc ++ y) τ h1 Q
def dJoined (ts : List DTE) : DTE := fun τ h Q => dJs ts Str.empty τ h fun out h1 => Q (.str out) h1
section
variable {X : Cx}
theorem de_fmt {e : Expr} {te : DTE} {pos : Pos} (he : DE X e te) : DE X (.FormattedValue e (-1) none pos) (dFmt te) := by
  refine ⟨(pe_fmt he.run).wk fun σ H Q q => ?_, fun τ h Q Q' k q => he.mono _ _ _ _ (fun x h1 q => fmtD_mono (fun y q => k _ _ q) q) q⟩
  obtain ⟨τ, h, rs, rh, q⟩ := q
  refine LE.of he.mono rs rh q fun x h1 v H1 q1 r1 rh1 k1 => ?_
  cases x <;> first | exact False.elim q1 | skip
  · rename_i i
    cases rep_int r1
    exact .inr ⟨i, rfl, q1.1, q1.2 _ H1 rfl rh1 k1⟩
  · rename_i y
    cases rep_str r1
    exact .inl ⟨y, rfl, q1.1, q1.2 _ H1 rfl rh1 k1⟩
inductive DJ (X : Cx) : List Expr → List DTE → Prop where
  | nil : DJ X [] []
  | cons {e : Expr} {t : DTE} {es : List Expr} {ts : List DTE} (h : DE X e t) (r : DJ X es ts) : DJ X (e :: es) (t :: ts)
theorem DJ.run {es : List Expr} {ts : List DTE} (j : DJ X es ts) : PJ X es (ts.map (LE X.K)) := by
  induction j with
  | nil => exact .nil
  | cons h _ ih => exact .cons h.run ih
theorem DJ.mono {es : List Expr} {ts : List DTE} (j : DJ X es ts) : ∀ (acc : Str) (τ : DSt) (h : DH) (Q Q' : Str → DH → Prop), (∀ y h, Q y h → Q' y h) → dJs ts acc τ h Q → dJs ts acc τ h Q' := by
  induction j with
  | nil => exact fun acc τ h Q Q' k q => k _ _ q
  | cons he _ ih => exact fun acc τ h Q Q' k q => he.mono _ _ _ _ (fun x h1 ⟨y, e, l, q⟩ => ⟨y, e, l, ih _ _ _ _ _ k q⟩) q
theorem DJ.lift {es : List Expr} {ts : List DTE} (j : DJ X es ts) {σ : L2.St} {τ : DSt} : ∀ (acc : Str) (H : Hp) (h : DH) (Q : Str → DH → Prop) (R : Str → Hp → Prop), RepS X.K H τ σ → RepH X.K H h → dJs ts acc τ h Q →
    (∀ out H1 h1, RepH X.K H1 h1 → TK H H1 → Q out h1 → R out H1) → tJs (ts.map (LE X.K)) acc σ H R := by
  induction j with
  | nil => exact fun acc H h Q R rs rh q k => k _ _ _ rh (.refl H) q
  | cons he _ ih =>
    intro acc H h Q R rs rh q k
    refine LE.of he.mono rs rh q fun x h1 v H1 ⟨y, e, l, q1⟩ r1 rh1 k1 => ?_
    subst e
    cases rep_str r1
    exact ⟨y, rfl, l, ih _ _ _ _ _ (rs.tk k1) rh1 q1 fun out H2 h2 rh2 k2 q2 => k out H2 h2 rh2 (k1.trans k2) q2⟩
theorem de_joined {v1 v2 : Expr} {rest : List Expr} {ts : List DTE} {pos : Pos} (j : DJ X (v1 :: v2 :: rest) ts) : DE X (.JoinedStr (v1 :: v2 :: rest) pos) (dJoined ts) := by
  refine ⟨(pe_joined j.run).wk fun σ H Q q => ?_, fun τ h Q Q' k q => j.mono _ _ _ _ _ (fun y h q => k _ _ q) q⟩
  obtain ⟨τ, h, rs, rh, q⟩ := q
  exact j.lift _ H h _ _ rs rh q fun out H1 h1 rh1 k1 q1 => q1 _ H1 rfl rh1 k1
theorem de_joined1 {e : Expr} {te : DTE} {pos : Pos} (he : DE X e te) : DE X (.JoinedStr [e] pos) te := ⟨(pe_joined1 he.run), he.mono⟩
end
/-! sep.join -/
def isStrD : D → DH → Prop := fun d _ => ∃ a, d = .str a
def joinD : RDM := fun x vs h Q => ∃ a l ys, x = .str a ∧ vs = [l] ∧ seqL l h (ys.map D.str) ∧ (ys.map (·.length)).sum + ys.length * a.length ≤ 16777216 ∧ Q (.str (Txt.join a ys)) h
theorem reps_strs {K : PySem.W.Frag} {H : Hp} : ∀ {ys : List Str} {vs : List V}, Reps K H (ys.map D.str) vs → vs = ys.map V.str
  | [], _, r => r
  | y :: ys, _, r => by
    obtain ⟨x, xs, rfl, r1, r2⟩ := r
    cases rep_str r1
    rw [reps_strs r2]
    rfl
theorem dm_join {X : Cx} : DMt X "str" "str.join" isStrD joinD := by
  refine ⟨fun H h d v r rh t => ?_, fun pins s σ H x xs v us Q I r1 r2 ⟨d, ds, h, p1, p2, rh, q⟩ => mt_join pins s σ H x xs v us Q I r1 r2 ?_, fun x ds h Q Q' k ⟨a, l, ys, e1, e2, s, c, q⟩ => ⟨a, l, ys, e1, e2, s, c, k _ _ q⟩⟩
  · obtain ⟨a, rfl⟩ := t
    cases rep_str r
    exact rfl
  · obtain ⟨a, l, ys, rfl, rfl, sq, c, q⟩ := q
    cases rep_str p1
    obtain ⟨w, ws, rfl, rw', rws⟩ := p2
    cases (show _ = _ from rws)
    obtain ⟨p, vs, rfl, sl, rvs⟩ := seqL_V rh rw' sq
    rw [reps_strs rvs] at sl
    exact ⟨a, p, ys, rfl, rfl, .inl sl, c, q _ H rfl rh (.refl H)⟩
section
variable {X : Cx} {o e : Expr} {apos cpos : Pos} {td ty : DTE}
theorem de_join (ho : DE X o td) (he : DE X e ty) (hbase : attributeBase o "join" X.env (eval o X.env) = eval o X.env := by rfl)
    (hfew : ((backTo cpos (starEach [e] X.env)).all (fun x => !x.1) && (backToKw cpos (keywordEach [] X.env)).all (fun x => x.1.isSome)
      && decide ([e].length + ([] : List Keyword).length + (if ([] : List Keyword).isEmpty then 0 else 1) < 30)) = true := by rfl)
    (hline : (apos.endLine == cpos.line) = true := by rfl) (hs : starEach [e] X.env = (false, eval e X.env) :: starEach [] X.env := by rfl) (hplain : (backTo cpos (starEach [] X.env)).any (·.1) = false := by rfl) :
    DE X (.Call (.Attribute o "join" apos) [e] [] cpos) (dBM isStrD joinD td (dCons ty dNil)) :=
  de_bm PySem.F.plainAttrs_str PySem.F.slot_str_join PySem.F.type_str_join dm_join ho (da_cons he da_nil hs) hbase hfew hline hs hplain
end
/-! str(int) -/
def strOfD : RDC := fun xs h Q => match xs with
  | [.int i] => i.natAbs.log2 < 1920 ∧ Q (.str (iS i)) h
  | _ => False
theorem dc_strI {X : Cx} : DCallR X (.type "str") strOfD := by
  refine .of call_str_int (fun H xs ds h Q rs rh q => ?_) (fun ds h Q Q' k q => ?_)
  · unfold strOfD at q
    split at q
    · rename_i i
      obtain ⟨v, rfl, r⟩ := reps1 rs
      cases rep_int r
      exact ⟨i, rfl, q.1, q.2 _ H rfl rh (.refl H)⟩
    · exact q.elim
  · unfold strOfD at q ⊢
    split at q
    · exact ⟨q.1, k _ _ q.2⟩
    · exact q.elim
theorem fmtD_str {y : Str} {Q : Str → Prop} : fmtD (.str y) Q = (y.length ≤ sizeLine ∧ Q y) := rfl
theorem fmtD_int {i : Int} {Q : Str → Prop} : fmtD (.int i) Q = (i.natAbs.log2 < 1920 ∧ Q (iS i)) := rfl
theorem strOfD_int {i : Int} {h : DH} {Q : DK} : strOfD [.int i] h Q = (i.natAbs.log2 < 1920 ∧ Q (.str (iS i)) h) := rfl
theorem dJs_nil {acc : Str} {τ : DSt} {h : DH} {Q : Str → DH → Prop} : dJs [] acc τ h Q = Q acc h := rfl
theorem dJs_cons {t : DTE} {ts : List DTE} {acc : Str} {τ : DSt} {h : DH} {Q : Str → DH → Prop} : dJs (t :: ts) acc τ h Q = t τ h fun x h1 => ∃ y, x = .str y ∧ (acc ++ y).length ≤ sizeLine ∧ dJs ts (acc ++ y) τ h1 Q := rfl
theorem empty_app {y : Str} : Str.empty ++ y = y := by
  cases y
  show Str.mk (#[] ++ _) = _
  simp
end DL

/-! DRevI: for x in reversed(a list). -/
namespace DL
open PySem PySem.Spec PyProof.Rows L2

theorem itd_rev {K : PySem.W.Frag} {H0 : Hp} {a : Addr} {ds : List D} {n : Nat} (hn : n = ds.length) : ItD K H0 (Itv K a n) ds.reverse fun h => h a = some (.lst ds) where
  go := fun i H h l k rh e => by
    obtain ⟨xs, ea, r⟩ := rh.lst e
    rw [List.length_reverse] at l
    obtain ⟨v, e, _⟩ := r.get (i := n - 1 - i) (List.getElem?_eq_getElem (by omega))
    exact ⟨by omega, xs, v, .of ea, e⟩
  yld := fun i H h x H' d e k rh eh y => by
    obtain ⟨xs, ea, r⟩ := rh.lst eh
    obtain ⟨rfl, y⟩ := y
    have li := (List.getElem?_eq_some_iff.mp e).1
    rw [List.length_reverse] at li
    rw [List.getElem?_reverse li] at e
    obtain ⟨v, e2, q⟩ := r.get e
    have e3 := y xs (.of ea)
    rw [hn, e2] at e3
    cases e3
    exact ⟨q, rh, .refl _⟩
  stop := fun H h k rh e => by
    show n ≤ ds.reverse.length
    rw [List.length_reverse, hn]
    exact Nat.le_refl _
/-- reversed(a list) -/
def diRev (te : DTE) : DTI := fun τ h R => te τ h fun x h1 => ∃ a ds, x = .ref a ∧ h1 a = some (.lst ds) ∧ R ds.reverse (fun h => h a = some (.lst ds)) h1
theorem di_rev {X : Cx} {tg e : Expr} {te : DTE} {p pos : Pos} (hg : Gl X "reversed") (hm : X.mg "reversed" = none) (he : DE X e te) (hs : starEach [e] X.env = (false, eval e X.env) :: starEach [] X.env := by rfl) : DI X tg (.Call (.Name "reversed" p) [e] [] pos) (diRev te) := by
  refine ⟨(RT.pi_revA hg hm he.run hs).wk fun σ H R q => ?_, fun τ h R R' k q => he.mono _ _ _ _ (fun x h1 ⟨a, ds, e, ea, q⟩ => ⟨a, ds, e, ea, k _ _ _ q⟩) q⟩
  obtain ⟨τ, h, rs, rh, q⟩ := q
  refine LE.of he.mono rs rh q fun d h1 v H1 ⟨a, ds, e, ea, q⟩ r1 rh1 k1 => ?_
  subst e
  cases rep_ref r1
  obtain ⟨xs, e2, r⟩ := rh1.lst ea
  exact ⟨a, xs, rfl, .inl ⟨.of e2, q _ H1 (itd_rev r.length) rh1 k1⟩⟩
end DL

/-! DGd: repr in a law's own function: a promise that knows that nobody shows anything around it. -/
namespace DL
open PySem PySem.Spec PyProof.Rows L2

/-- a def's promise where no repr runs around it -/
structure FnG (P : Program) (w : World) (K : PySem.W.Frag) (mg : Str → Option Value) (base : Heap) (k : Nat) (f : Addr) (fd : FuncData) (ps : List Str) (sp : Sp) : Prop where
  len : ∀ vs H Q E, sp vs H Q E → vs.length = ps.length
  run : ∀ (A : Around) (outer : List Env) (s : Shared) (H : Hp) (args : Args) (us : List Value) (vs : List V) (Q : VK) (E : XK), A.guards = some [] → Room k A → Env0 P w K mg base A outer s H → BindsTo s fd args (ps.zip us) →
    Vals vs us → sp vs H Q E → codeAny (model P w) A (.call (.ref f) args) (CR CX0 outer P w H s Q E) s
section
variable {P : Program} {w : World} {K : PySem.W.Frag} {mg : Str → Option Value} {base : Heap} {x qual : Str} {params : Arguments} {body : List Stmt} {scope : Scope} {dvs : List V} {kws : List (Str × V)} {f : Addr} {fd : FuncData}
theorem fnG_run {N ps : List Str} {k : Nat} {sp : Sp} (F : FunD K x qual params body scope dvs kws f fd) (S : FnScope N ps scope) (len : ∀ vs H Q E, sp vs H Q E → vs.length = ps.length)
    (hb : ∀ (cdv : Value) (A : Around) (outer : List Env) (s : Shared) (H : Hp) (vs : List V) (Q : VK) (E : XK), A.guards = some [] → Room k (A.deeper (envOfC qual scope s.heap.objs.size f cdv)) → sp vs H Q E →
      ∃ t, PSs (cxOf CX0 P w K mg base N qual scope f cdv A outer s H E) body t ∧ t { nx := fun _ H' => Q .non H', rt := Q } (start N vs) H) : FnG P w K mg base (k + 1) f fd ps sp := by
  obtain ⟨oc, od, dV, kV, doc, pm, an, cdv, ct, osl, rfl, lk, hcd, _, _⟩ := F.ex
  constructor
  · exact len
  intro A outer s H args us vs Q E gd room env bnd rel want
  have KS : K.In s.heap := env.mod.kin.keeps fun a o g => (env.bs a o g).1
  have NL : s.heap.NoLimit := env.mod.nolimit.keeps fun a o g => (env.bs a o g).1
  have kinds : ∀ p ∈ ps.zip us, scope.names.lookup p.1 = some .local ∨ (scope.names.lookup p.1 = some .cell ∧ ((cellsFrom (s.heap.objs.size + 1) scope.names []).lookup p.1).isSome = true) := by
    rintro ⟨a, b⟩ m
    have := S.par a (List.of_mem_zip m).1
    exact this.imp id fun z => ⟨z, PySem.W.cellsFrom_some _ _ _ (.inl z)⟩
  obtain ⟨t, bt, bq⟩ := hb cdv A outer s H vs Q E gd (room.deeper _) want
  refine codeAny_call_function room.depth (KS _ _ lk) rfl S.co S.gen rfl (PySem.W.codeRec_of KS hcd) (bnd _ _ _ _ (wpAny_newFunctionEnv_cells S.kind kinds ?_))
  rintro env2 rfl s2 new
  constructor
  · exact NL.keeps new.toInCall.keep
  refine codeAny_func (wpAny_mono (bt.run [] s2 (start N vs) H _ (inv_start S room.hd env (len _ _ _ _ want) rel new) bq) ?_ fun _ _ z => z)
  intro fl s' end_
  cases fl with
  | next => exact (fun ⟨_, H', J, z⟩ => ⟨V.non, H', J.os, J.bare, J.base, J.hok, rfl, z⟩) end_
  | ret u => exact (fun ⟨v, _, H', J, r, z⟩ => ⟨v, H', J.os, J.bare, J.base, J.hok, r, z⟩) end_
  | brk => exact (fun ⟨_, _, _, z⟩ => False.elim z) end_
  | cont => exact (fun ⟨_, _, _, z⟩ => False.elim z) end_
theorem FunD.okG {N ps : List Str} {k : Nat} {sp : SpD} (F : FunD K x qual params body scope dvs kws f fd) (S : FnScope N ps scope) (len : ∀ ds h Q E, sp ds h Q E → ds.length = ps.length)
    (hb : ∀ (cdv : Value) (A : Around) (outer : List Env) (s : Shared) (H : Hp) (E : XK), A.guards = some [] → Room k (A.deeper (envOfC qual scope s.heap.objs.size f cdv)) →
      ∃ t, DSs (cxOf CX0 P w K mg base N qual scope f cdv A outer s H E).nox WN body t ∧ ∀ ds h Q Ed, Up Q → sp ds h Q Ed → t { nx := fun _ h' => Q .non h', rt := Q } (dstart N ds) h) : FnG P w K mg base (k + 1) f fd ps (LSp K sp) := by
  refine fnG_run F S (fun vs H Q E ⟨ds, h, r, rh, q⟩ => r.length.trans (len _ _ _ _ q)) fun cdv A outer s H vs Q E gd hr ⟨ds, h, r, rh, hs⟩ => ?_
  obtain ⟨t, ht, q⟩ := hb cdv A outer s H E gd hr
  refine ⟨_, PSs.nox ht.run, dstart N ds, h, .start r, rh, ht.mono _ _ _ _ ?_ (q ds h _ _ Cl.up hs)⟩
  constructor
  · exact fun τ h q σ' H' rs rh k => q .non H' rfl rh k
  · exact fun d h q v H' r rh k => q v H' r rh k
  · exact fun _ _ z => z.elim
  · exact fun _ _ z => z.elim
  · exact fun _ _ _ _ z => z.elim
end
/-- the law's def -/
structure HasG (P : Program) (w : World) (K : PySem.W.Frag) (mg : Str → Option Value) (base : Heap) (x : Str) (k : Nat) (ps : List Str) (sp : SpD) : Prop where
  ok : ∃ fd, (∃ o, K.lookup (He.ga K x) = some o ∧ o.data = .func fd) ∧ FnG P w K mg base k (He.ga K x) fd ps (LSp K sp)
section
variable {P : Program} {w : World} {K : PySem.W.Frag} {mg : Str → Option Value} {base : Heap} {x : Str}
theorem HasG.of {params : Arguments} {body : List Stmt} {scope : Scope} {N ps : List Str} {k : Nat} {sp : SpD} {t : DTS}
    (F : ∃ fd, FunD K x x params body scope [] [] (He.ga K x) fd) (S : FnScope N ps scope) (len : ∀ ds h Q E, sp ds h Q E → ds.length = ps.length)
    (d : ∀ (cdv : Value) (A : Around) (outer : List Env) (s : Shared) (H : Hp) (E : XK), (A.deeper (envOfC x scope s.heap.objs.size (He.ga K x) cdv)).guards = some [] → Room k (A.deeper (envOfC x scope s.heap.objs.size (He.ga K x) cdv)) → DSs (cxOf CX0 P w K mg base N x scope (He.ga K x) cdv A outer s H E).nox WN body t)
    (r : ∀ ds h Q Ed, Up Q → sp ds h Q Ed → t { nx := fun _ h' => Q .non h', rt := Q } (dstart N ds) h) : HasG P w K mg base x (k + 1) ps sp :=
  let ⟨fd, F⟩ := F
  ⟨fd, FunD.there F, FunD.okG F S len fun cdv A outer s H E gd hr => ⟨t, d cdv A outer s H E gd hr, r⟩⟩
theorem law_fnG {k : Nat} {ps : List Str} {sp : SpD} {fd : FuncData} (t : ∃ o, K.lookup (He.ga K x) = some o ∧ o.data = .func fd) (h : HasG P w K mg base x k ps sp) : FnG P w K mg base k (He.ga K x) fd ps (LSp K sp) := by
  obtain ⟨fd2, ⟨o2, l2, e2⟩, F⟩ := h.ok
  obtain ⟨o, l, e⟩ := t
  have eo : o2 = o := Option.some.inj (l2.symm.trans l)
  subst eo
  have ef : fd2 = fd := by
    have := e2.symm.trans e
    cases this
    rfl
  exact ef ▸ F
end
/-- from a heap in which the script alone may be tracked -/
theorem coreG {P : Program} {w : World} {K : PySem.W.Frag} {mg mb : Str → Option Value} {k : Nat} {fa a : Addr} {fd : FuncData} {x : Str} {sp : Sp} {s1 : Shared} {vs : List Value}
    (KX : K.In s1.heap) (G : s1.heap.Ns mainGlobals mg) (B : s1.heap.Ns builtinsNs mb) (BB : ∀ y : Str, y ≠ "__name__" → mb y = bootBuiltins y) (NL : s1.heap.NoLimit) (ng : s1.gens = #[])
    (la : s1.heap.get? a = some { cls := .type "list", data := .seq vs.toArray }) (room : Room k callerA)
    (F : ∀ base : Heap, K.In base → base.Ns mainGlobals mg → FnG P w K mg base k fa fd [x] sp) (bnd : ∀ (s : Shared) (u : Value), BindsTo s fd ⟨[u], []⟩ [(x, u)])
    (H : Hp) (only : Only H) (want : sp [.ref a] H (fun v _ => v = .bl true) fun _ _ _ => False) (hok : HOk P w H s1.heap) (one : ∀ b, H b ≠ none → b = a) (out : H a ≠ none → K.lookup a = none) :
    codeAny (model P w) callerA (.call (.ref fa) ⟨[.ref a], []⟩) (fun r s' => r = .ok (.ret (.bool true)) ∧ OldK s1.heap s'.heap ∧ s'.os = s1.os ∧ AllBare s'.gens) s1 := by
  have isA : ∀ {b : Addr}, (∃ u, H b = some u) → b = a := fun ⟨u, e⟩ => one _ (by rw [e]; exact fun z => nomatch z)
  have free : ∀ {b : Addr}, b ≠ a → H b = none := fun {b} n => by
    cases e : H b with
    | none => rfl
    | some u => exact absurd (isA ⟨u, e⟩) n
  have dictFree : ∀ {b : Addr} {o : Obj} {es : Array DictEntry} {ep : Nat}, s1.heap.get? b = some o → o.data = .dict es ep → H b = none := by
    intro b o es ep e d
    refine free ?_
    rintro rfl
    rw [la] at e
    cases e
    exact nomatch d
  have keepNs : ∀ {b : Addr} {m : Str → Option Value}, s1.heap.Ns b m → (hidT s1.heap H).Ns b m := by
    rintro b m ⟨o, es, ep, e, d, r⟩
    exact ⟨o, es, ep, hidT_get e (dictFree e d), d, r⟩
  have KB : K.In (hidT s1.heap H) := fun b o e => hidT_get (KX b o e) <| by
    cases z : H b with
    | none => rfl
    | some u =>
      have ba := isA ⟨u, z⟩
      subst ba
      have := out (by rw [z]; exact fun y => nomatch y)
      rw [e] at this
      exact nomatch this
  have noLimit : (hidT s1.heap H).NoLimit := by
    obtain ⟨m, n1, n2⟩ := NL
    exact ⟨m, keepNs n1, n2⟩
  have M : Mod K mg (hidT s1.heap H) := ⟨KB, keepNs G, ⟨mb, keepNs B, BB⟩, noLimit⟩
  have E0 : Env0 P w K mg (hidT s1.heap H) callerA [] s1 H := by
    refine ⟨rfl, M, fun b o e => of_hidT e, Nat.le_of_eq (hidT_size _ _), trivial, ?_, hok, .of_eq ng⟩
    intro b m
    exact nomatch m
  refine codeAny_mono ((F _ KB (keepNs G)).run callerA [] s1 H ⟨[.ref a], []⟩ [.ref a] [.ref a] _ _ rfl room E0 (bnd s1 (.ref a)) (.cons rfl .nil) want) ?_
  intro r s' end_
  cases r with
  | error e => exact False.elim end_
  | ok fl =>
    cases fl with
    | ret u =>
      obtain ⟨v, H2, os, bare, un, hok2, rv, tv⟩ := end_
      subst tv
      cases (show u = Value.bool true from rv)
      refine ⟨rfl, OldK.of_keep fun b o e => ?_, os, bare⟩
      rcases only b with n | ⟨ob, ys, f⟩
      · exact un.keep b o e n (fun m => nomatch m) (by simp)
      · obtain ⟨g1, _⟩ := hok b _ f
        obtain ⟨g2, _⟩ := hok2 b _ (un.frzs b ob _ f)
        rw [g1] at e
        cases e
        exact g2
    | next => exact False.elim end_
    | brk => exact False.elim end_
    | cont => exact False.elim end_
theorem law_callG {P : Program} {w : World} {K : PySem.W.Frag} {mg mb : Str → Option Value} {k : Nat} {fa a : Addr} {fd : FuncData} {x : Str} {s1 : Shared} {vs : List Value} {ns : List Int}
    (KX : K.In s1.heap) (G : s1.heap.Ns mainGlobals mg) (B : s1.heap.Ns builtinsNs mb) (BB : ∀ y : Str, y ≠ "__name__" → mb y = bootBuiltins y) (NL : s1.heap.NoLimit) (ng : s1.gens = #[])
    (la : s1.heap.get? a = some { cls := .type "list", data := .seq vs.toArray }) (hi : IntsAre vs ns) (hl : ns.length ≤ 63) (hb : ∀ z ∈ ns, Builtin.Int.intBits z ≤ 1048576) (room : Room k callerA)
    (F : ∀ base : Heap, K.In base → base.Ns mainGlobals mg → FnG P w K mg base k fa fd [x] (LSp K spLaw)) (bnd : ∀ (s : Shared) (u : Value), BindsTo s fd ⟨[u], []⟩ [(x, u)]) :
    codeAny (model P w) callerA (.call (.ref fa) ⟨[.ref a], []⟩) (fun r s' => r = .ok (.ret (.bool true)) ∧ OldK s1.heap s'.heap ∧ s'.os = s1.os ∧ AllBare s'.gens) s1 := by
  have rv := vals_ints hi
  have lv : vs.length = ns.length := hi.length
  have sl : (63 : Nat) ≤ sizeLine := by rw [sizeLine_eq]; decide
  cases kl : K.lookup a with
  | some o =>
    have eo := KX a o kl
    rw [la] at eo
    cases eo
    have only : Only fun _ => none := fun _ => .inl rfl
    refine coreG KX G B BB NL ng la room F bnd _ only (law_in hl hb only (.inr ⟨_, vs.toArray, _, kl, rfl, rfl, rfl, ?_, ?_⟩)) (fun b u z => nomatch z) (fun b z => (z rfl).elim) fun z => (z rfl).elim
    · rw [List.size_toArray, lv]; omega
    · simpa using rv
  | none =>
    let H : Hp := fun b => if b = a then some (.frz { cls := .type "list", data := .seq vs.toArray } (.lst (ns.map V.int))) else none
    have at_ : H a = some (.frz { cls := .type "list", data := .seq vs.toArray } (.lst (ns.map V.int))) := if_pos rfl
    have off : ∀ {b}, b ≠ a → H b = none := fun n => if_neg n
    have only : Only H := fun b => by
      by_cases e : b = a
      · subst e; exact .inr ⟨_, _, at_⟩
      · exact .inl (off e)
    refine coreG KX G B BB NL ng la room F bnd H only (law_in hl hb only (.inl (.inr ⟨_, at_⟩))) ?_ ?_ fun _ => kl
    · intro b u z
      by_cases e : b = a
      · subst e
        cases at_.symm.trans z
        exact ⟨la, by rw [List.length_map]; omega, vs, _, rv, la⟩
      · cases (off e).symm.trans z
    · intro b z
      by_cases e : b = a
      · exact e
      · exact (z (off e)).elim
theorem walk_ofEG {l : PySem.W.OpenLaw} {k : Nat} {q : Program} {loose : List Str} {XP : (Str → Option Value) → Heap → Prop} {YP : World → Heap → Prop} {d : DefRec} {x : Str}
    (hn : l.most = some 63) (hdf : d.params.defaults = []) (hr : Room k callerA)
    (F : ∀ (w : World) (mg : Str → Option Value) (fa : Addr) (h : Heap), YP w h → h.Ns mainGlobals mg → mg d.name = some (.ref fa) →
      ∃ (K : PySem.W.Frag) (fd : FuncData), K.In h ∧ (∀ (s : Shared) (u : Value), BindsTo s fd ⟨[u], []⟩ [(x, u)]) ∧
        ∀ base : Heap, K.In base → base.Ns mainGlobals mg → FnG l.prog w K mg base k fa fd [x] (LSp K spLaw)) :
    PySem.W.WalkO q loose XP YP l.row.toRowW d [] (fun f vs => PySem.call f vs) := by
  refine Att.attach_callB hn hdf fun w s₀ s₁ mg mb fa o pm cd doc a vs ns G Y ho hd hcd hmg hobj hints hlen hbits hg => ?_
  obtain ⟨K, fd, KX, hb, hF⟩ := F w mg fa _ Y G.T.g hmg
  exact law_callG KX G.T.g G.T.b G.T.builtins G.T.nolimit hg hobj hints hlen hbits hr hF hb
/-! repr -/
/-- the data that a value is, all through -/
inductive Deep (h : DH) : D → D → Prop where
  | flat {d : D} (ok : okD d = true) : Deep h d d
  | lst {a : Addr} {ds es : List D} (e : h a = some (.lst ds)) (l : ds.length = es.length) (r : ∀ (i : Nat) x y, ds[i]? = some x → es[i]? = some y → Deep h x y) : Deep h (.ref a) (.lsv es)
  | tup {ds es : List D} (l : ds.length = es.length) (r : ∀ (i : Nat) x y, ds[i]? = some x → es[i]? = some y → Deep h x y) : Deep h (.tup ds) (.tup es)
theorem deep_list {K : PySem.W.Frag} {H : Hp} {h : DH} : ∀ {ds es : List D} (_ : ds.length = es.length) (_ : ∀ (i : Nat) x y, ds[i]? = some x → es[i]? = some y → ∀ {v : V}, Rep K H x v → Dp K H v (py y)) {xs : List V}, Reps K H ds xs → DpAll K H xs (pys es)
  | [], [], _, _, xs, rs => by cases (show _ = _ from rs); rw [pys]; exact .nil
  | [], _ :: _, l, _, _, _ => by cases l
  | _ :: _, [], l, _, _, _ => by cases l
  | x :: ds, y :: es, l, ih, xs, rs => by
    obtain ⟨z, zs, rfl, r1, r2⟩ := rs
    rw [pys]
    exact .cons (ih 0 x y rfl rfl r1) (deep_list (h := h) (by simpa using l) (fun i a b e1 e2 {v} rv => ih (i + 1) a b (by simpa using e1) (by simpa using e2) rv) r2)
theorem Deep.dp {K : PySem.W.Frag} {H : Hp} {h : DH} (rh : RepH K H h) {d e : D} (p : Deep h d e) : ∀ {v : V}, Rep K H d v → Dp K H v (py e) := by
  induction p with
  | flat ok => exact fun r => Rep.dp ok r
  | @lst a ds es e l r ih =>
    intro v rv
    cases rep_ref rv
    obtain ⟨xs, ea, rs⟩ := rh.lst e
    rw [py]
    exact .lst (.of ea) (deep_list (h := h) l (fun i x y e1 e2 {v} rv => ih i x y e1 e2 rv) rs)
  | @tup ds es l r ih =>
    intro v rv
    obtain ⟨a, xs, rfl, s, rs⟩ := rv
    rw [py]
    exact .tup s (deep_list (h := h) l (fun i x y e1 e2 {v} rv => ih i x y e1 e2 rv) rs)
/-- repr(x) of a list or a tuple, all of its data known -/
def reprD : RDC := fun xs h Q => match xs with
  | [d] => ∃ e, Deep h d e ∧ PyProof.Rows.isDisplay (py e) = true ∧ (py e).showable = true ∧ (py e).hasDict = false ∧ (py e).depth ≤ 60 ∧ (py e).shown.length ≤ sizeLine ∧ Q (.str (py e).shown) h
  | _ => False
theorem dc_repr {X : Cx} (hg : X.A.guards = some []) (hu : X.A.units + 65 < cLine) : DCallR X (.builtin "repr") reprD := by
  refine ⟨fun pins s σ H xs us Q I r ⟨ds0, h, rs, rh, q⟩ => ?_, fun ds h Q Q' k q => ?_⟩
  · unfold reprD at q
    split at q <;> first | exact False.elim q | skip
    rename_i d
    obtain ⟨v, rfl, r1⟩ := reps1 rs
    obtain ⟨e, dp, di, sh, nd, dd, sz, q⟩ := q
    obtain ⟨u, ru, rfl⟩ : ∃ u, RelV v u ∧ us = [u] := by
      cases r with
      | cons a b => cases b; exact ⟨_, a, rfl⟩
    obtain ⟨as, rd⟩ := Dp.reads I _ v u (dp.dp rh r1) ru
    obtain ⟨a, rfl⟩ := PyProof.Rows.isRef_of_reads rd di
    refine repr_of_reads' rd sh (PyData.noDict_hsm nd) hg (by omega) (fun _ _ e => e) (fun h' u tk hk => ?_) sz
    exact ⟨.str (py e).shown, H, I.kept hk, ⟨u, rfl⟩, q _ H rfl rh (.refl H)⟩
  · unfold reprD at q ⊢
    split at q <;> first | exact False.elim q | skip
    obtain ⟨e, a1, a2, a3, a4, a5, a6, q⟩ := q
    exact ⟨e, a1, a2, a3, a4, a5, a6, k _ _ q⟩
end DL

/-! DAug: name += int, int << int -/
namespace DL
open PySem PySem.Spec PyProof.Rows L2
def shlD (x y : D) (h : DH) (Q : DK) : Prop := match x, y with
  | .int i, .int j => CPow i j ∧ Q (.int (i * 2 ^ j.toNat)) h
  | _, _ => False
theorem dop_shl {X : Cx} : DOp X (binaryOp .LShift) shlD := by
  refine .of op_shl (fun H x y dx dy h Q r1 r2 rh q => ?_) (fun x y h Q Q' k q => ?_)
  · cases dx <;> cases dy <;> first | exact False.elim q | skip
    cases rep_int r1; cases rep_int r2
    exact ⟨_, _, rfl, rfl, q.1, Cl.same q.2 rh rfl⟩
  · cases x <;> cases y <;> first | exact False.elim q | exact ⟨q.1, k _ _ q.2⟩
theorem shlD_int {i j : Int} {h : DH} {Q : DK} : shlD (.int i) (.int j) h Q = (CPow i j ∧ Q (.int (i * 2 ^ j.toNat)) h) := rfl
/-- name += e, ints -/
def dAug (i : Nat) (te : DTE) : DTS := fun D τ h => ∃ n, τ[i]? = some (some (.int n)) ∧ te τ h fun y h1 => ∃ k, y = .int k ∧ D.nx (τ.set i (some (.int (n + k)))) h1
theorem ds_aug {X : Cx} {W : WX} {i : Nat} {x : Str} {pos pos' : Pos} {e : Expr} {te : DTE} (hN : X.N.Nodup) (hi : X.N[i]? = some x) (hx : Loc X.env.scope x) (he : DE X e te) (hf : X.fn x = true ∨ X.env.scope.names.lookup x = some .local := by first | exact .inl rfl | exact .inr rfl | assumption) :
    DS X W (.AugAssign (.Name x pos') .Add e pos) (dAug i te) := by
  refine ⟨(ps_aug hN hi hx he.run iop_add hf).wk fun E σ H q => ?_, fun D D' τ h k q => ?_⟩
  · obtain ⟨τ, h, rs, rh, n, e1, q⟩ := q
    obtain ⟨v, e2, r⟩ := rs.at_ i _ e1
    cases rep_int r
    refine ⟨_, e2, LE.of he.mono rs rh q fun d h1 v H1 q1 r1 rh1 k1 => ?_⟩
    obtain ⟨k, rfl, q1⟩ := q1
    cases rep_int r1
    exact ⟨n, k, rfl, rfl, q1 _ _ ((rs.tk k1).set (show Rep X.K H1 (.int (n + k)) (.int (n + k)) from rfl) i) rh1 k1⟩
  · obtain ⟨n, e, q⟩ := q
    exact ⟨n, e, he.mono _ _ _ _ (fun y h1 ⟨m, e, q⟩ => ⟨m, e, k.nx _ _ q⟩) q⟩
end DL

/-! DStrI: for c in a text; the arguments' list.insert. -/
namespace DL
open PySem PySem.Spec PyProof.Rows L2
/-- the one-sign texts of a text -/
def sgD (x : Str) : List D := x.cps.toList.map fun c => D.str ⟨#[c]⟩
theorem itd_str {K : PySem.W.Frag} {H0 : Hp} {x : Str} : ItD K H0 (Its x) (sgD x) fun _ => True where
  go := fun i H h l k rh _ => by
    unfold sgD at l
    rw [List.length_map] at l
    exact l
  yld := fun i H h v H' d e k rh _ y => by
    obtain ⟨rfl, c, ec, rfl⟩ := y
    unfold sgD at e
    rw [List.getElem?_map, Array.getElem?_toList, ec] at e
    cases e
    exact ⟨rfl, rh, .refl _⟩
  stop := fun H h k rh _ => by
    show x.cps.size ≤ (sgD x).length
    unfold sgD
    rw [List.length_map, Array.length_toList]
    exact Nat.le_refl _
def diStr (te : DTE) : DTI := fun τ h R => te τ h fun x h1 => ∃ z, x = .str z ∧ R (sgD z) (fun _ => True) h1
theorem di_str {X : Cx} {tg e : Expr} {te : DTE} (he : DE X e te) : DI X tg e (diStr te) := by
  refine ⟨(pi_str he.run).wk fun σ H R q => ?_, fun τ h R R' k q => he.mono _ _ _ _ (fun x h1 ⟨z, e, q⟩ => ⟨z, e, k _ _ _ q⟩) q⟩
  obtain ⟨τ, h, rs, rh, q⟩ := q
  refine LE.of he.mono rs rh q fun d h1 v H1 ⟨z, e, q⟩ r1 rh1 k1 => ?_
  subst e
  cases rep_str r1
  exact ⟨z, rfl, q _ H1 itd_str rh1 k1⟩
/-- while: what follows a turn is a name with what it asks -/
theorem dWhile_ab {c : DTT} {tb : DTS} {En : DEnds} {τ : DSt} {h : DH} (W : Nat → DSt → DH → Prop) (m0 : Nat) (h0 : W m0 τ h)
    (step : ∀ m τ h (nx : DSt → DH → Prop), W m τ h → (∀ m' τ' h', m' < m → W m' τ' h' → nx τ' h') → c τ h fun b h1 => if b = true then tb { nx := nx, rt := En.rt, bk := En.nx, ct := nx, ex := En.ex } τ h1 else En.nx τ h1) : dWhile c tb En τ h :=
  ⟨W, ⟨m0, h0⟩, fun m τ h w => step m τ h _ w fun m' τ' h' l w' => ⟨m', l, w'⟩⟩
end DL

/-! DListV: list(d.values()). -/
namespace DL
open PySem PySem.Spec PyProof.Rows L2
def tListVals (td : TE) : TE := fun σ H Q => td σ H fun x H1 => ∃ a kvs, x = V.ref a ∧ H1 a = some (.dK kvs) ∧ ∀ q, H1 q = none → Q (.ref q) (upd H1 q (.lst (kvs.map (·.2))))
section
variable {X : Cx} {o : Expr} {p pos apos mpos : Pos} {td : TE} {td' : DTE}
theorem pe_listVals (hc : X.calm = true) (hg : Gl X "list") (hm : X.mg "list" = none) (hd : PE X o td) (hbase : attributeBase o "values" X.env (eval o X.env) = eval o X.env := by rfl) (hline : (apos.endLine == mpos.line) = true := by rfl)
    (hse : starEach [Expr.Call (.Attribute o "values" apos) [] [] mpos] X.env = [(false, eval (Expr.Call (.Attribute o "values" apos) [] [] mpos) X.env)] := by rfl) :
    PE X (.Call (.Name "list" p) [.Call (.Attribute o "values" apos) [] [] mpos] [] pos) (tListVals td) := by
  refine ⟨fun pins s σ H Q I h => ?_⟩
  refine wpAny_Call_Name_kw (ld_blt I hg hm (u := .type "list") (by first | rfl | decide +kernel) ?_ (by first | decide +kernel | decide) (by first | decide +kernel | decide))
  rw [hse]
  refine PySem.callWith_type1 (wpAny_Call_method0_late hbase hline (thn (hd.run pins s σ H _ I h) fun v s1 ⟨x, H1, I1, r1, a, kvs, ex, ha, q⟩ => ?_))
  subst ex
  obtain rfl : v = Value.ref a := r1
  obtain ⟨hz, hsys, vs, rel, dof⟩ := dk_of I1.hok ha
  obtain ⟨ep, dat⟩ := dof.dictAt
  have dat' := dat
  obtain ⟨ob, es, ho, ex, hdat, hko, hpr, hnd⟩ := dat'
  refine ⟨"dict", "dict.values", F.plainAttrs_dict, F.slot_dict_values, F.type_dict_values, ⟨ob, ho, ex.1⟩, fun b e => ?_, Calls.callWith_builtin rfl (PySem.evalArgs_none ?_)⟩
  · cases e
    exact ⟨ob, ho, ex.2.1⟩
  refine call_meetsIn F.slot_dict_values ⟨ob, ho, ex.1⟩ F.entry_dict_values (F.args_dict_values_1 _) (meets_dict_values (mixKind X.prog X.w) a hsys) ⟨⟨vs, dof⟩, ?_⟩
  have k1 : ∀ b u, s1.heap.get? b = some u → (s1.heap.push { cls := .type "dict_values", data := .fields #[.ref a] }).get? b = some u := fun b u e => Heap.get?_push_of_some _ e
  have dat1 : (s1.heap.push { cls := .type "dict_values", data := .fields #[.ref a] }).DictAt (mixKind X.prog X.w) a vs ep := dat.keep k1
  have I2 : Inv X pins σ H1 { s1 with heap := s1.heap.push { cls := .type "dict_values", data := .fields #[.ref a] } } := I1.kept (t' := s1.toks) k1
  have hl : kvs.length = vs.length := Paired.length rel
  refine PySem.W.kdl_call (PySem.W.kdl_values (knd := mixKind X.prog X.w) (kvs := vs) (ep := ep)) (I.ok.hd hc) ⟨⟨_, Heap.get?_push_size _ rfl, rfl, rfl⟩, dat1⟩ (by rw [← hl]; exact hz) fun h' tk acc' c' hkeep hS hacc => ?_
  have fr : H1 (s1.heap.push { cls := .type "dict_values", data := .fields #[.ref a] }).objs.size = none := I1.hok.fresh (by rw [Heap.size_push]; exact Nat.le_succ _)
  refine ⟨.ref _, upd H1 _ (.lst (kvs.map (·.2))), I2.laid hkeep (Nat.le_refl _) (show ObjOk X.prog X.w _ _ _ (.lst (kvs.map (·.2))) from ⟨?_, acc'.toList, c', ?_, ?_⟩), rfl, q _ fr⟩
  · rw [List.length_map]; exact hz
  · have el : acc'.toList.length = acc'.size := by simp
    refine vals_of_at (by rw [List.length_map, el, hacc.1, hl]) fun j x w h1 h2 => ?_
    obtain ⟨k, hky⟩ := hacc.2 j w (by rw [← Array.getElem?_toList]; exact h2)
    obtain ⟨x', e1, e2⟩ := KV.at' rel hky
    rw [List.getElem?_map, e1] at h1
    cases h1
    exact e2
  · rw [Array.toArray_toList]; exact hS
/-- list(d.values()) -/
def dListV (td : DTE) : DTE := fun τ h Q => td τ h fun x h1 => ∃ a kvs, x = .ref a ∧ h1 a = some (.dK kvs) ∧ ∀ p, h1 p = none → Q (.ref p) (updD h1 p (.lst (kvs.map (·.2))))
theorem reps_vals {K : PySem.W.Frag} {H : Hp} {kvs : List (Key × D)} {vs : List (Key × V)} (r : RepKV K H kvs vs) : Reps K H (kvs.map (·.2)) (vs.map (·.2)) := by
  induction r with
  | nil => exact .nil
  | cons pq _ ih => exact .cons pq.2 ih
theorem de_listV (hc : X.calm = true) (hg : Gl X "list") (hm : X.mg "list" = none) (hd : DE X o td') (hbase : attributeBase o "values" X.env (eval o X.env) = eval o X.env := by rfl) (hline : (apos.endLine == mpos.line) = true := by rfl)
    (hse : starEach [Expr.Call (.Attribute o "values" apos) [] [] mpos] X.env = [(false, eval (Expr.Call (.Attribute o "values" apos) [] [] mpos) X.env)] := by rfl) :
    DE X (.Call (.Name "list" p) [.Call (.Attribute o "values" apos) [] [] mpos] [] pos) (dListV td') := by
  refine ⟨(pe_listVals hc hg hm hd.run hbase hline hse).wk fun σ H Q q => ?_, fun τ h Q Q' k q => hd.mono _ _ _ _ (fun x h1 ⟨a, kvs, e, ea, q⟩ => ⟨a, kvs, e, ea, fun p n => k _ _ (q p n)⟩) q⟩
  obtain ⟨τ, h, rs, rh, q⟩ := q
  refine LE.of hd.mono rs rh q fun d h1 v H1 ⟨a, kvs, e, ea, q⟩ r1 rh1 k1 => ?_
  subst e
  cases rep_ref r1
  obtain ⟨vs, ev, rv⟩ := rh1.dK ea
  exact ⟨a, vs, rfl, ev, fun p n => Cl.newL rh1 (reps_vals rv) n ((q p (rh1.free n)).tk k1)⟩
end
end DL

/-! DFnV: a def as a value (the address it lies at), a call of a slot that holds it, text * int, list.insert. -/
namespace DL
open PySem PySem.Spec PyProof.Rows L2
theorem GlobC.fn {K : PySem.W.Frag} {mg : Str → Option Value} {x : Str} {a : Addr} (g : mg x = some (.ref a)) : GlobC K mg x (.ref a) := ⟨.ref a, .ref a, g, rfl, fun _ => rfl⟩
def dCallLX (i : Nat) (F : Addr) (sp : SpD) (t : DTA) : DXTE := fun τ h Q E => τ[i]? = some (some (.ref F)) ∧ t τ h fun ds h1 => sp ds h1 Q E
section
variable {X : Cx} {W : WX} {k : Nat} {ps : List Str} {sp : SpD} {x y : Str} {p pos : Pos} {e : Expr} {es : List Expr} {t : DTA}
theorem dx_callL (i : Nat) (h : HasX X.prog X.w X.K X.mg X.base x k ps sp) (tk : L2N.Takes X W) (hr : Room k X.A) (ha : DA X (e :: es) t) (hN : X.N[i]? = some y := by rfl) (hv : Vis X.env.scope y := by first | exact Or.inl rfl | exact Or.inr (Or.inl rfl) | exact Or.inr (Or.inr rfl))
    (hdb : (y == ("__debug__" : Str)) = false := by decide) (hcd : (y == ("__classdict__" : Str)) = false := by decide) (he : starEach (e :: es) X.env = (false, eval e X.env) :: starEach es X.env := by rfl) (hpl : (backTo pos (starEach es X.env)).any (·.1) = false := by rfl) :
    DX X W (.Call (.Name y p) (e :: es) [] pos) (dCallLX i (He.ga X.K x) sp t) := by
  obtain ⟨fd, a, b, c⟩ := h.ok
  refine ⟨⟨fun pins s σ H Q I q => ?_⟩, fun τ h1 Q Q' E E' k1 k2 q => ⟨q.1, ha.mono _ _ _ _ (fun ds h1 q => h.ms _ _ _ _ _ k1 (h.mx _ _ _ _ _ k2 q)) q.2⟩⟩
  obtain ⟨τ, h1, rs, rh, q0, q⟩ := q
  obtain ⟨v, e1, r⟩ := rs.at_ i _ q0
  cases rep_ref r
  refine wpAny_Call_Name_kw (thn ((pe_var (pos := p) hN hv hdb hcd).run pins s σ H (fun v H1 => v = .ref (He.ga X.K x) ∧ H1 = H) I ⟨_, e1, rfl, rfl⟩) fun u s1 ⟨v, H1, I1, r1, q1⟩ => ?_)
  obtain ⟨rfl, rfl⟩ := q1
  cases r1
  refine PySem.W.callWith_K (h₀ := X.base) I.ok.mod.kin a (thn (ha.run.run pos pins s1 σ _ (fun vs H2 => LSp X.K sp vs H2 Q (WE W σ)) I1 ?_) fun us s2 ⟨vs, H2, I2, r, q⟩ => ⟨I2.kIn, ?_⟩) he hpl
  · refine LA.of ha.mono rs rh q fun ds h1 vs H1 q1 r1 rh1 k1 => ⟨ds, h1, r1, rh1, h.ms _ _ _ _ _ (fun _ _ c => Cl.tk k1 c) (h.mx _ _ _ _ _ (fun _ _ _ c => ClF.tk k1 c) (by simpa using q1))⟩
  · exact run_fnS c hr b (L2N.passAt tk σ) I2 r q
end
/-- text * int -/
def mulSD (x y : D) (h : DH) (Q : DK) : Prop := match x, y with
  | .str z, .int n => MulOk z n ∧ Q (.str (Txt.mul z n)) h
  | _, _ => False
def rMulS : R2 := fun x y H Q => ∃ z n, x = .str z ∧ y = .int n ∧ MulOk z n ∧ Q (.str (Txt.mul z n)) H
theorem op_mulS {X : Cx} : OpR X (binaryOp .Mult) rMulS := by
  intro pins s σ H x y v u Q I rx ry q
  obtain ⟨z, n, rfl, rfl, m, q⟩ := q
  obtain ⟨t, rfl⟩ := rx
  obtain ⟨t', rfl⟩ := ry
  exact SB.mul m fun t' k => ⟨.str _, H, I.tok _, ⟨_, rfl⟩, q⟩
theorem dop_mulS {X : Cx} : DOp X (binaryOp .Mult) mulSD := by
  refine .of op_mulS (fun H x y dx dy h Q r1 r2 rh q => ?_) (fun x y h Q Q' k q => ?_)
  · cases dx <;> cases dy <;> first | exact False.elim q | skip
    cases rep_str r1; cases rep_int r2
    exact ⟨_, _, rfl, rfl, q.1, Cl.same q.2 rh rfl⟩
  · cases x <;> cases y <;> first | exact False.elim q | exact ⟨q.1, k _ _ q.2⟩
theorem mulOk_of {z : Str} {n : Int} (h0 : 0 ≤ n) (h : z.length * n.toNat ≤ 100000) (hn : n ≤ 100000) : MulOk z n := by
  refine ⟨by simp; omega, fun h1 _ hc => ?_, fun _ _ => by unfold Builtin.Str.tooLong; rw [sizeLine_eq]; simp; omega⟩
  have h2 : (z.length : Int) * n ≤ 100000 := by
    have := Int.ofNat_le.mpr h
    rw [Int.natCast_mul, Int.toNat_of_nonneg h0] at this
    exact this
  have h3 : ((2 ^ 63 - 1) / n + 1) * n ≤ z.length * n := Int.mul_le_mul_of_nonneg_right hc h0
  have h4 := Int.mul_ediv_add_emod (2 ^ 63 - 1) n
  have h5 := Int.emod_lt_of_pos (2 ^ 63 - 1) (show 0 < n by omega)
  rw [Int.add_mul, Int.mul_comm, Int.one_mul] at h3
  omega
theorem de_insert {X : Cx} {o e e2 : Expr} {to te te2 : DTE} {apos cpos : Pos} (ho : DE X o to) (he : DE X e te) (he2 : DE X e2 te2) (hbase : attributeBase o "insert" X.env (eval o X.env) = eval o X.env := by rfl)
    (hfew : ((backTo cpos (starEach [e, e2] X.env)).all (fun x => !x.1) && (backToKw cpos (keywordEach [] X.env)).all (fun x => x.1.isSome)
      && decide ([e, e2].length + ([] : List Keyword).length + (if ([] : List Keyword).isEmpty then 0 else 1) < 30)) = true := by rfl)
    (hline : (apos.endLine == cpos.line) = true := by rfl) (hs : starEach [e, e2] X.env = (false, eval e X.env) :: starEach [e2] X.env := by rfl) (hs2 : starEach [e2] X.env = (false, eval e2 X.env) :: starEach [] X.env := by rfl) (hplain : (backTo cpos (starEach [e2] X.env)).any (·.1) = false := by rfl) :
    DE X (.Call (.Attribute o "insert" apos) [e, e2] [] cpos) (dBM isL insertD to (dCons te (dCons te2 dNil))) :=
  de_bm PySem.F.plainAttrs_list PySem.F.slot_list_insert PySem.F.type_list_insert dm_insert ho (da_cons he (da_cons he2 da_nil hs2) hs) hbase hfew hline hs hplain
end DL

/-! DOwn: own __len__, __contains__, __iter__ (over a field's list); list.remove; min and sorted of a dict. -/
namespace DL
open PySem PySem.Spec PyProof.Rows L2
section
variable {X : Cx} {CX : CXT} {k : Nat} {f : Addr} {fd : FuncData} {ps : List Str} {sp : Sp} {E : XK} {A1 : Around} {pins : List (Addr × Obj)} {σ : L2.St} {H : Hp} {s : Shared} {us : List Value} {vs : List V}
theorem env_at (fr : A1.frames = X.A.frames) (I : Inv X pins σ H s) : Env0 X.prog X.w X.K X.mg X.base A1 X.stack s H := by
  have e := I.env0
  exact ⟨by rw [fr]; exact e.frames, e.mod, e.bs, e.bsz, e.funs, e.frf, e.hok, e.bare⟩
/-- a promise kept at another place of the running body -/
theorem run_at {Q : VK} {R : Value → Shared → Prop} (F : FnOk X.prog X.w X.K X.mg X.base CX k f fd ps sp) (hr : Room k A1) (fr : A1.frames = X.A.frames) (hb : Binds X.K fd ps []) (hx : Passes CX X E) (I : Inv X pins σ H s) (r : Vals vs us) (h : sp vs H Q E)
    (hR : ∀ u s', EP X pins σ Q u s' → R u s') : wpAny (model X.prog X.w) A1 (call (.ref f) us) R X.xe s := by
  have hl := F.len _ _ _ _ h
  refine wpAny_call (codeAny_mono (F.run A1 X.stack s H ⟨us, []⟩ us vs Q E hr (env_at fr I) (by
    have := hb s us I.kIn (by simpa [r.length] using hl)
    simpa using this) r h) fun r s' hq => ?_)
  cases r with
  | error e => exact hx pins σ H s e s' I hq
  | ok fl =>
    cases fl with
    | ret u => exact hR _ _ (I.after hq)
    | next => exact False.elim hq
    | brk => exact False.elim hq
    | cont => exact False.elim hq
end
/-- len(x), x an instance of the class C -/
def lenOD (C : Str) (sp : SpD) (ds : List D) (h : DH) (Q : DK) : Prop := match ds with
  | [.ref a] => ∃ fs, h a = some (.ins C fs) ∧ ∀ E, sp [.ref a] h (fun v h2 => ∃ i : Int, v = .int i ∧ 0 ≤ i ∧ i < 2 ^ 63 ∧ Q v h2) E
  | _ => False
/-- v in x, x an instance of the class C -/
def inOD (neg : Bool) (C : Str) (sp : SpD) (x y : D) (h : DH) (Q : DK) : Prop := match y with
  | .ref a => ∃ fs, h a = some (.ins C fs) ∧ ∀ E, sp [.ref a, x] h (fun v h2 => ∃ b, v = .bl b ∧ Q (.bl (b != neg)) h2) E
  | _ => False
section
variable {X : Cx} {C : Str} {k : Nat} {ps : List Str} {sp : SpD}
theorem dc_lenO (F : HasM X.prog X.w X.K X.mg X.base C "__len__" k ps sp) (hr : Room (k + 1) X.A) : DCallR X (.builtin "len") (lenOD C sp) := by
  obtain ⟨fd, b, c⟩ := F.ok
  refine ⟨fun pins s σ H xs us Q I r ⟨ds, h, rs, rh, q⟩ => ?_, fun ds h Q Q' k q => ?_⟩
  · unfold lenOD at q
    split at q <;> first | exact False.elim q | skip
    rename_i a
    obtain ⟨x, rfl, r1⟩ := reps1 rs
    obtain ⟨fs, e, q⟩ := q
    cases rep_ref r1
    obtain ⟨dx, vs, ev, rv⟩ := rh.ins e
    obtain ⟨u, rfl, ru⟩ := vals1 r
    cases ru
    obtain ⟨mA, J, _⟩ := ins_get I.hok ev
    obtain ⟨od, J, _⟩ := J.look
    obtain ⟨m, hF⟩ := I.fr
    refine PySem.W.len_K hF I.ok.mod.kin J F.at_.at_ F.at_.fn ?_
    refine run_at (Q := fun v H' => ∃ i : Int, v = .int i ∧ 0 ≤ i ∧ i < 2 ^ 63 ∧ Q v H') c hr.in1 rfl b pass0 I (us := [.ref a]) (vs := [.ref a]) (.cons rfl .nil) (E := E0) ?_ fun u s' ⟨v, H', I', rv, i, ei, i0, i1, q⟩ => ?_
    · exact ⟨[.ref a], h, rs, rh, F.ms _ _ _ _ _ (fun d h2 ⟨i, e, i0, i1, q⟩ v H' r rh k => by subst e; exact ⟨i, rep_int r, i0, i1, q v H' r rh k⟩) (q _)⟩
    · subst ei
      obtain ⟨t, rfl⟩ := rv
      exact ⟨⟨i0, i1⟩, .int i, H', I'.tok _, ⟨_, rfl⟩, q⟩
  · unfold lenOD at q ⊢
    split at q <;> first | exact False.elim q | skip
    obtain ⟨fs, e, q⟩ := q
    exact ⟨fs, e, fun E => F.ms _ _ _ _ _ (fun d h2 ⟨i, e, i0, i1, q⟩ => ⟨i, e, i0, i1, k _ _ q⟩) (q E)⟩
theorem in_lift {neg : Bool} (F : HasM X.prog X.w X.K X.mg X.base C "__contains__" k ps sp) (hr : Room k X.A) {f : Value → Value → Sem Value}
    (rule : ∀ {s : Shared} {v : Value} {a Ca : Addr} {L : Addr} {ox : Obj} {od : Option Obj} {m : Str → Option Value} {fa : Addr} {Q : Value → Shared → Prop} (F : PyProof.Rows.Fr X.base L s.heap m) (X₀ : X.K.In X.base) (I : PySem.W.InstAt s.heap a ox Ca od) (hs : PySem.W.findIn X.K (.ref Ca) "__contains__" = some (some (.ref fa))) (hf : PySem.W.isFn X.K (.ref fa) = true)
      (h : wpAny (model X.prog X.w) X.A (call (.ref fa) [.ref a, v]) (fun r s' => wpAny (model X.prog X.w) X.A (truthy r) (fun b => Q (.bool (b != neg))) X.xe s') X.xe s), wpAny (model X.prog X.w) X.A (f v (.ref a)) Q X.xe s) : DOp X f (inOD neg C sp) := by
  obtain ⟨fd, b, c⟩ := F.ok
  refine ⟨fun pins s σ H x y u v dx dy h Q I r1 r2 p1 p2 rh q => ?_, fun x y h Q Q' k q => ?_⟩
  · cases dy <;> first | exact False.elim q | skip
    rename_i a
    obtain ⟨fs, e, q⟩ := q
    cases rep_ref p2
    cases r2
    obtain ⟨dxa, vs, ev, rv⟩ := rh.ins e
    obtain ⟨mA, J, _⟩ := ins_get I.hok ev
    obtain ⟨od, J, _⟩ := J.look
    obtain ⟨m, hF⟩ := I.fr
    refine rule hF I.ok.mod.kin J F.at_.at_ F.at_.fn ?_
    refine run_at (Q := fun v H' => ∃ b, v = .bl b ∧ Q (.bl (b != neg)) H') c hr rfl b pass0 I (us := [.ref a, u]) (vs := [.ref a, x]) (.cons rfl (.cons r1 .nil)) (E := E0) ?_ fun u s' ⟨v, H', I', rv, bb, ei, q⟩ => ?_
    · exact ⟨[.ref a, dx], h, Reps.cons (d := .ref a) rfl (.cons p1 .nil), rh, F.ms _ _ _ _ _ (fun d h2 ⟨b, e, q⟩ v H' r rh k => by subst e; exact ⟨b, r, q _ H' rfl rh k⟩) (q _)⟩
    · subst ei
      cases rv
      exact wpAny_truthy_bool ⟨.bl _, H', I', rfl, q⟩
  · unfold inOD at q ⊢
    split at q <;> first | exact False.elim q | skip
    obtain ⟨fs, e, q⟩ := q
    exact ⟨fs, e, fun E => F.ms _ _ _ _ _ (fun d h2 ⟨b, e, q⟩ => ⟨b, e, k _ _ q⟩) (q E)⟩
theorem dop_inO (F : HasM X.prog X.w X.K X.mg X.base C "__contains__" k ps sp) (hr : Room k X.A) : DOp X (compareOp .In) (inOD false C sp) :=
  in_lift F hr fun F X0 I hs hf h => PySem.W.in_K F X0 I hs hf (wpAny_mono h (fun _ _ z => wpAny_mono z (fun b _ z => by simpa using z) fun _ _ z => z) fun _ _ z => z)
theorem dop_notInO (F : HasM X.prog X.w X.K X.mg X.base C "__contains__" k ps sp) (hr : Room k X.A) : DOp X (compareOp .NotIn) (inOD true C sp) :=
  in_lift F hr fun F X0 I hs hf h => PySem.W.notIn_K F X0 I hs hf (wpAny_mono h (fun _ _ z => wpAny_mono z (fun b _ z => by cases b <;> simpa using z) fun _ _ z => z) fun _ _ z => z)
end
/-- __iter__ of the class C is «return iter(self.fld)», fld holds a list -/
structure HasIt (P : Program) (w : World) (K : PySem.W.Frag) (mg : Str → Option Value) (base : Heap) (C fld : Str) (k : Nat) : Prop where
  at_ : Meth K (He.ga K C) "__iter__" (He.ma K (He.ga K C) "__iter__")
  ok : ∀ (A : Around) (outer : List Env) (s : Shared) (H : Hp) (a dx : Addr) (fs : List (Str × V)) (l : Addr) (zs : List V), Room k A → Env0 P w K mg base A outer s H → H a = some (.ins (He.ga K C) dx fs) → fs.lookup fld = some (.ref l) → SqL K H l zs →
    codeAny (model P w) A (.call (.ref (He.ma K (He.ga K C) "__iter__")) ⟨[.ref a], []⟩) (CR CX0 outer P w H s (fun v H' => ∃ it, v = .ref it ∧ H it = none ∧ s.heap.objs.size ≤ it ∧ H' = upd H it (ItO l it 0)) E0) s
theorem HasIt.mono {P : Program} {w : World} {K : PySem.W.Frag} {mg : Str → Option Value} {base : Heap} {C f : Str} {j k : Nat} (h : HasIt P w K mg base C f j) (l : j ≤ k) : HasIt P w K mg base C f k := ⟨h.at_, fun A outer s H a dx fs l zs hr => h.ok A outer s H a dx fs l zs (hr.mono (by omega))⟩
theorem HasIt.of {P : Program} {w : World} {K : PySem.W.Frag} {mg : Str → Option Value} {base : Heap} {C fld qual : Str} {fs0 : List Str} {params : Arguments} {scope : Scope} {N : List Str} {k : Nat} {p1 p2 p3 p4 p5 : Pos} (T : ClsF K C fs0) (hf : fld ∈ fs0) (at_ : Meth K (He.ga K C) "__iter__" (He.ma K (He.ga K C) "__iter__"))
    (F : ∃ fd, FunD K "__iter__" qual params [.Return (some (.Call (.Name "iter" p1) [.Attribute (.Name "self" p2) fld p3] [] p4)) p5] scope [] [] (He.ma K (He.ga K C) "__iter__") fd) (S : FnScope N [("self" : Str)] scope) (hN : N[0]? = some ("self" : Str)) (hv : Vis scope "self") (hg : scope.names.lookup ("iter" : Str) = some .globalImplicit) (hm : mg "iter" = none)
    (bind : ∀ (kV doc pm : Value) (an : Option Addr) (cdv ct : Value) (us : List Value), us.length = [("self" : Str)].length → bindArgs (PySem.W.fnOf "__iter__" qual params [.Return (some (.Call (.Name "iter" p1) [.Attribute (.Name "self" p2) fld p3] [] p4)) p5] scope .none kV doc pm an cdv ct) ⟨us, []⟩ = pure ([("self" : Str)].zip us)) :
    HasIt P w K mg base C fld (k + 1) := by
  obtain ⟨fd, F⟩ := F
  refine ⟨at_, fun A outer s H a dx fs l zs hr e0 ha hl hs => ?_⟩
  have hb := F.bindsN bind
  have KX : K.In s.heap := e0.mod.kin.keeps fun b o e => (e0.bs b o e).1
  obtain ⟨oc, od, dV, kV, doc, pm, an, cdv, ct, osl, rfl, lk, hcd, _, _⟩ := F.ex
  refine LamX.run_ofS (CX := CX0) (N := N) (ps := [("self" : Str)]) (us := [.ref a]) (vs := [.ref a]) lk hcd S hr e0 (by have := hb s [.ref a] KX rfl; simpa using this) (.cons rfl .nil) rfl fun hr' => ?_
  refine ⟨_, pss_one (ps_ret (pe_callB (X := (cxOf CX0 P w K mg base N qual scope (He.ma K (He.ga K C) "__iter__") cdv A outer s H E0)) ItX.call_iterN hg hm (by rfl) (pa_cons (pe_fld (pe_var (i := 0) hN hv) (by rfl)) pa_nil))), ?_⟩
  have h0 : (L2.start N [V.ref a])[0]? = some (some (V.ref a)) := by rfl
  exact ⟨.ref a, h0, a, _, dx, fs, _, rfl, ha, T.c, T.no _ hf, hl, l, zs, rfl, hs, fun it h1 h2 => ⟨it, rfl, h1, h2, rfl⟩⟩
def diOwn (C fld : Str) (te : DTE) : DTI := fun τ h R => te τ h fun x h1 => ∃ a fs l ds, x = .ref a ∧ h1 a = some (.ins C fs) ∧ fs.lookup fld = some (.ref l) ∧ h1 l = some (.lst ds) ∧ R ds (fun h => h l = some (.lst ds)) h1
def iOwn (K : PySem.W.Frag) (C : Addr) (fld : Str) (te : TE) : TI := fun σ H R => te σ H fun x H1 => ∃ a dx fs l zs, x = .ref a ∧ H1 a = some (.ins C dx fs) ∧ fs.lookup fld = some (.ref l) ∧ SqL K H1 l zs ∧ R (Itl K l) H1
section
variable {X : Cx} {tg e : Expr} {C fld : Str} {k : Nat} {te : DTE}
theorem pi_own {te : TE} (F : HasIt X.prog X.w X.K X.mg X.base C fld k) (hr : Room k X.A) (he : PE X e te) : PI X tg e (iOwn X.K (He.ga X.K C) fld te) := by
  refine ⟨fun pins s σ H R I h => ?_⟩
  refine thn (he.run pins s σ H _ I h) fun v s1 ⟨x, H1, I1, r1, q1⟩ => ?_
  obtain ⟨a, dx, fs, l, zs, rfl, ha, hl, hs, q⟩ := q1
  cases r1
  obtain ⟨mA, J, _⟩ := ins_get I1.hok ha
  obtain ⟨od, J, _⟩ := J.look
  obtain ⟨m, hF⟩ := I1.fr
  refine PySem.W.owit_iter hF I1.ok.mod.kin J F.at_.at_ F.at_.fn ?_
  refine wpAny_call (codeAny_mono (F.ok X.A X.stack s1 H1 a dx fs l zs hr (env_at rfl I1) ha hl hs) fun r s' hq => ?_)
  cases r with
  | error e => exact pass0 pins σ H1 s1 e s' I1 hq
  | ok fl =>
    cases fl with
    | next => exact False.elim hq
    | brk => exact False.elim hq
    | cont => exact False.elim hq
    | ret u =>
      obtain ⟨v, H', I', rv, it, ev, n0, n1, eH⟩ := I1.after hq
      subst ev
      cases rv
      have hi : H' it = some (ItO l it 0) := by rw [eH]; exact upd_same
      have ho := itO_get I' hi
      have hT : s'.TypeIs (.ref it) "list_iterator" := ⟨_, ho, rfl⟩
      unfold PySem.W.OwitIt
      refine wpAny_specialOf (name := Str.ofString "__next__") hT slot_listiter_next.lookup ?_
      have hi' := hi
      unfold ItO at hi'
      have ed : ItX.dropH H' it = H1 := by rw [eH]; exact ItX.dropH_upd n0
      refine ⟨it, [it], _, Itl X.K l, H1, rfl, ed ▸ ItX.inv_drop I' hi', turn_list l it, ⟨_, ho, rfl, rfl⟩, fun b hb => ?_, q⟩
      obtain rfl : b = it := by simpa using hb
      rw [← ed]
      exact ItX.inv_fp I' hi (Nat.le_trans I1.sz n1)
theorem di_own (F : HasIt X.prog X.w X.K X.mg X.base C fld k) (hr : Room k X.A) (he : DE X e te) : DI X tg e (diOwn C fld te) := by
  refine ⟨(pi_own F hr he.run).wk fun σ H R q => ?_, fun τ h R R' k q => he.mono _ _ _ _ (fun x h1 ⟨a, fs, l, ds, e1, e2, e3, e4, q⟩ => ⟨a, fs, l, ds, e1, e2, e3, e4, k _ _ _ q⟩) q⟩
  obtain ⟨τ, h, rs, rh, q⟩ := q
  refine LE.of he.mono rs rh q fun d h1 v H1 q r1 rh1 k1 => ?_
  obtain ⟨a, fs, l, ds, rfl, e2, e3, e4, q⟩ := q
  cases rep_ref r1
  obtain ⟨dx, vs, ev, rv⟩ := rh1.ins e2
  obtain ⟨w, ew, rw'⟩ := repKV_lookup rv e3
  cases rep_ref rw'
  obtain ⟨xs, e5, r⟩ := rh1.lst e4
  exact ⟨a, dx, vs, l, xs, rfl, ev, ew, .of e5, q _ H1 itd_lst rh1 k1⟩
end
/-- xs.remove(i), whole numbers -/
def removeID : RDM := fun x vs h Q => ∃ (a : Addr) (ns : List Int) (i : Int) (j : Nat), x = .ref a ∧ vs = [.int i] ∧ h a = some (.lst (ns.map .int)) ∧ ns[j]? = some i ∧ (∀ m : Nat, m < j → ns[m]? ≠ some i) ∧ Q .non (updD h a (.lst ((ns.eraseIdx j).map .int)))
/-- min(d), d a dict of whole numbers -/
def minKD : RDC := fun xs h Q => match xs with
  | [.ref a] => ∃ (kvs : List (Key × D)) (ns : List Int), h a = some (.dK kvs) ∧ kvs.map (·.1) = ns.map Sum.inl ∧ ns ≠ [] ∧ ∀ m, m ∈ ns → (∀ y ∈ ns, m ≤ y) → Q (.int m) h
  | _ => False
/-- sorted(d), d a dict of fewer than 64 whole numbers -/
def sortedKD : RDC := fun xs h Q => match xs with
  | [.ref a] => ∃ (kvs : List (Key × D)) (ns : List Int), h a = some (.dK kvs) ∧ kvs.map (·.1) = ns.map Sum.inl ∧ ns.length < 64 ∧ ∀ (ms : List Int) p, ms.Perm ns → ms.Pairwise (· ≤ ·) → h p = none → Q (.ref p) (updD h p (.lst (ms.map .int)))
  | _ => False
section
variable {X : Cx}
theorem dm_removeI : DMt X "list" "list.remove" isL removeID := by
  refine .ofL mt_remove (fun H x xs d ds h Q r1 r2 rh q => ?_) (fun x ds h Q Q' k q => ?_)
  · obtain ⟨a, ns, i, j, rfl, rfl, e, hj, hn, q⟩ := q
    cases rep_ref r1
    obtain ⟨v, rfl, r⟩ := reps1 r2
    cases rep_int r
    obtain ⟨xs, ea, p⟩ := rh.lst e
    cases reps_ints' p
    exact ⟨a, ns, i, j, rfl, rfl, ea, hj, hn, Cl.setL (d := .non) rh ea (reps_of_ints _) rfl q⟩
  · obtain ⟨a, ns, i, j, e1, e2, e, hj, hn, q⟩ := q
    exact ⟨a, ns, i, j, e1, e2, e, hj, hn, k _ _ q⟩
theorem de_removeI {o e : Expr} {to te : DTE} {apos cpos : Pos} (ho : DE X o to) (he : DE X e te) (hbase : attributeBase o "remove" X.env (eval o X.env) = eval o X.env := by rfl)
    (hfew : ((backTo cpos (starEach [e] X.env)).all (fun x => !x.1) && (backToKw cpos (keywordEach [] X.env)).all (fun x => x.1.isSome)
      && decide ([e].length + ([] : List Keyword).length + (if ([] : List Keyword).isEmpty then 0 else 1) < 30)) = true := by rfl)
    (hline : (apos.endLine == cpos.line) = true := by rfl) (hs : starEach [e] X.env = (false, eval e X.env) :: starEach [] X.env := by rfl) (hplain : (backTo cpos (starEach [] X.env)).any (·.1) = false := by rfl) :
    DE X (.Call (.Attribute o "remove" apos) [e] [] cpos) (dBM isL removeID to (dCons te dNil)) :=
  de_bm PySem.F.plainAttrs_list PySem.F.slot_list_remove PySem.F.type_list_remove dm_removeI ho (da_cons he da_nil hs) hbase hfew hline hs hplain
theorem kv_keys {kvs : List (Key × D)} {vs : List (Key × V)} {K : PySem.W.Frag} {H : Hp} (r : RepKV K H kvs vs) : vs.map (·.1) = kvs.map (·.1) := by
  induction r with
  | nil => rfl
  | cons pq _ ih => simp only [List.map_cons, ih, pq.1]
theorem dc_minK (hc : X.calm = true) : DCallR X (.builtin "min") minKD := by
  refine .of (cr_minK hc) (fun H xs ds h Q rs rh q => ?_) (fun ds h Q Q' k q => ?_)
  · unfold minKD at q
    split at q <;> first | exact False.elim q | skip
    obtain ⟨x, rfl, r1⟩ := reps1 rs
    obtain ⟨kvs, ns, e, ek, hn, q⟩ := q
    cases rep_ref r1
    obtain ⟨vs, ev, rv⟩ := rh.dK e
    exact ⟨_, vs, ns, rfl, ev, (kv_keys rv).trans ek, hn, fun m h1 h2 => Cl.same (q m h1 h2) rh rfl⟩
  · unfold minKD at q ⊢
    split at q <;> first | exact False.elim q | skip
    obtain ⟨kvs, ns, e, ek, hn, q⟩ := q
    exact ⟨kvs, ns, e, ek, hn, fun m h1 h2 => k _ _ (q m h1 h2)⟩
theorem dc_sortedK (hc : X.calm = true) : DCallR X (.builtin "sorted") sortedKD := by
  refine .of (call_sortedDI hc) (fun H xs ds h Q rs rh q => ?_) (fun ds h Q Q' k q => ?_)
  · unfold sortedKD at q
    split at q <;> first | exact False.elim q | skip
    obtain ⟨x, rfl, r1⟩ := reps1 rs
    obtain ⟨kvs, ns, e, ek, hn, q⟩ := q
    cases rep_ref r1
    obtain ⟨vs, ev, rv⟩ := rh.dK e
    exact ⟨_, vs, ns, rfl, .inl ev, (kv_keys rv).trans ek, hn, fun ms p h1 h2 n => q ms p h1 h2 (rh.free n) _ _ rfl (rh.new n ⟨_, upd_same, reps_of_ints ms⟩) (.new n)⟩
  · unfold sortedKD at q ⊢
    split at q <;> first | exact False.elim q | skip
    obtain ⟨kvs, ns, e, ek, hn, q⟩ := q
    exact ⟨kvs, ns, e, ek, hn, fun ms p h1 h2 n => k _ _ (q ms p h1 h2 n)⟩
end
def dDPop1 (td ty : DTE) : DTE := fun τ h Q => td τ h fun x h1 => ∃ a kvs, x = .ref a ∧ h1 a = some (.dK kvs) ∧ ty τ h1 fun y h2 => ∃ kvs k v, h2 a = some (.dK kvs) ∧ keyD y = some k ∧ getK kvs k = some v ∧ Q v (updD h2 a (.dK (delK kvs k)))
theorem de_dpop1 {X : Cx} {o e : Expr} {td ty : DTE} {apos cpos : Pos} (ho : DE X o td) (he : DE X e ty) (m : M1 X o "pop" apos e cpos := by exact ⟨rfl, rfl, rfl, rfl⟩) : DE X (.Call (.Attribute o "pop" apos) [e] [] cpos) (dDPop1 td ty) := by
  refine ⟨(pe_dpop1 ho.run he.run m).wk fun σ H Q q => ?_, fun τ h Q Q' k q => ho.mono _ _ _ _ (fun x h1 ⟨a, kvs, e1, e2, q⟩ => ⟨a, kvs, e1, e2, he.mono _ _ _ _ (fun y h2 ⟨kvs, k', v, e3, e4, e5, q⟩ => ⟨kvs, k', v, e3, e4, e5, k _ _ q⟩) q⟩) q⟩
  obtain ⟨τ, h, rs, rh, q⟩ := q
  refine LE.of ho.mono rs rh q fun x h1 u H1 q1 r1 rh1 k1 => ?_
  obtain ⟨a, kvs, rfl, e2, q⟩ := q1
  cases rep_ref r1
  obtain ⟨vs, ev, rv⟩ := rh1.dK e2
  refine ⟨a, rfl, .inl ⟨vs, .inl ev⟩, ?_⟩
  refine LE.of he.mono (rs.tk k1) rh1 q fun y h2 w H2 q2 r2 rh2 k2 => ?_
  obtain ⟨kvs, k, v, e2, e3, e4, q⟩ := q2
  obtain ⟨vs, ev, rv⟩ := rh2.dK e2
  obtain ⟨v', gv, rv'⟩ := (kv_get rv).1 v e4
  have m := dmut ev
  have kk := (k1.trans k2).trans (TK.mut (o := .dK (dropK vs k)) m)
  exact ⟨vs, k, v', ev, keyD_V r2 e3, gv, q v' _ (rv'.tk (.mut m)) (rh2.mut m ⟨_, upd_same, RepKV.tk (.mut m) (kv_del rv)⟩) kk⟩
end DL

/-! DMakeK: C(k = v, ..), an __init__ whose parameters are keyword-only, that may let exceptions out. -/
namespace DL
open PySem PySem.Spec PyProof.Rows L2
section
variable {X : Cx} {CX : CXT} {k n : Nat} {f C : Addr} {fd : FuncData} {ps ks : List Str} {sp : Sp} {E : L2.St → XK} {x : Str} {p pos : Pos} {kws : List Keyword} {tk : TA} {g : List Value → List Value → List Value} {gV : List V → List V → List V}
theorem run_makeKS {pins : List (Addr × Obj)} {σ : L2.St} {H : Hp} {s : Shared} {Q : VK} {us ws : List Value} {vs zs : List V} (M : Mk X.K C f) (F : FnOk X.prog X.w X.K X.mg X.base CX k f fd ps sp) (hr : Room (k + 1) X.A) (hb : KBn X.K fd ps (n + 1) ks g gV) (hx : PassesAt CX X σ (E σ))
    (I : Inv X pins σ H s) (r : Vals vs us) (rz : Vals zs ws) (l1 : vs.length = n) (l2 : zs.length = ks.length)
    (h : ∀ x dx, H x = none → H dx = none → dx ≠ x → sp (gV (.ref x :: vs) zs) (upd (upd H dx (.own x)) x (.ins C dx [])) (fun v H2 => v = .non ∧ Q (.ref x) H2) (E σ)) :
    wpAny (model X.prog X.w) X.A (call (.ref C) us (ks.zip ws)) (EP X pins σ Q) X.xe s := by
  have hq := h (s.heap.objs.size + 1) s.heap.objs.size (I.hok.fresh (Nat.le_succ _)) (I.hok.fresh (Nat.le_refl _)) (Nat.ne_of_lt (Nat.lt_succ_self _))
  have I2 := Inv.made (C := C) I
  have r1 : Vals (V.ref (s.heap.objs.size + 1) :: vs) (Value.ref (s.heap.objs.size + 1) :: us) := .cons rfl r
  have r2 := hb.rel r1 rz
  have n1 : (Value.ref (s.heap.objs.size + 1) :: us).length = n + 1 := by
    rw [List.length_cons, ← r.length, l1]
  refine wpAny_call (make_map (f := f) I.kIn M.makes M.init (beq_iff_eq.mp M.fn) (codeAny_mono (F.run _ X.stack _ _ ⟨Value.ref (s.heap.objs.size + 1) :: us, ks.zip ws⟩ (g (Value.ref (s.heap.objs.size + 1) :: us) ws) _ _ (E σ) (hr.make C us (ks.zip ws))
    (I2.env0.make C us (ks.zip ws)) (hb.to _ (Value.ref (s.heap.objs.size + 1) :: us) ws I2.kIn n1 (rz.length.symm.trans l2)) r2 hq) fun r s' hq' => ?_))
  cases r with
  | error e => exact hx pins _ _ e s' I2 hq'
  | ok fl =>
    cases fl with
    | ret u =>
      obtain ⟨v, H', I3, rv, ev, q3⟩ := I2.after hq'
      subst ev
      exact ⟨rv, ⟨V.ref (s.heap.objs.size + 1), H', I3, rfl, q3⟩⟩
    | next => exact False.elim hq'
    | brk => exact False.elim hq'
    | cont => exact False.elim hq'
def tMakeKS (C : Addr) (m : Nat) (sp : Sp) (gV : List V → List V → List V) (E : L2.St → XK) (tk : TA) : TE := fun σ H Q => tk σ H fun zs H2 => zs.length = m ∧ ∀ x dx, H2 x = none → H2 dx = none → dx ≠ x →
  sp (gV [.ref x] zs) (upd (upd H2 dx (.own x)) x (.ins C dx [])) (fun v H3 => v = .non ∧ Q (.ref x) H3) (E σ)
theorem pe_makeKS (M : Mk X.K C f) (F : FnOk X.prog X.w X.K X.mg X.base CX k f fd ps sp) (hr : Room (k + 1) X.A) (hg : Gl X x) (hm : X.mg x = some (.ref C)) (hb : KBn X.K fd ps 1 ks g gV) (hx : ∀ σ, PassesAt CX X σ (E σ)) (hkw : PK X kws tk)
    (hall : (backToKw pos (keywordEach kws X.env)).all (·.1.isSome) = true := by rfl) (hks : (backToKw pos (keywordEach kws X.env)).filterMap (·.1) = ks := by rfl) (hdb : (x == ("__debug__" : Str)) = false := by decide)
    (hpl : ((backTo pos (starEach [] X.env)).any (·.1) || (backToKw pos (keywordEach kws X.env)).any (·.1.isNone)) = false := by rfl) :
    PE X (.Call (.Name x p) [] kws pos) (tMakeKS C ks.length sp gV E tk) := by
  refine ⟨fun pins s σ H Q I h => ?_⟩
  refine wpAny_Call_Name_kw (ld_glob I hg hm ?_ hdb)
  refine PySem.W.callWith_KW0 (h₀ := X.base) I.ok.mod.kin M.kp hall ?_ hpl
  refine thn (hkw.run pos pins s σ H _ I h) fun ws s2 ⟨zs, H2, I2, rz, l2, q2⟩ => ⟨I2.kIn, ?_⟩
  rw [hks]
  exact run_makeKS (us := []) (vs := []) M F hr hb (hx σ) I2 .nil rz rfl l2 q2
end
/-- an __init__ with keyword-only parameters that may let exceptions out -/
structure HasMK (P : Program) (w : World) (K : PySem.W.Frag) (mg : Str → Option Value) (base : Heap) (C : Str) (k : Nat) (ps : List Str) (sp : SpD) : Prop where
  ms : MonoSp sp
  mx : MonoX sp
  ok : ∃ fd, (∃ o, K.lookup (He.ma K (He.ga K C) "__init__") = some o ∧ o.data = .func fd) ∧ FnOk P w K mg base (L2N.CX P w) k (He.ma K (He.ga K C) "__init__") fd ps (LSp K sp)
theorem HasMK.mono {P : Program} {w : World} {K : PySem.W.Frag} {mg : Str → Option Value} {base : Heap} {C : Str} {j k : Nat} {ps : List Str} {sp : SpD} (h : HasMK P w K mg base C j ps sp) (l : j ≤ k) : HasMK P w K mg base C k ps sp :=
  ⟨h.ms, h.mx, let ⟨fd, b, c⟩ := h.ok; ⟨fd, b, c.mono l⟩⟩
theorem HasMK.of {P : Program} {w : World} {K : PySem.W.Frag} {mg : Str → Option Value} {base : Heap} {C qual : Str} {params : Arguments} {body : List Stmt} {scope : Scope} {N ps : List Str} {k : Nat} {sp : SpD} {t : DTS} {kws : List (Str × V)}
    (F : ∃ fd, FunD K "__init__" qual params body scope [] kws (He.ma K (He.ga K C) "__init__") fd) (S : FnScope N ps scope) (ms : MonoSp sp) (mx : MonoX sp) (len : ∀ ds h Q E, sp ds h Q E → ds.length = ps.length)
    (d : ∀ (cdv : Value) (A : Around) (outer : List Env) (s : Shared) (H : Hp) (E : XK), Room k (A.deeper (envOfC qual scope s.heap.objs.size (He.ma K (He.ga K C) "__init__") cdv)) →
      DSs (cxOf (L2N.CX P w) P w K mg base N qual scope (He.ma K (He.ga K C) "__init__") cdv A outer s H E) (fun cls d _ H => E cls d H) body t)
    (r : ∀ ds h Q Ed, Up Q → sp ds h Q Ed → t { nx := fun _ h' => Q .non h', rt := Q, ex := fun _ => Ed } (dstart N ds) h) : HasMK P w K mg base C (k + 1) ps sp := by
  obtain ⟨fd, F⟩ := F
  refine ⟨ms, mx, fd, FunD.there F, F.ok S (fun vs H Q E ⟨ds, h, r, rh, q⟩ => by rw [r.length]; exact len _ _ _ _ q) fun cdv A outer s H vs Q E hr hsp => ?_⟩
  obtain ⟨ds, h, rr, rh, hs⟩ := hsp
  have ht := d cdv A outer s H E hr
  refine ⟨_, ht.run, dstart N ds, h, .start rr, rh, ht.mono _ _ _ _ ?_ (r ds h _ _ Cl.up hs)⟩
  exact ⟨fun τ h q σ' H' rs rh k => q .non H' rfl rh k, fun d h q v H' r rh k => q v H' r rh k, fun _ _ z => z.elim, fun _ _ z => z.elim, fun τ C d h q σ' H' rs rh k => q H' rh k⟩
def dMakeKX (C : Str) (sp : SpD) (c : List (Bool × Nat)) (m : Nat) (md : List D) (tk : DTA) : DXTE := fun τ h Q E => tk τ h fun es h2 => es.length = m ∧ ∀ x, h2 x = none → sp (gK c [.ref x] md es) (updD h2 x (.ins C [])) (fun v h3 => v = .non ∧ Q (.ref x) h3) E
def dMakeK (C : Str) (sp : SpD) (c : List (Bool × Nat)) (m : Nat) (md : List D) (tk : DTA) : DTE := fun τ h Q => tk τ h fun es h2 => es.length = m ∧ ∀ x, h2 x = none → ∀ E, sp (gK c [.ref x] md es) (updD h2 x (.ins C [])) (fun v h3 => v = .non ∧ Q (.ref x) h3) E
section
variable {X : Cx} {W : WX} {C qual : Str} {params : Arguments} {body : List Stmt} {scope : Scope} {kws : List (Str × V)} {k : Nat} {ps : List Str} {sp : SpD} {p pos : Pos} {kwl : List Keyword} {tk : DTA}
theorem makeK_lift {c : List (Bool × Nat)} {m : Nat} {md : List D} {mz : List V} {E : L2.St → XK} {Ed : L2.St → DXK} (ms : MonoSp sp) (mx : MonoX sp) (mo : Mono tk) (hmd : ∀ H, Reps X.K H md mz) {σ : L2.St} {H : Hp} {Q : VK} {τ : DSt} {h : DH} (rs : RepS X.K H τ σ) (rh : RepH X.K H h)
    (he : ∀ H1, TK H H1 → ∀ C d h', Ed σ C d h' → ClF X.K H1 (E σ) C d h')
    (q : tk τ h fun es h2 => es.length = m ∧ ∀ x, h2 x = none → sp (gK c [.ref x] md es) (updD h2 x (.ins C [])) (fun v h3 => v = .non ∧ Cl X.K H Q (.ref x) h3) (Ed σ)) :
    tMakeKS (He.ga X.K C) m (LSp X.K sp) (fun vs zs => gK c vs mz zs) E (LA X.K tk) σ H Q := by
  refine LA.of mo rs rh q fun es h1 us H1 q1 r1 rh1 k1 => ?_
  obtain ⟨l, q1⟩ := q1
  refine ⟨by rw [r1.length]; exact l, fun x dx nx nd ne => ?_⟩
  have n1 : upd H1 dx (.own x) x = none := by rw [upd_ne ne.symm]; exact nx
  have kk : TK H1 (upd (upd H1 dx (.own x)) x (.ins (He.ga X.K C) dx [])) := (TK.new nd).trans (TK.new n1)
  refine ⟨_, updD h1 x (.ins C []), gK_reps c (Reps.cons (d := .ref x) rfl .nil) (hmd _) (r1.tk kk), (rh1.skip nd).new n1 ⟨dx, [], upd_same, .nil⟩, ms _ _ _ _ _ (fun d h2 ⟨e, q⟩ v H2 r2 rh2 k2 => ?_) (mx _ _ _ _ _ (fun C' d' h' z => he _ (k1.trans kk) C' d' h' z) (q1 x (rh1.free nx)))⟩
  subst e
  cases (show _ = _ from r2)
  exact ⟨rfl, q (.ref x) H2 rfl rh2 (k1.trans (kk.trans k2))⟩
theorem dx_makeK (M : Mk X.K (He.ga X.K C) (He.ma X.K (He.ga X.K C) "__init__")) (F : HasMK X.prog X.w X.K X.mg X.base C k ps sp) (Dx : ∃ fd, FunD X.K "__init__" qual params body scope [] kws (He.ma X.K (He.ga X.K C) "__init__") fd) (tkw : L2N.Takes X W) (hr : Room (k + 1) X.A) (hg : Gl X C) (hm : X.mg C = some (.ref (He.ga X.K C))) (ks : List Str) (mss : List (Str × V)) (md : List D) (c : List (Bool × Nat)) (hmd : ∀ H, Reps X.K H md (mss.map (·.2))) (hk : kws ≠ []) (hms : ∀ q ∈ mss, q ∈ kws)
    (hch : ∀ (D : Addr) (doc pm : Value) (an : Option Addr) (cdv ct : Value) (us mv ws : List Value), us.length = 1 → mv.length = mss.length → ws.length = ks.length →
      KwChain D ((mss.map (·.1)).zip mv) (bindArgs (PySem.W.fnOf "__init__" qual params body scope .none (.ref D) doc pm an cdv ct) ⟨us, ks.zip ws⟩) (ps.zip (gK c us mv ws)))
    (hkw : DKw X kwl tk) (hall : (backToKw pos (keywordEach kwl X.env)).all (·.1.isSome) = true := by rfl) (hks : (backToKw pos (keywordEach kwl X.env)).filterMap (·.1) = ks := by rfl)
    (hdb : (C == ("__debug__" : Str)) = false := by decide)
    (hpl : ((backTo pos (starEach [] X.env)).any (·.1) || (backToKw pos (keywordEach kwl X.env)).any (·.1.isNone)) = false := by rfl) :
    DX X W (.Call (.Name C p) [] kwl pos) (dMakeKX C sp c ks.length md tk) := by
  obtain ⟨fd, ⟨o, lo, eo⟩, Fn⟩ := F.ok
  obtain ⟨fd2, Dx⟩ := Dx
  obtain ⟨o2, lo2, eo2⟩ := FunD.there Dx
  rw [lo] at lo2; cases lo2
  rw [eo] at eo2; cases eo2
  obtain ⟨mv, hb⟩ := FunD.kb Dx 1 ks mss c hk hms hch
  refine ⟨(pe_makeKS (E := WE W) M Fn hr hg hm hb (L2N.passAt tkw) hkw.run hall hks hdb hpl).wk fun σ H Q q => ?_, fun τ h Q Q' E E' k1 k2 q => hkw.mono _ _ _ _ (fun ds h1 ⟨l, q⟩ => ⟨l, fun x nx => F.ms _ _ _ _ _ (fun d h2 ⟨e, q⟩ => ⟨e, k1 _ _ q⟩) (F.mx _ _ _ _ _ k2 (q x nx))⟩) q⟩
  obtain ⟨τ, h, rs, rh, q⟩ := q
  exact makeK_lift (E := WE W) (Ed := fun σ => ClF X.K H (WE W σ)) F.ms F.mx hkw.mono hmd rs rh (fun H1 k1 C d h' z => ClF.tk k1 z) q
theorem de_makeKg {CX : CXT} (M : Mk X.K (He.ga X.K C) (He.ma X.K (He.ga X.K C) "__init__")) (Dx : ∃ fd, FunD X.K "__init__" qual params body scope [] kws (He.ma X.K (He.ga X.K C) "__init__") fd) (px : Passes CX X E0) (ms0 : MonoSp sp) (Fok : ∃ fd, (∃ o, X.K.lookup (He.ma X.K (He.ga X.K C) "__init__") = some o ∧ o.data = .func fd) ∧ FnOk X.prog X.w X.K X.mg X.base CX k (He.ma X.K (He.ga X.K C) "__init__") fd ps (LSp X.K sp)) (hr : Room (k + 1) X.A) (hg : Gl X C) (hm : X.mg C = some (.ref (He.ga X.K C))) (ks : List Str) (mss : List (Str × V)) (md : List D) (c : List (Bool × Nat)) (hmd : ∀ H, Reps X.K H md (mss.map (·.2))) (hk : kws ≠ []) (hms : ∀ q ∈ mss, q ∈ kws)
    (hch : ∀ (D : Addr) (doc pm : Value) (an : Option Addr) (cdv ct : Value) (us mv ws : List Value), us.length = 1 → mv.length = mss.length → ws.length = ks.length →
      KwChain D ((mss.map (·.1)).zip mv) (bindArgs (PySem.W.fnOf "__init__" qual params body scope .none (.ref D) doc pm an cdv ct) ⟨us, ks.zip ws⟩) (ps.zip (gK c us mv ws)))
    (hkw : DKw X kwl tk) (hall : (backToKw pos (keywordEach kwl X.env)).all (·.1.isSome) = true := by rfl) (hks : (backToKw pos (keywordEach kwl X.env)).filterMap (·.1) = ks := by rfl)
    (hdb : (C == ("__debug__" : Str)) = false := by decide)
    (hpl : ((backTo pos (starEach [] X.env)).any (·.1) || (backToKw pos (keywordEach kwl X.env)).any (·.1.isNone)) = false := by rfl) :
    DE X (.Call (.Name C p) [] kwl pos) (dMakeK C sp c ks.length md tk) := by
  obtain ⟨fd, ⟨o, lo, eo⟩, Fn⟩ := Fok
  obtain ⟨fd2, Dx⟩ := Dx
  obtain ⟨o2, lo2, eo2⟩ := FunD.there Dx
  rw [lo] at lo2; cases lo2
  rw [eo] at eo2; cases eo2
  obtain ⟨mv, hb⟩ := FunD.kb Dx 1 ks mss c hk hms hch
  refine ⟨(pe_makeK0 (E := E0) M Fn hr hg hm hb px hkw.run hall hks hdb hpl).wk fun σ H Q q => ?_, fun τ h Q Q' k1 q => hkw.mono _ _ _ _ (fun ds h1 ⟨l, q⟩ => ⟨l, fun x nx E => ms0 _ _ _ _ _ (fun d h2 ⟨e, q⟩ => ⟨e, k1 _ _ q⟩) (q x nx E)⟩) q⟩
  obtain ⟨τ, h, rs, rh, q⟩ := q
  refine LA.of hkw.mono rs rh q fun es h1 us H1 q1 r1 rh1 k1 => ?_
  obtain ⟨l, q1⟩ := q1
  refine ⟨rfl, by rw [r1.length]; exact l, fun x dx nx nd ne => ?_⟩
  have n1 : upd H1 dx (.own x) x = none := by rw [upd_ne ne.symm]; exact nx
  have kk : TK H1 (upd (upd H1 dx (.own x)) x (.ins (He.ga X.K C) dx [])) := (TK.new nd).trans (TK.new n1)
  refine ⟨_, updD h1 x (.ins C []), gK_reps c (Reps.cons (d := .ref x) rfl .nil) (hmd _) (r1.tk kk), (rh1.skip nd).new n1 ⟨dx, [], upd_same, .nil⟩, ms0 _ _ _ _ _ (fun d h2 ⟨e, q⟩ v H2 r2 rh2 k2 => ?_) (q1 x (rh1.free nx) _)⟩
  subst e
  cases (show _ = _ from r2)
  exact ⟨rfl, q (.ref x) H2 rfl rh2 (k1.trans (kk.trans k2))⟩
end
/-- .. that lets nothing out -/
structure HasMK0 (P : Program) (w : World) (K : PySem.W.Frag) (mg : Str → Option Value) (base : Heap) (C : Str) (k : Nat) (ps : List Str) (sp : SpD) : Prop where
  ms : MonoSp sp
  ok : ∃ fd, (∃ o, K.lookup (He.ma K (He.ga K C) "__init__") = some o ∧ o.data = .func fd) ∧ FnOk P w K mg base CX0 k (He.ma K (He.ga K C) "__init__") fd ps (LSp K sp)
theorem HasMK0.mono {P : Program} {w : World} {K : PySem.W.Frag} {mg : Str → Option Value} {base : Heap} {C : Str} {j k : Nat} {ps : List Str} {sp : SpD} (h : HasMK0 P w K mg base C j ps sp) (l : j ≤ k) : HasMK0 P w K mg base C k ps sp :=
  ⟨h.ms, let ⟨fd, b, c⟩ := h.ok; ⟨fd, b, c.mono l⟩⟩
theorem HasMK0.of {P : Program} {w : World} {K : PySem.W.Frag} {mg : Str → Option Value} {base : Heap} {C qual : Str} {params : Arguments} {body : List Stmt} {scope : Scope} {N ps : List Str} {k : Nat} {sp : SpD} {t : DTS} {kws : List (Str × V)}
    (F : ∃ fd, FunD K "__init__" qual params body scope [] kws (He.ma K (He.ga K C) "__init__") fd) (S : FnScope N ps scope) (ms : MonoSp sp) (len : ∀ ds h Q E, sp ds h Q E → ds.length = ps.length)
    (d : ∀ (cdv : Value) (A : Around) (outer : List Env) (s : Shared) (H : Hp) (E : XK), Room k (A.deeper (envOfC qual scope s.heap.objs.size (He.ma K (He.ga K C) "__init__") cdv)) → DSs (cxOf CX0 P w K mg base N qual scope (He.ma K (He.ga K C) "__init__") cdv A outer s H E).nox WN body t)
    (r : ∀ ds h Q Ed, Up Q → sp ds h Q Ed → t { nx := fun _ h' => Q .non h', rt := Q } (dstart N ds) h) : HasMK0 P w K mg base C (k + 1) ps sp :=
  let ⟨fd, F⟩ := F
  ⟨ms, fd, FunD.there F, FunD.okD F S len fun cdv A outer s H E hr => ⟨t, d cdv A outer s H E hr, r⟩⟩
section
variable {X : Cx} {W : WX} {C m f : Str} {fs : List Str} {o : Expr} {te : DTE} {sp : SpD} {k : Nat} {ps : List Str} {pos apos : Pos}
/-- a method without arguments that may raise, where it lets nothing out -/
theorem de_methN0 {pl : Sem Bool} (T : ClsF X.K C fs) (F : HasMX X.prog X.w X.K X.mg X.base C m k ps sp) (hr : Room k X.A) (ho : DE X o te)
    (ht : eval (.Call (.Attribute o m apos) [] [] pos) X.env = (do
      let ov ← eval o X.env
      standAt apos.atName
      let (f, first) ← holding [ov] (getMethod ov m pl)
      callWith pos f first (backTo pos (starEach [] X.env)) (backToKw pos (keywordEach [] X.env))) := by rfl) :
    DE X (.Call (.Attribute o m apos) [] [] pos) (dMeth C m sp te dNil) := by
  obtain ⟨fd, b, c⟩ := F.ok
  refine ⟨(pe_meth0 (E := E0) (ds := []) (dvs := []) ho.run T.c F.at_ c hr b .nil passN ht).wk fun σ H Q q => ?_, fun τ h Q Q' k q => ho.mono _ _ _ _ (fun x h1 ⟨a, gs, e1, e2, e3, q⟩ => ⟨a, gs, e1, e2, e3, fun E => F.ms _ _ _ _ _ k (q E)⟩) q⟩
  obtain ⟨τ, h, rs, rh, q⟩ := q
  refine LE.of ho.mono rs rh q fun x h1 v H1 q1 r1 rh1 k1 => ?_
  obtain ⟨a, gs, rfl, e2, e3, q⟩ := q1
  cases rep_ref r1
  obtain ⟨dx, vs, ev, rv⟩ := rh1.ins e2
  refine ⟨a, dx, vs, rfl, ev, repKV_none rv e3, ?_⟩
  exact ⟨_, h1, Reps.cons (d := .ref a) (show Rep _ _ (.ref a) (.ref a) from rfl) Reps.nil, rh1, F.ms _ _ _ _ _ (fun _ _ c => c.tk k1) (q _)⟩
end
end DL

/-! DNestX: calls that may let exceptions out, within subscripts, lists, tuples. -/
namespace DL
open PySem PySem.Spec PyProof.Rows L2
theorem LEX.of {K : PySem.W.Frag} {W : WX} {t : DXTE} {σ : L2.St} {H : Hp} {τ : DSt} {h : DH} {Qd : DK} {R : VK} (m : ∀ τ h Q Q' E E', (∀ d h', Q d h' → Q' d h') → (∀ C d h', E C d h' → E' C d h') → t τ h Q E → t τ h Q' E')
    (rs : RepS K H τ σ) (rh : RepH K H h) (q : t τ h Qd (ClF K H (WE W σ))) (k : ∀ d h1 v H1, Qd d h1 → Rep K H1 d v → RepH K H1 h1 → TK H H1 → R v H1) : LEX K W t σ H R :=
  ⟨τ, h, rs, rh, m _ _ _ _ _ _ (fun d h1 q v H1 a b c => k d h1 v H1 q a b c) (fun _ _ _ c => c) q⟩
/-- t[i], t may raise -/
def dIxX (t : DXTE) (ti : DTE) : DXTE := fun τ h Q E => t τ h (fun x h1 => ti τ h1 fun y h2 => ixD x y h2 Q) E
abbrev DXTA := DSt → DH → (List D → DH → Prop) → DXK → Prop
def LAX (K : PySem.W.Frag) (W : WX) (t : DXTA) : TA := fun σ H Q => ∃ τ h, RepS K H τ σ ∧ RepH K H h ∧ t τ h (ClA K H Q) (ClF K H (WE W σ))
structure DAX (X : Cx) (W : WX) (es : List Expr) (t : DXTA) : Prop where
  run : PA X es (LAX X.K W t)
  mono : ∀ τ h Q Q' E E', (∀ d h', Q d h' → Q' d h') → (∀ C d h', E C d h' → E' C d h') → t τ h Q E → t τ h Q' E'
def dNilX : DXTA := fun _ h Q _ => Q [] h
def dConsX (te : DXTE) (t : DXTA) : DXTA := fun τ h Q E => te τ h (fun x h1 => t τ h1 (fun xs h2 => Q (x :: xs) h2) E) E
def dLstX (t : DXTA) : DXTE := fun τ h Q E => t τ h (fun xs h1 => xs.length ≤ sizeLine ∧ ∀ p, h1 p = none → Q (.ref p) (updD h1 p (.lst xs))) E
def dTupX (t : DXTA) : DXTE := fun τ h Q E => t τ h (fun xs h1 => xs.length ≤ sizeLine ∧ Q (.tup xs) h1) E
section
variable {X : Cx} {W : WX} {a b e : Expr} {es : List Expr} {t : DXTE} {ti : DTE} {ta : DXTA} {pos : Pos}
theorem dx_ix (ha : DX X W a t) (hb : DE X b ti) (hs : PlainIx b := by exact fun _ _ => rfl) : DX X W (.Subscript a b pos) (dIxX t ti) := by
  refine ⟨(pe_ix ixr_seq ha.run hb.run hs).wk fun σ H Q q => ?_, fun τ h Q Q' E E' k1 k2 q => ha.mono _ _ _ _ _ _ (fun x h1 q => hb.mono _ _ _ _ (fun y h2 q => ixD_mono k1 q) q) k2 q⟩
  obtain ⟨τ, h, rs, rh, q⟩ := q
  refine LEX.of ha.mono rs rh q fun d h1 v H1 q1 r1 rh1 k1 => ?_
  refine LE.of hb.mono (rs.tk k1) rh1 q1 fun d2 h2 v2 H2 q2 r2 rh2 k2 => ?_
  exact ⟨d, d2, h2, r1.tk k2, r2, rh2, ixD_mono (fun _ _ c => c.tk (k1.trans k2)) q2⟩
theorem dax_nil : DAX X W [] dNilX := by
  refine ⟨da_nil.run.wk fun σ H Q q => ?_, fun τ h Q Q' E E' k1 k2 q => k1 _ _ q⟩
  obtain ⟨τ, h, rs, rh, q⟩ := q
  exact ⟨τ, h, rs, rh, q⟩
theorem dax_cons (ha : DX X W e t) (hr : DAX X W es ta) (hs : starEach (e :: es) X.env = (false, eval e X.env) :: starEach es X.env := by rfl) : DAX X W (e :: es) (dConsX t ta) := by
  refine ⟨(pa_cons ha.run hr.run hs).wk fun σ H Q q => ?_, fun τ h Q Q' E E' k1 k2 q => ha.mono _ _ _ _ _ _ (fun x h1 q => hr.mono _ _ _ _ _ _ (fun xs h2 q => k1 _ _ q) k2 q) k2 q⟩
  obtain ⟨τ, h, rs, rh, q⟩ := q
  refine LEX.of ha.mono rs rh q fun d h1 v H1 q1 r1 rh1 k1 => ?_
  refine ⟨τ, h1, rs.tk k1, rh1, hr.mono _ _ _ _ _ _ (fun ds h2 q2 vs H2 r2 rh2 k2 => ?_) (fun _ _ _ c => ClF.tk k1 c) q1⟩
  exact q2 (v :: vs) H2 (.cons (r1.tk k2) r2) rh2 (k1.trans k2)
theorem dx_lst (ha : DAX X W es ta) : DX X W (.List es pos) (dLstX ta) := by
  refine ⟨(pe_lst ha.run).wk fun σ H Q q => ?_, fun τ h Q Q' E E' k1 k2 q => ha.mono _ _ _ _ _ _ (fun xs h1 q => ⟨q.1, fun p n => k1 _ _ (q.2 p n)⟩) k2 q⟩
  obtain ⟨τ, h, rs, rh, q⟩ := q
  exact ⟨τ, h, rs, rh, ha.mono _ _ _ _ _ _ (fun ds h1 q1 vs H1 r1 rh1 k1 => ⟨by rw [r1.length]; exact q1.1, fun p n => Cl.newL rh1 r1 n ((q1.2 p (rh1.free n)).tk k1)⟩) (fun _ _ _ c => c) q⟩
theorem dx_tup {x1} (ha : DAX X W es ta) : DX X W (.Tuple es x1 pos) (dTupX ta) := by
  refine ⟨(pe_tup ha.run).wk fun σ H Q q => ?_, fun τ h Q Q' E E' k1 k2 q => ha.mono _ _ _ _ _ _ (fun xs h1 q => ⟨q.1, k1 _ _ q.2⟩) k2 q⟩
  obtain ⟨τ, h, rs, rh, q⟩ := q
  exact ⟨τ, h, rs, rh, ha.mono _ _ _ _ _ _ (fun ds h1 q1 vs H1 r1 rh1 k1 => ⟨by rw [r1.length]; exact q1.1, fun p n => Cl.newT rh1 r1 n (q1.2.tk k1)⟩) (fun _ _ _ c => c) q⟩
end
end DL

namespace DL
open PySem PySem.Spec PyProof.Rows L2
local macro_rules | `(tactic| walk_at "dl") => `(tactic| simp only [dSeq, dIfS, dTru, dB, dNot, dAnd, dOr, dVar, dC, dOp, dCall, dCons, dNil, dRet, dRetN, dAsg, dgName, dNext, dDrop, dDNew, dDGet, dDGetF, dDIn, dDNotIn, dDPut, dDDel, dDGet1, dDGet2, dFld, dSetF, dMeth, dMake, indexD2, dCBK, dLstRevT, dCallN, gK, cond_true, cond_false, Option.toList_some, diItems, diKeys, diVals, diZip, diEnum, listKD, eqKD, dPairs, keyed, popAtD, insertD, reverseD, dRaise, dRetX, dAsgX, dDropX, dCallX, dPureX, dXf, List.zip_cons_cons, List.zip_nil_right, List.zip_nil_left, List.reverse_cons, List.reverse_nil, dCB, dBM, dTup, dLst, dSl, dPart, dNoPart, dNotV, dAndV, dOrV, dIf, dNeg, diTup, diLst, diSeq, seqI_tup, seqI_lsv, seqI_ref, diRng1, diRng2, addD_int, addD_str, addD_tup, addD_ref, subD_int, mulD_int, fdivD_int, modD_int, powD_int, ltD_int, ltD_str, leD_int, gtD_int, geD_int, isD_non, isNotD_non, truD_non, truD_bl, truD_int, truD_str, truD_tup, truD_lsv, slD_tup, slD_str, slD_ref, slD_lsv, ixD_tup, ixD_lsv, ixD_str, ixD_ref, lenD_tup, lenD_lsv, lenD_str, lenD_ref, absD_int, intD_int, max2D_int, min2D_int, listD_tup, listD_lsv, listD_ref, tupleD_tup, tupleD_ref, isNon, dstart, dYes,
  List.map_cons, List.map_nil, List.length_cons, List.length_nil, List.nil_append, List.cons_append, List.append_nil, List.set_cons_zero, List.set_cons_succ, List.getElem?_cons_zero, List.getElem?_cons_succ, Option.some.injEq, exists_eq_left', exists_eq_left, exists_eq_right, exists_eq, exists_eq', List.cons.injEq, and_true, true_and, D.int.injEq, D.str.injEq, D.bl.injEq, D.tup.injEq, D.ref.injEq, D.ty.injEq, forall_eq', forall_eq, imp_self, forall_const, exists_and_left, exists_const, isL, appendD, popD, updD_same, updD_updD, DO.lst.injEq, eqD_int, neD_int, eqD_bl, neD_bl, cutD_1,
  decide_eq_true_eq, Bool.not_eq_true', decide_eq_false_iff_not, List.reduceReplicate, Nat.reduceAdd, Nat.reduceSub, Nat.reduceMul, Bool.false_eq_true, Bool.true_eq_false, if_false, if_true, reduceIte])
local macro_rules | `(tactic| walk_at "ds") => `(tactic| simp only [dIfS, dTru, dB, dNot, dAnd, dOr, dVar, dC, dOp, dCall, dCons, dNil, dRet, dRetN, dAsg, dgName, dNext, dDrop, dDNew, dDGet, dDGetF, dDIn, dDNotIn, dDPut, dDDel, dDGet1, dDGet2, dFld, dSetF, dMeth, dMake, indexD2, dCBK, dLstRevT, dCallN, gK, cond_true, cond_false, Option.toList_some, diItems, diKeys, diVals, diZip, diEnum, listKD, eqKD, dPairs, keyed, popAtD, insertD, reverseD, dRaise, dRetX, dAsgX, dDropX, dCallX, dPureX, dXf, List.zip_cons_cons, List.zip_nil_right, List.zip_nil_left, List.reverse_cons, List.reverse_nil, dCB, dBM, dTup, dLst, dSl, dPart, dNoPart, dNotV, dAndV, dOrV, dIf, dNeg, diTup, diLst, diSeq, seqI_tup, seqI_lsv, seqI_ref, diRng1, diRng2, addD_int, addD_str, addD_tup, addD_ref, subD_int, mulD_int, fdivD_int, modD_int, powD_int, ltD_int, ltD_str, leD_int, gtD_int, geD_int, isD_non, isNotD_non, truD_non, truD_bl, truD_int, truD_str, truD_tup, truD_lsv, slD_tup, slD_str, slD_ref, slD_lsv, ixD_tup, ixD_lsv, ixD_str, ixD_ref, lenD_tup, lenD_lsv, lenD_str, lenD_ref, absD_int, intD_int, max2D_int, min2D_int, listD_tup, listD_lsv, listD_ref, tupleD_tup, tupleD_ref, isNon, dstart, dYes,
  List.map_cons, List.map_nil, List.length_cons, List.length_nil, List.nil_append, List.cons_append, List.append_nil, List.set_cons_zero, List.set_cons_succ, List.getElem?_cons_zero, List.getElem?_cons_succ, Option.some.injEq, exists_eq_left', exists_eq_left, exists_eq_right, exists_eq, exists_eq', List.cons.injEq, and_true, true_and, D.int.injEq, D.str.injEq, D.bl.injEq, D.tup.injEq, D.ref.injEq, D.ty.injEq, forall_eq', forall_eq, imp_self, forall_const, exists_and_left, exists_const, isL, appendD, popD, updD_same, updD_updD, DO.lst.injEq, eqD_int, neD_int, eqD_bl, neD_bl, cutD_1,
  decide_eq_true_eq, Bool.not_eq_true', decide_eq_false_iff_not, List.reduceReplicate, Nat.reduceAdd, Nat.reduceSub, Nat.reduceMul, Bool.false_eq_true, Bool.true_eq_false, if_false, if_true, reduceIte])
local macro_rules | `(tactic| walk_at "da") => `(tactic| simp only [dSeq, dIfS, dTru, dB, dNot, dAnd, dOr, dVar, dC, dOp, dCall, dCons, dNil, dRet, dRetN, dAsg, dgName, dNext, dDrop, dDNew, dDGet, dDGetF, dDIn, dDNotIn, dDPut, dDDel, dDGet1, dDGet2, dFld, dSetF, dMeth, dMake, indexD2, dCBK, dLstRevT, dCallN, gK, cond_true, cond_false, Option.toList_some, diItems, diKeys, diVals, diZip, diEnum, listKD, eqKD, dPairs, keyed, popAtD, insertD, reverseD, dRaise, dRetX, dAsgX, dDropX, dCallX, dPureX, dXf, List.zip_cons_cons, List.zip_nil_right, List.zip_nil_left, List.reverse_cons, List.reverse_nil, dCB, dBM, dTup, dLst, dSl, dPart, dNoPart, dNotV, dAndV, dOrV, dIf, dNeg, diTup, diLst, diSeq, seqI_tup, seqI_lsv, seqI_ref, diRng1, diRng2, addD_int, addD_str, addD_tup, addD_ref, subD_int, mulD_int, fdivD_int, modD_int, powD_int, ltD_int, ltD_str, leD_int, gtD_int, geD_int, isD_non, isNotD_non, truD_non, truD_bl, truD_int, truD_str, truD_tup, truD_lsv, slD_tup, slD_str, slD_ref, slD_lsv, ixD_tup, ixD_lsv, ixD_str, ixD_ref, lenD_tup, lenD_lsv, lenD_str, lenD_ref, absD_int, intD_int, max2D_int, min2D_int, listD_tup, listD_lsv, listD_ref, tupleD_tup, tupleD_ref, isNon, dstart, dYes,
  List.map_cons, List.map_nil, List.length_cons, List.length_nil, List.nil_append, List.cons_append, List.append_nil, List.set_cons_zero, List.set_cons_succ, List.getElem?_cons_zero, List.getElem?_cons_succ, Option.some.injEq, exists_eq_left', exists_eq_left, exists_eq_right, exists_eq, exists_eq', List.cons.injEq, and_true, true_and, D.int.injEq, D.str.injEq, D.bl.injEq, D.tup.injEq, D.ref.injEq, D.ty.injEq, forall_eq', forall_eq, imp_self, forall_const, exists_and_left, exists_const, isL, appendD, popD, updD_same, updD_updD, DO.lst.injEq, atI_0, atI_1, atI_2, atI_3, atI_4, sz1, sz2, sz3, sz4, sz5, sz6, eqD_int, neD_int, eqD_bl, neD_bl, cutD_1,
  decide_eq_true_eq, Bool.not_eq_true', decide_eq_false_iff_not, List.reduceReplicate, Nat.reduceAdd, Nat.reduceSub, Nat.reduceMul, Bool.false_eq_true, Bool.true_eq_false, if_false, if_true, reduceIte])
local macro_rules | `(tactic| walk_at "dz") => `(tactic| simp only [dIfS, dTru, dB, dNot, dAnd, dOr, dVar, dC, dOp, dCall, dCons, dNil, dRet, dRetN, dAsg, dgName, dNext, dDrop, dDNew, dDGet, dDGetF, dDIn, dDNotIn, dDPut, dDDel, dDGet1, dDGet2, dFld, dSetF, dMeth, dMake, indexD2, dCBK, dLstRevT, dCallN, gK, cond_true, cond_false, Option.toList_some, diItems, diKeys, diVals, diZip, diEnum, listKD, eqKD, dPairs, keyed, popAtD, insertD, reverseD, dRaise, dRetX, dAsgX, dDropX, dCallX, dPureX, dXf, List.zip_cons_cons, List.zip_nil_right, List.zip_nil_left, List.reverse_cons, List.reverse_nil, dCB, dBM, dTup, dLst, dSl, dPart, dNoPart, dNotV, dAndV, dOrV, dIf, dNeg, diTup, diLst, diSeq, seqI_tup, seqI_lsv, seqI_ref, diRng1, diRng2, addD_int, addD_str, addD_tup, addD_ref, subD_int, mulD_int, fdivD_int, modD_int, powD_int, ltD_int, ltD_str, leD_int, gtD_int, geD_int, isD_non, isNotD_non, truD_non, truD_bl, truD_int, truD_str, truD_tup, truD_lsv, slD_tup, slD_str, slD_ref, slD_lsv, ixD_tup, ixD_lsv, ixD_str, ixD_ref, lenD_tup, lenD_lsv, lenD_str, lenD_ref, absD_int, intD_int, max2D_int, min2D_int, listD_tup, listD_lsv, listD_ref, tupleD_tup, tupleD_ref, isNon, dstart, dYes,
  List.map_cons, List.map_nil, List.length_cons, List.length_nil, List.nil_append, List.cons_append, List.append_nil, List.set_cons_zero, List.set_cons_succ, List.getElem?_cons_zero, List.getElem?_cons_succ, Option.some.injEq, exists_eq_left', exists_eq_left, exists_eq_right, exists_eq, exists_eq', List.cons.injEq, and_true, true_and, D.int.injEq, D.str.injEq, D.bl.injEq, D.tup.injEq, D.ref.injEq, D.ty.injEq, forall_eq', forall_eq, imp_self, forall_const, exists_and_left, exists_const, isL, appendD, popD, updD_same, updD_updD, DO.lst.injEq, atI_0, atI_1, atI_2, atI_3, atI_4, sz1, sz2, sz3, sz4, sz5, sz6, eqD_int, neD_int, eqD_bl, neD_bl, cutD_1,
  decide_eq_true_eq, Bool.not_eq_true', decide_eq_false_iff_not, List.reduceReplicate, Nat.reduceAdd, Nat.reduceSub, Nat.reduceMul, Bool.false_eq_true, Bool.true_eq_false, if_false, if_true, reduceIte])
local macro_rules | `(tactic| walk_at "dw") => `(tactic| simp only [dIfS, dTru, dB, dNot, dAnd, dOr, dVar, dC, dOp, dCall, dCons, dNil, dRet, dRetN, dAsg, dgName, dNext, dDrop, dDNew, dDGet, dDGetF, dDIn, dDNotIn, dDPut, dDDel, dDGet1, dDGet2, dFld, dSetF, dMeth, dMake, indexD2, dCBK, dLstRevT, dCallN, gK, cond_true, cond_false, Option.toList_some, diItems, diKeys, diVals, diZip, diEnum, listKD, eqKD, dPairs, keyed, popAtD, insertD, reverseD, dRaise, dRetX, dAsgX, dDropX, dCallX, dPureX, dXf, List.zip_cons_cons, List.zip_nil_right, List.zip_nil_left, List.reverse_cons, List.reverse_nil, dCB, dBM, dTup, dLst, dSl, dPart, dNoPart, dNotV, dAndV, dOrV, dIf, dNeg, diTup, diLst, diSeq, seqI_tup, seqI_lsv, seqI_ref, diRng1, diRng2, addD_int, addD_str, addD_tup, addD_ref, subD_int, mulD_int, fdivD_int, modD_int, powD_int, ltD_int, ltD_str, leD_int, gtD_int, geD_int, isD_non, isNotD_non, truD_non, truD_bl, truD_int, truD_str, truD_tup, truD_lsv, slD_tup, slD_str, slD_ref, slD_lsv, ixD_tup, ixD_lsv, ixD_str, ixD_ref, lenD_tup, lenD_lsv, lenD_str, lenD_ref, absD_int, intD_int, max2D_int, min2D_int, listD_tup, listD_lsv, listD_ref, tupleD_tup, tupleD_ref, isNon, dstart, dYes,
  List.map_cons, List.map_nil, List.length_cons, List.length_nil, List.nil_append, List.cons_append, List.append_nil, List.set_cons_zero, List.set_cons_succ, List.getElem?_cons_zero, List.getElem?_cons_succ, Option.some.injEq, exists_eq_left', exists_eq_left, exists_eq_right, exists_eq, exists_eq', List.cons.injEq, and_true, true_and, D.int.injEq, D.str.injEq, D.bl.injEq, D.tup.injEq, D.ref.injEq, D.ty.injEq, forall_eq', forall_eq, imp_self, forall_const, exists_and_left, exists_const, isL, appendD, popD, updD_same, updD_updD, DO.lst.injEq, atI_0, atI_1, atI_2, atI_3, atI_4, sz1, sz2, sz3, sz4, sz5, sz6, eqD_int, neD_int, eqD_bl, neD_bl, cutD_1,
  decide_eq_true_eq, Bool.not_eq_true', decide_eq_false_iff_not, List.reduceReplicate, Nat.reduceAdd, Nat.reduceSub, Nat.reduceMul, Bool.false_eq_true, Bool.true_eq_false, if_false, if_true, reduceIte, dgSub, setD, ix4s, ix5s, atI_0, atI_1, atI_2, atI_3, atI_4, *])
local macro_rules | `(tactic| walk_at "dv") => `(tactic| simp only [dSeq, dIfS, dTru, dB, dNot, dAnd, dOr, dVar, dC, dOp, dCall, dCons, dNil, dRet, dRetN, dAsg, dgName, dNext, dDrop, dDNew, dDGet, dDGetF, dDIn, dDNotIn, dDPut, dDDel, dDGet1, dDGet2, dFld, dSetF, dMeth, dMake, indexD2, dCBK, dLstRevT, dCallN, gK, cond_true, cond_false, Option.toList_some, diItems, diKeys, diVals, diZip, diEnum, listKD, eqKD, dPairs, keyed, popAtD, insertD, reverseD, dRaise, dRetX, dAsgX, dDropX, dCallX, dPureX, dXf, List.zip_cons_cons, List.zip_nil_right, List.zip_nil_left, List.reverse_cons, List.reverse_nil, dCB, dBM, dTup, dLst, dSl, dPart, dNoPart, dNotV, dAndV, dOrV, dIf, dNeg, diTup, diLst, diSeq, seqI_tup, seqI_lsv, seqI_ref, diRng1, diRng2, addD_int, addD_str, addD_tup, addD_ref, subD_int, mulD_int, fdivD_int, modD_int, powD_int, ltD_int, ltD_str, leD_int, gtD_int, geD_int, isD_non, isNotD_non, truD_non, truD_bl, truD_int, truD_str, truD_tup, truD_lsv, slD_tup, slD_str, slD_ref, slD_lsv, ixD_tup, ixD_lsv, ixD_str, ixD_ref, lenD_tup, lenD_lsv, lenD_str, lenD_ref, absD_int, intD_int, max2D_int, min2D_int, listD_tup, listD_lsv, listD_ref, tupleD_tup, tupleD_ref, isNon, dstart, dYes,
  List.map_cons, List.map_nil, List.length_cons, List.length_nil, List.nil_append, List.cons_append, List.append_nil, List.set_cons_zero, List.set_cons_succ, List.getElem?_cons_zero, List.getElem?_cons_succ, Option.some.injEq, exists_eq_left', exists_eq_left, exists_eq_right, exists_eq, exists_eq', List.cons.injEq, and_true, true_and, D.int.injEq, D.str.injEq, D.bl.injEq, D.tup.injEq, D.ref.injEq, D.ty.injEq, forall_eq', forall_eq, imp_self, forall_const, exists_and_left, exists_const, isL, appendD, popD, updD_same, updD_updD, DO.lst.injEq, atI_0, atI_1, atI_2, atI_3, atI_4, sz1, sz2, sz3, sz4, sz5, sz6, eqD_int, neD_int, eqD_bl, neD_bl, cutD_1,
  decide_eq_true_eq, Bool.not_eq_true', decide_eq_false_iff_not, List.reduceReplicate, Nat.reduceAdd, Nat.reduceSub, Nat.reduceMul, Bool.false_eq_true, Bool.true_eq_false, if_false, if_true, reduceIte, dgSub, setD, ix4s, ix5s, atI_0, atI_1, atI_2, atI_3, atI_4, *])

theorem okDs_get {ds : List D} {i : Nat} {d : D} (h : okDs ds = true) (e : ds[i]? = some d) : okD d = true := by
  induction ds generalizing i with
  | nil => simp at e
  | cons x xs ih =>
    simp only [okDs, Bool.and_eq_true] at h
    cases i with
    | zero => simp at e; subst e; exact h.1
    | succ i => exact ih h.2 (by simpa using e)
theorem deps_get {ds : List D} {i : Nat} {d : D} (e : ds[i]? = some d) : dep d ≤ deps ds := by
  induction ds generalizing i with
  | nil => simp at e
  | cons x xs ih =>
    simp only [deps]
    cases i with
    | zero => simp at e; subst e; exact Nat.le_max_left _ _
    | succ i => exact Nat.le_trans (ih (by simpa using e)) (Nat.le_max_right _ _)
theorem updD_self {h : DH} {a : Addr} {o : DO} (e : h a = some o) : updD h a o = h := by
  funext b
  unfold updD
  split
  · rename_i z; rw [z, e]
  · rfl
theorem updD_comm {h : DH} {a b : Addr} {o u : DO} (n : a ≠ b) : updD (updD h a o) b u = updD (updD h b u) a o := by
  funext c
  unfold updD
  by_cases e1 : c = b
  · subst e1
    rw [if_pos rfl, if_neg (fun z => n z.symm), if_pos rfl]
  · rw [if_neg e1]
    by_cases e2 : c = a
    · subst e2; rw [if_pos rfl, if_pos rfl]
    · rw [if_neg e2, if_neg e2, if_neg e1]
/-- all but a stays -/
def Off (a : Addr) (h h' : DH) : Prop := ∀ b o, b ≠ a → h b = some o → h' b = some o
theorem Off.refl (a : Addr) (h : DH) : Off a h h := fun _ _ _ e => e
theorem Off.new {a q : Addr} {h h1 : DH} {o : DO} (x : Off a h h1) (n : h1 q = none) : Off a h (updD h1 q o) := fun b u z e => by
  have := x b u z e
  rw [updD_ne (neD this n)]; exact this
theorem Off.mut {a p : Addr} {h h1 : DH} {o : DO} (x : Off a h h1) (n : h p = none) : Off a h (updD h1 p o) := fun b u z e => by
  rw [updD_ne (neD e n)]; exact x b u z e
theorem Off.trans {a : Addr} {h h1 h2 : DH} (x : Off a h h1) (y : Off a h1 h2) : Off a h h2 := fun b o n e => y b o n (x b o n e)
theorem Off.sub {a : Addr} {h h' : DH} {o : DO} (x : Off a h h') (e : h' a = some o) : Sub (updD h a o) h' := fun b u q => by
  by_cases z : b = a
  · subst z; rw [updD_same] at q; rw [← q]; exact e
  · rw [updD_ne z] at q; exact x b u z q
theorem nodup_le {α : Type} [DecidableEq α] : ∀ {l m : List α}, l.Nodup → (∀ x ∈ l, x ∈ m) → l.length ≤ m.length
  | [], _, _, _ => Nat.zero_le _
  | x :: l, m, nd, h => by
    obtain ⟨h1, h2⟩ := List.nodup_cons.mp nd
    have hx := h x List.mem_cons_self
    have := nodup_le (l := l) (m := m.erase x) h2 fun y hy => (List.mem_erase_of_ne (by rintro rfl; exact h1 hy)).mpr (h y (List.mem_cons_of_mem _ hy))
    rw [List.length_erase_of_mem hx] at this
    have := List.length_pos_of_mem hx
    simp; omega
theorem str_append (a b : Str) : (a ++ b).cps.toList = a.cps.toList ++ b.cps.toList := by
  show (a.cps ++ b.cps).toList = _
  simp
theorem str_len (a : Str) : a.length = a.cps.toList.length := by
  unfold Str.length
  simp
theorem str_ext {a b : Str} (h : a.cps.toList = b.cps.toList) : a = b := by
  cases a; cases b
  congr
  exact Array.toList_inj.mp h
theorem okDs_all {ds : List D} (h : ∀ x ∈ ds, okD x = true) : okDs ds = true := by
  induction ds with
  | nil => rfl
  | cons x xs ih =>
    simp only [okDs, Bool.and_eq_true]
    exact ⟨h x List.mem_cons_self, ih fun y hy => h y (List.mem_cons_of_mem _ hy)⟩
theorem deps_all {ds : List D} {n : Nat} (h : ∀ x ∈ ds, dep x ≤ n) : deps ds ≤ n := by
  induction ds with
  | nil => exact Nat.zero_le _
  | cons x xs ih =>
    simp only [deps]
    have := h x List.mem_cons_self
    have := ih fun y hy => h y (List.mem_cons_of_mem _ hy)
    omega
theorem datD_ref {h : DH} {a : Addr} {ds : List D} (e : h a = some (.lst ds)) : datD h (.ref a) = some (.lsv ds) := by simp [datD, e]
theorem datD_bl {h : DH} {b : Bool} : datD h (.bl b) = some (.bl b) := rfl
theorem datD_int {h : DH} {b : Int} : datD h (.int b) = some (.int b) := rfl
theorem cutD_nat {α : Type} (xs : List α) (n : Nat) : cutD xs (some (n : Int)) none = xs.drop n := by
  unfold cutD
  rw [HT.sIx_nat, HT.sIx_none]
  by_cases l : n ≤ xs.length
  · rw [Nat.min_eq_left l]
    exact List.take_of_length_le (by simp)
  · rw [Nat.min_eq_right (by omega), List.drop_of_length_le (Nat.le_refl _), List.drop_of_length_le (by omega)]
    simp
theorem cutD_to {α : Type} (xs : List α) (n : Nat) : cutD xs none (some (n : Int)) = xs.take n := by
  unfold cutD
  rw [HT.sIx_nat, HT.sIx_none]
  rw [Nat.sub_zero, List.drop_zero]
  by_cases l : n ≤ xs.length
  · rw [Nat.min_eq_left l]
  · rw [Nat.min_eq_right (by omega), List.take_of_length_le (Nat.le_refl _), List.take_of_length_le (by omega)]
theorem atI_int {α : Type} {xs : List α} {i : Int} (h0 : 0 ≤ i) (h1 : i < xs.length) : ∃ x, x ∈ xs ∧ xs[i.toNat]? = some x ∧ atI xs i = some x := by
  obtain ⟨n, rfl⟩ : ∃ n : Nat, i = n := ⟨i.toNat, by omega⟩
  have l : n < xs.length := by omega
  exact ⟨xs[n], List.getElem_mem l, List.getElem?_eq_getElem l, atI_n l⟩
theorem atI_strs {ws : List Str} {i : Int} (h0 : 0 ≤ i) (h1 : i < ws.length) : ∃ w, w ∈ ws ∧ ws[i.toNat]? = some w ∧ atI (ws.map D.str) i = some (.str w) := by
  obtain ⟨n, rfl⟩ : ∃ n : Nat, i = n := ⟨i.toNat, by omega⟩
  have l : n < ws.length := by omega
  exact ⟨ws[n], List.getElem_mem l, List.getElem?_eq_getElem l, atI_nat (by rw [List.getElem?_map, List.getElem?_eq_getElem l]; rfl)⟩
theorem Sub.put {h h' : DH} {p : Addr} {o : DO} (s : Sub h h') (e : h' p = some o) : Sub (updD h p o) h' := fun b u q => by
  by_cases z : b = p
  · subst z; rw [updD_same] at q; rw [← q]; exact e
  · rw [updD_ne z] at q; exact s b u q

end DL

namespace DL
open PySem PySem.Spec PyProof.Rows L2
local macro_rules | `(tactic| walk_at "dl") => `(tactic| simp only [dSeq, dIfS, dTru, dB, dNot, dAnd, dOr, dVar, dC, dOp, dCall, dCons, dNil, dRet, dRetN, dAsg, dgName, dNext, dDrop, dDNew, dDGet, dDGetF, dDIn, dDNotIn, dDPut, dDDel, dDGet1, dDGet2, dFld, dSetF, dMeth, dMake, indexD2, dCBK, dLstRevT, dCallN, gK, cond_true, cond_false, Option.toList_some, diItems, diKeys, diVals, diZip, diEnum, listKD, eqKD, dPairs, keyed, popAtD, insertD, reverseD, dRaise, dRetX, dAsgX, dDropX, dCallX, dPureX, dXf, List.zip_cons_cons, List.zip_nil_right, List.zip_nil_left, List.reverse_cons, List.reverse_nil, dCB, dBM, dTup, dLst, dSl, dPart, dNoPart, dNotV, dAndV, dOrV, dIf, dNeg, diTup, diLst, diSeq, seqI_tup, seqI_lsv, seqI_ref, diRng1, diRng2, addD_int, addD_str, addD_tup, addD_ref, subD_int, mulD_int, fdivD_int, modD_int, powD_int, ltD_int, ltD_str, leD_int, gtD_int, geD_int, isD_non, isNotD_non, truD_non, truD_bl, truD_int, truD_str, truD_tup, truD_lsv, slD_tup, slD_str, slD_ref, slD_lsv, ixD_tup, ixD_lsv, ixD_str, ixD_ref, lenD_tup, lenD_lsv, lenD_str, lenD_ref, absD_int, intD_int, max2D_int, min2D_int, listD_tup, listD_lsv, listD_ref, tupleD_tup, tupleD_ref, isNon, dstart, dYes,
  List.map_cons, List.map_nil, List.length_cons, List.length_nil, List.nil_append, List.cons_append, List.append_nil, List.set_cons_zero, List.set_cons_succ, List.getElem?_cons_zero, List.getElem?_cons_succ, Option.some.injEq, exists_eq_left', exists_eq_left, exists_eq_right, exists_eq, exists_eq', List.cons.injEq, and_true, true_and, D.int.injEq, D.str.injEq, D.bl.injEq, D.tup.injEq, D.ref.injEq, D.ty.injEq, forall_eq', forall_eq, imp_self, forall_const, exists_and_left, exists_const, isL, appendD, popD, updD_same, updD_updD, DO.lst.injEq, eqD_int, neD_int, eqD_bl, neD_bl, cutD_1,
  decide_eq_true_eq, Bool.not_eq_true', decide_eq_false_iff_not, List.reduceReplicate, Nat.reduceAdd, Nat.reduceSub, Nat.reduceMul, Bool.false_eq_true, Bool.true_eq_false, if_false, if_true, reduceIte])
local macro_rules | `(tactic| walk_at "ds") => `(tactic| simp only [dIfS, dTru, dB, dNot, dAnd, dOr, dVar, dC, dOp, dCall, dCons, dNil, dRet, dRetN, dAsg, dgName, dNext, dDrop, dDNew, dDGet, dDGetF, dDIn, dDNotIn, dDPut, dDDel, dDGet1, dDGet2, dFld, dSetF, dMeth, dMake, indexD2, dCBK, dLstRevT, dCallN, gK, cond_true, cond_false, Option.toList_some, diItems, diKeys, diVals, diZip, diEnum, listKD, eqKD, dPairs, keyed, popAtD, insertD, reverseD, dRaise, dRetX, dAsgX, dDropX, dCallX, dPureX, dXf, List.zip_cons_cons, List.zip_nil_right, List.zip_nil_left, List.reverse_cons, List.reverse_nil, dCB, dBM, dTup, dLst, dSl, dPart, dNoPart, dNotV, dAndV, dOrV, dIf, dNeg, diTup, diLst, diSeq, seqI_tup, seqI_lsv, seqI_ref, diRng1, diRng2, addD_int, addD_str, addD_tup, addD_ref, subD_int, mulD_int, fdivD_int, modD_int, powD_int, ltD_int, ltD_str, leD_int, gtD_int, geD_int, isD_non, isNotD_non, truD_non, truD_bl, truD_int, truD_str, truD_tup, truD_lsv, slD_tup, slD_str, slD_ref, slD_lsv, ixD_tup, ixD_lsv, ixD_str, ixD_ref, lenD_tup, lenD_lsv, lenD_str, lenD_ref, absD_int, intD_int, max2D_int, min2D_int, listD_tup, listD_lsv, listD_ref, tupleD_tup, tupleD_ref, isNon, dstart, dYes,
  List.map_cons, List.map_nil, List.length_cons, List.length_nil, List.nil_append, List.cons_append, List.append_nil, List.set_cons_zero, List.set_cons_succ, List.getElem?_cons_zero, List.getElem?_cons_succ, Option.some.injEq, exists_eq_left', exists_eq_left, exists_eq_right, exists_eq, exists_eq', List.cons.injEq, and_true, true_and, D.int.injEq, D.str.injEq, D.bl.injEq, D.tup.injEq, D.ref.injEq, D.ty.injEq, forall_eq', forall_eq, imp_self, forall_const, exists_and_left, exists_const, isL, appendD, popD, updD_same, updD_updD, DO.lst.injEq, eqD_int, neD_int, eqD_bl, neD_bl, cutD_1,
  decide_eq_true_eq, Bool.not_eq_true', decide_eq_false_iff_not, List.reduceReplicate, Nat.reduceAdd, Nat.reduceSub, Nat.reduceMul, Bool.false_eq_true, Bool.true_eq_false, if_false, if_true, reduceIte])
local macro_rules | `(tactic| walk_at "da") => `(tactic| simp only [dSeq, dIfS, dTru, dB, dNot, dAnd, dOr, dVar, dC, dOp, dCall, dCons, dNil, dRet, dRetN, dAsg, dgName, dNext, dDrop, dDNew, dDGet, dDGetF, dDIn, dDNotIn, dDPut, dDDel, dDGet1, dDGet2, dFld, dSetF, dMeth, dMake, indexD2, dCBK, dLstRevT, dCallN, gK, cond_true, cond_false, Option.toList_some, diItems, diKeys, diVals, diZip, diEnum, listKD, eqKD, dPairs, keyed, popAtD, insertD, reverseD, dRaise, dRetX, dAsgX, dDropX, dCallX, dPureX, dXf, List.zip_cons_cons, List.zip_nil_right, List.zip_nil_left, List.reverse_cons, List.reverse_nil, dCB, dBM, dTup, dLst, dSl, dPart, dNoPart, dNotV, dAndV, dOrV, dIf, dNeg, diTup, diLst, diSeq, seqI_tup, seqI_lsv, seqI_ref, diRng1, diRng2, addD_int, addD_str, addD_tup, addD_ref, subD_int, mulD_int, fdivD_int, modD_int, powD_int, ltD_int, ltD_str, leD_int, gtD_int, geD_int, isD_non, isNotD_non, truD_non, truD_bl, truD_int, truD_str, truD_tup, truD_lsv, slD_tup, slD_str, slD_ref, slD_lsv, ixD_tup, ixD_lsv, ixD_str, ixD_ref, lenD_tup, lenD_lsv, lenD_str, lenD_ref, absD_int, intD_int, max2D_int, min2D_int, listD_tup, listD_lsv, listD_ref, tupleD_tup, tupleD_ref, isNon, dstart, dYes,
  List.map_cons, List.map_nil, List.length_cons, List.length_nil, List.nil_append, List.cons_append, List.append_nil, List.set_cons_zero, List.set_cons_succ, List.getElem?_cons_zero, List.getElem?_cons_succ, Option.some.injEq, exists_eq_left', exists_eq_left, exists_eq_right, exists_eq, exists_eq', List.cons.injEq, and_true, true_and, D.int.injEq, D.str.injEq, D.bl.injEq, D.tup.injEq, D.ref.injEq, D.ty.injEq, forall_eq', forall_eq, imp_self, forall_const, exists_and_left, exists_const, isL, appendD, popD, updD_same, updD_updD, DO.lst.injEq, atI_0, atI_1, atI_2, atI_3, atI_4, sz1, sz2, sz3, sz4, sz5, sz6, eqD_int, neD_int, eqD_bl, neD_bl, cutD_1,
  decide_eq_true_eq, Bool.not_eq_true', decide_eq_false_iff_not, List.reduceReplicate, Nat.reduceAdd, Nat.reduceSub, Nat.reduceMul, Bool.false_eq_true, Bool.true_eq_false, if_false, if_true, reduceIte])
local macro_rules | `(tactic| walk_at "dz") => `(tactic| simp only [dIfS, dTru, dB, dNot, dAnd, dOr, dVar, dC, dOp, dCall, dCons, dNil, dRet, dRetN, dAsg, dgName, dNext, dDrop, dDNew, dDGet, dDGetF, dDIn, dDNotIn, dDPut, dDDel, dDGet1, dDGet2, dFld, dSetF, dMeth, dMake, indexD2, dCBK, dLstRevT, dCallN, gK, cond_true, cond_false, Option.toList_some, diItems, diKeys, diVals, diZip, diEnum, listKD, eqKD, dPairs, keyed, popAtD, insertD, reverseD, dRaise, dRetX, dAsgX, dDropX, dCallX, dPureX, dXf, List.zip_cons_cons, List.zip_nil_right, List.zip_nil_left, List.reverse_cons, List.reverse_nil, dCB, dBM, dTup, dLst, dSl, dPart, dNoPart, dNotV, dAndV, dOrV, dIf, dNeg, diTup, diLst, diSeq, seqI_tup, seqI_lsv, seqI_ref, diRng1, diRng2, addD_int, addD_str, addD_tup, addD_ref, subD_int, mulD_int, fdivD_int, modD_int, powD_int, ltD_int, ltD_str, leD_int, gtD_int, geD_int, isD_non, isNotD_non, truD_non, truD_bl, truD_int, truD_str, truD_tup, truD_lsv, slD_tup, slD_str, slD_ref, slD_lsv, ixD_tup, ixD_lsv, ixD_str, ixD_ref, lenD_tup, lenD_lsv, lenD_str, lenD_ref, absD_int, intD_int, max2D_int, min2D_int, listD_tup, listD_lsv, listD_ref, tupleD_tup, tupleD_ref, isNon, dstart, dYes,
  List.map_cons, List.map_nil, List.length_cons, List.length_nil, List.nil_append, List.cons_append, List.append_nil, List.set_cons_zero, List.set_cons_succ, List.getElem?_cons_zero, List.getElem?_cons_succ, Option.some.injEq, exists_eq_left', exists_eq_left, exists_eq_right, exists_eq, exists_eq', List.cons.injEq, and_true, true_and, D.int.injEq, D.str.injEq, D.bl.injEq, D.tup.injEq, D.ref.injEq, D.ty.injEq, forall_eq', forall_eq, imp_self, forall_const, exists_and_left, exists_const, isL, appendD, popD, updD_same, updD_updD, DO.lst.injEq, atI_0, atI_1, atI_2, atI_3, atI_4, sz1, sz2, sz3, sz4, sz5, sz6, eqD_int, neD_int, eqD_bl, neD_bl, cutD_1,
  decide_eq_true_eq, Bool.not_eq_true', decide_eq_false_iff_not, List.reduceReplicate, Nat.reduceAdd, Nat.reduceSub, Nat.reduceMul, Bool.false_eq_true, Bool.true_eq_false, if_false, if_true, reduceIte])
local macro_rules | `(tactic| walk_at "dw") => `(tactic| simp only [dIfS, dTru, dB, dNot, dAnd, dOr, dVar, dC, dOp, dCall, dCons, dNil, dRet, dRetN, dAsg, dgName, dNext, dDrop, dDNew, dDGet, dDGetF, dDIn, dDNotIn, dDPut, dDDel, dDGet1, dDGet2, dFld, dSetF, dMeth, dMake, indexD2, dCBK, dLstRevT, dCallN, gK, cond_true, cond_false, Option.toList_some, diItems, diKeys, diVals, diZip, diEnum, listKD, eqKD, dPairs, keyed, popAtD, insertD, reverseD, dRaise, dRetX, dAsgX, dDropX, dCallX, dPureX, dXf, List.zip_cons_cons, List.zip_nil_right, List.zip_nil_left, List.reverse_cons, List.reverse_nil, dCB, dBM, dTup, dLst, dSl, dPart, dNoPart, dNotV, dAndV, dOrV, dIf, dNeg, diTup, diLst, diSeq, seqI_tup, seqI_lsv, seqI_ref, diRng1, diRng2, addD_int, addD_str, addD_tup, addD_ref, subD_int, mulD_int, fdivD_int, modD_int, powD_int, ltD_int, ltD_str, leD_int, gtD_int, geD_int, isD_non, isNotD_non, truD_non, truD_bl, truD_int, truD_str, truD_tup, truD_lsv, slD_tup, slD_str, slD_ref, slD_lsv, ixD_tup, ixD_lsv, ixD_str, ixD_ref, lenD_tup, lenD_lsv, lenD_str, lenD_ref, absD_int, intD_int, max2D_int, min2D_int, listD_tup, listD_lsv, listD_ref, tupleD_tup, tupleD_ref, isNon, dstart, dYes,
  List.map_cons, List.map_nil, List.length_cons, List.length_nil, List.nil_append, List.cons_append, List.append_nil, List.set_cons_zero, List.set_cons_succ, List.getElem?_cons_zero, List.getElem?_cons_succ, Option.some.injEq, exists_eq_left', exists_eq_left, exists_eq_right, exists_eq, exists_eq', List.cons.injEq, and_true, true_and, D.int.injEq, D.str.injEq, D.bl.injEq, D.tup.injEq, D.ref.injEq, D.ty.injEq, forall_eq', forall_eq, imp_self, forall_const, exists_and_left, exists_const, isL, appendD, popD, updD_same, updD_updD, DO.lst.injEq, atI_0, atI_1, atI_2, atI_3, atI_4, sz1, sz2, sz3, sz4, sz5, sz6, eqD_int, neD_int, eqD_bl, neD_bl, cutD_1,
  decide_eq_true_eq, Bool.not_eq_true', decide_eq_false_iff_not, List.reduceReplicate, Nat.reduceAdd, Nat.reduceSub, Nat.reduceMul, Bool.false_eq_true, Bool.true_eq_false, if_false, if_true, reduceIte, dgSub, setD, ix4s, ix5s, atI_0, atI_1, atI_2, atI_3, atI_4, *])
local macro_rules | `(tactic| walk_at "dv") => `(tactic| simp only [dSeq, dIfS, dTru, dB, dNot, dAnd, dOr, dVar, dC, dOp, dCall, dCons, dNil, dRet, dRetN, dAsg, dgName, dNext, dDrop, dDNew, dDGet, dDGetF, dDIn, dDNotIn, dDPut, dDDel, dDGet1, dDGet2, dFld, dSetF, dMeth, dMake, indexD2, dCBK, dLstRevT, dCallN, gK, cond_true, cond_false, Option.toList_some, diItems, diKeys, diVals, diZip, diEnum, listKD, eqKD, dPairs, keyed, popAtD, insertD, reverseD, dRaise, dRetX, dAsgX, dDropX, dCallX, dPureX, dXf, List.zip_cons_cons, List.zip_nil_right, List.zip_nil_left, List.reverse_cons, List.reverse_nil, dCB, dBM, dTup, dLst, dSl, dPart, dNoPart, dNotV, dAndV, dOrV, dIf, dNeg, diTup, diLst, diSeq, seqI_tup, seqI_lsv, seqI_ref, diRng1, diRng2, addD_int, addD_str, addD_tup, addD_ref, subD_int, mulD_int, fdivD_int, modD_int, powD_int, ltD_int, ltD_str, leD_int, gtD_int, geD_int, isD_non, isNotD_non, truD_non, truD_bl, truD_int, truD_str, truD_tup, truD_lsv, slD_tup, slD_str, slD_ref, slD_lsv, ixD_tup, ixD_lsv, ixD_str, ixD_ref, lenD_tup, lenD_lsv, lenD_str, lenD_ref, absD_int, intD_int, max2D_int, min2D_int, listD_tup, listD_lsv, listD_ref, tupleD_tup, tupleD_ref, isNon, dstart, dYes,
  List.map_cons, List.map_nil, List.length_cons, List.length_nil, List.nil_append, List.cons_append, List.append_nil, List.set_cons_zero, List.set_cons_succ, List.getElem?_cons_zero, List.getElem?_cons_succ, Option.some.injEq, exists_eq_left', exists_eq_left, exists_eq_right, exists_eq, exists_eq', List.cons.injEq, and_true, true_and, D.int.injEq, D.str.injEq, D.bl.injEq, D.tup.injEq, D.ref.injEq, D.ty.injEq, forall_eq', forall_eq, imp_self, forall_const, exists_and_left, exists_const, isL, appendD, popD, updD_same, updD_updD, DO.lst.injEq, atI_0, atI_1, atI_2, atI_3, atI_4, sz1, sz2, sz3, sz4, sz5, sz6, eqD_int, neD_int, eqD_bl, neD_bl, cutD_1,
  decide_eq_true_eq, Bool.not_eq_true', decide_eq_false_iff_not, List.reduceReplicate, Nat.reduceAdd, Nat.reduceSub, Nat.reduceMul, Bool.false_eq_true, Bool.true_eq_false, if_false, if_true, reduceIte, dgSub, setD, ix4s, ix5s, atI_0, atI_1, atI_2, atI_3, atI_4, *])

/-! constants of the formulas' module -/
def c_MAX_ARITY : D := .int 8

end DL

namespace Lk14
open PySem PySem.Spec PyProof.Rows L2 DL

def top (i : Nat) : Stmt := PySem.Challenge.pw_elenchus_k14_signatures.main.body.getD i (.Pass ⟨0, 0, 0, 0⟩)
abbrev s_law_draws : Stmt := top 10
abbrev s_law_take : Stmt := top 11
abbrev s_law_words : Stmt := top 12
abbrev s_law_same_1a08 : Stmt := top 13
abbrev s_law_add : Stmt := top 14
abbrev s_law_ask_f35a : Stmt := top 15
abbrev s_law_kind_ef40 : Stmt := top 16
abbrev s_law_due_2e6d : Stmt := top 17
abbrev s_law_agrees : Stmt := top 18
abbrev s_law_k14 : Stmt := top 19
abbrev s_Signature_init__ : Stmt := inClass (top 8) 0
abbrev s_Signature_add : Stmt := inClass (top 8) 1
abbrev s_Signature_add_function : Stmt := inClass (top 8) 2
abbrev s_Signature_add_predicate : Stmt := inClass (top 8) 3
abbrev s_Signature_functions : Stmt := inClass (top 8) 4
abbrev s_Signature_predicates : Stmt := inClass (top 8) 5
abbrev s_Signature_entry : Stmt := inClass (top 8) 6
abbrev s_Signature_arity : Stmt := inClass (top 8) 7
abbrev s_Signature_is_predicate_1a94 : Stmt := inClass (top 8) 8
abbrev s_Signature_contains__ : Stmt := inClass (top 8) 9
abbrev s_Signature_len__ : Stmt := inClass (top 8) 10
abbrev s_UnknownSymbol_init__ : Stmt := inClass (top 2) 0
abbrev s_KindError_init__ : Stmt := inClass (top 3) 0
abbrev s_ArityError_init__ : Stmt := inClass (top 4) 0
abbrev s_TooLarge_init__ : Stmt := inClass (top 5) 0
def fn : List He.DefD := [⟨("_law_draws", none), "_law_draws", "_law_draws", defArgs s_law_draws, defBody s_law_draws, defScope s_law_draws, [], []⟩, ⟨("_law_take", none), "_law_take", "_law_take", defArgs s_law_take, defBody s_law_take, defScope s_law_take, [], []⟩, ⟨("_law_words", none), "_law_words", "_law_words", defArgs s_law_words, defBody s_law_words, defScope s_law_words, [], []⟩, ⟨("_law_same", none), "_law_same", "_law_same", defArgs s_law_same_1a08, defBody s_law_same_1a08, defScope s_law_same_1a08, [], []⟩, ⟨("_law_add", none), "_law_add", "_law_add", defArgs s_law_add, defBody s_law_add, defScope s_law_add, [], []⟩, ⟨("_law_ask", none), "_law_ask", "_law_ask", defArgs s_law_ask_f35a, defBody s_law_ask_f35a, defScope s_law_ask_f35a, [], []⟩, ⟨("_law_kind", none), "_law_kind", "_law_kind", defArgs s_law_kind_ef40, defBody s_law_kind_ef40, defScope s_law_kind_ef40, [], []⟩, ⟨("_law_due", none), "_law_due", "_law_due", defArgs s_law_due_2e6d, defBody s_law_due_2e6d, defScope s_law_due_2e6d, [], []⟩, ⟨("_law_agrees", none), "_law_agrees", "_law_agrees", defArgs s_law_agrees, defBody s_law_agrees, defScope s_law_agrees, [], []⟩, ⟨("law", none), "law", "law", defArgs s_law_k14, defBody s_law_k14, defScope s_law_k14, [], []⟩, ⟨("UnknownSymbol", some "__init__"), "__init__", "UnknownSymbol.__init__", defArgs s_UnknownSymbol_init__, defBody s_UnknownSymbol_init__, defScope s_UnknownSymbol_init__, [], []⟩, ⟨("KindError", some "__init__"), "__init__", "KindError.__init__", defArgs s_KindError_init__, defBody s_KindError_init__, defScope s_KindError_init__, [], []⟩, ⟨("ArityError", some "__init__"), "__init__", "ArityError.__init__", defArgs s_ArityError_init__, defBody s_ArityError_init__, defScope s_ArityError_init__, [], []⟩, ⟨("TooLarge", some "__init__"), "__init__", "TooLarge.__init__", defArgs s_TooLarge_init__, defBody s_TooLarge_init__, defScope s_TooLarge_init__, [], []⟩, ⟨("Signature", some "__init__"), "__init__", "Signature.__init__", defArgs s_Signature_init__, defBody s_Signature_init__, defScope s_Signature_init__, [], []⟩, ⟨("Signature", some "_add"), "_add", "Signature._add", defArgs s_Signature_add, defBody s_Signature_add, defScope s_Signature_add, [], []⟩, ⟨("Signature", some "add_function"), "add_function", "Signature.add_function", defArgs s_Signature_add_function, defBody s_Signature_add_function, defScope s_Signature_add_function, [], []⟩, ⟨("Signature", some "add_predicate"), "add_predicate", "Signature.add_predicate", defArgs s_Signature_add_predicate, defBody s_Signature_add_predicate, defScope s_Signature_add_predicate, [], []⟩, ⟨("Signature", some "functions"), "functions", "Signature.functions", defArgs s_Signature_functions, defBody s_Signature_functions, defScope s_Signature_functions, [], []⟩, ⟨("Signature", some "predicates"), "predicates", "Signature.predicates", defArgs s_Signature_predicates, defBody s_Signature_predicates, defScope s_Signature_predicates, [], []⟩, ⟨("Signature", some "_entry"), "_entry", "Signature._entry", defArgs s_Signature_entry, defBody s_Signature_entry, defScope s_Signature_entry, [], []⟩, ⟨("Signature", some "arity"), "arity", "Signature.arity", defArgs s_Signature_arity, defBody s_Signature_arity, defScope s_Signature_arity, [], []⟩, ⟨("Signature", some "is_predicate"), "is_predicate", "Signature.is_predicate", defArgs s_Signature_is_predicate_1a94, defBody s_Signature_is_predicate_1a94, defScope s_Signature_is_predicate_1a94, [], []⟩, ⟨("Signature", some "__contains__"), "__contains__", "Signature.__contains__", defArgs s_Signature_contains__, defBody s_Signature_contains__, defScope s_Signature_contains__, [], []⟩, ⟨("Signature", some "__len__"), "__len__", "Signature.__len__", defArgs s_Signature_len__, defBody s_Signature_len__, defScope s_Signature_len__, [], []⟩]
def fa : List He.Fa := [.glo "_law_draws", .glo "_law_take", .glo "_law_words", .glo "_law_same", .glo "_law_add", .glo "_law_ask", .glo "_law_kind", .glo "_law_due", .glo "_law_agrees", .glo "law", .free "abs", .free "bool", .free "int", .free "isinstance", .free "len", .free "list", .free "range", .free "reversed", .free "str", .free "tuple", .glo "TooLarge", .glo "KindError", .glo "ArityError", .glo "UnknownSymbol", .meth "Signature" "__init__", .meth "Signature" "_add", .meth "Signature" "add_function", .meth "Signature" "add_predicate", .meth "Signature" "functions", .meth "Signature" "predicates", .meth "Signature" "_entry", .meth "Signature" "arity", .meth "Signature" "is_predicate", .meth "Signature" "__contains__", .meth "Signature" "__len__", .mkr "Signature", .glo "Signature"]
def loose : List Str := (["ElenchusError", "UnknownSymbol", "KindError", "ArityError", "TooLarge", "MAX_ARITY", "Signature", "_law_draws", "_law_take", "_law_words", "_law_same", "_law_add", "_law_ask", "_law_kind", "_law_due", "_law_agrees"] : List Str)
abbrev R : PySem.W.OpenRow := PySem.W.OpenLaw.row PySem.Challenge.rw_elenchus_k14_signatures
def exs (K : PySem.W.Frag) : List Bool := [gcQ K "MAX_ARITY" c_MAX_ARITY, exB K "UnknownSymbol" ["symbol"], exB K "KindError" ["symbol"], exB K "ArityError" ["symbol", "expected", "found"], exB K "TooLarge" ["limit"], exmLB K "TooLarge" [("TooLarge", true), ("KindError", false), ("ArityError", false), ("UnknownSymbol", false)], exmLB K "KindError" [("TooLarge", false), ("KindError", true), ("ArityError", false), ("UnknownSymbol", false)], exmLB K "ArityError" [("TooLarge", false), ("KindError", false), ("ArityError", true), ("UnknownSymbol", false)], exmLB K "UnknownSymbol" [("TooLarge", false), ("KindError", false), ("ArityError", false), ("UnknownSymbol", true)], clsFB K "Signature" ["_known"]]
def ex (K : PySem.W.Frag) : Bool := (exs K).all id
abbrev hk : PySem.W.Hook := He.hookX 4 fa fn [] [] ex
def ob (s : PySem.W.SharedT) : He.AlX := He.obsX 4 fa fn [] [] ex (HandSHeadRun.getT s)
theorem ob_eq (s : PySem.W.SharedT) : ob s = hk.obs s.abs := He.obsX_eq (HandSHeadRun.getT_eq s)
theorem run (w : World) : HandSHeadRun.RunEq R (PySem.W.view R.prog [19]) hk ob 6000 loose w := by
  intro os
  kernel_rfl
end Lk14


namespace DL
open PySem PySem.Spec PyProof.Rows L2
local macro_rules | `(tactic| walk_at "dl") => `(tactic| simp only [dSeq, dIfS, dTru, dB, dNot, dAnd, dOr, dVar, dC, dOp, dCall, dCons, dNil, dRet, dRetN, dAsg, dgName, dNext, dDrop, dDNew, dDGet, dDGetF, dDIn, dDNotIn, dDPut, dDDel, dDGet1, dDGet2, dFld, dSetF, dMeth, dMake, indexD2, dCBK, dLstRevT, dCallN, gK, cond_true, cond_false, Option.toList_some, diItems, diKeys, diVals, diZip, diEnum, listKD, eqKD, dPairs, keyed, popAtD, insertD, reverseD, dRaise, dRetX, dAsgX, dDropX, dCallX, dPureX, dXf, List.zip_cons_cons, List.zip_nil_right, List.zip_nil_left, List.reverse_cons, List.reverse_nil, dCB, dBM, dTup, dLst, dSl, dPart, dNoPart, dNotV, dAndV, dOrV, dIf, dNeg, diTup, diLst, diSeq, seqI_tup, seqI_lsv, seqI_ref, diRng1, diRng2, addD_int, addD_str, addD_tup, addD_ref, subD_int, mulD_int, fdivD_int, modD_int, powD_int, ltD_int, ltD_str, leD_int, gtD_int, geD_int, isD_non, isNotD_non, truD_non, truD_bl, truD_int, truD_str, truD_tup, truD_lsv, slD_tup, slD_str, slD_ref, slD_lsv, ixD_tup, ixD_lsv, ixD_str, ixD_ref, lenD_tup, lenD_lsv, lenD_str, lenD_ref, absD_int, intD_int, max2D_int, min2D_int, listD_tup, listD_lsv, listD_ref, tupleD_tup, tupleD_ref, isNon, dstart, dYes,
  List.map_cons, List.map_nil, List.length_cons, List.length_nil, List.nil_append, List.cons_append, List.append_nil, List.set_cons_zero, List.set_cons_succ, List.getElem?_cons_zero, List.getElem?_cons_succ, Option.some.injEq, exists_eq_left', exists_eq_left, exists_eq_right, exists_eq, exists_eq', List.cons.injEq, and_true, true_and, D.int.injEq, D.str.injEq, D.bl.injEq, D.tup.injEq, D.ref.injEq, D.ty.injEq, forall_eq', forall_eq, imp_self, forall_const, exists_and_left, exists_const, isL, appendD, popD, updD_same, updD_updD, DO.lst.injEq, eqD_int, neD_int, eqD_bl, neD_bl, cutD_1,
  decide_eq_true_eq, Bool.not_eq_true', decide_eq_false_iff_not, List.reduceReplicate, Nat.reduceAdd, Nat.reduceSub, Nat.reduceMul, Bool.false_eq_true, Bool.true_eq_false, if_false, if_true, reduceIte])
local macro_rules | `(tactic| walk_at "ds") => `(tactic| simp only [dIfS, dTru, dB, dNot, dAnd, dOr, dVar, dC, dOp, dCall, dCons, dNil, dRet, dRetN, dAsg, dgName, dNext, dDrop, dDNew, dDGet, dDGetF, dDIn, dDNotIn, dDPut, dDDel, dDGet1, dDGet2, dFld, dSetF, dMeth, dMake, indexD2, dCBK, dLstRevT, dCallN, gK, cond_true, cond_false, Option.toList_some, diItems, diKeys, diVals, diZip, diEnum, listKD, eqKD, dPairs, keyed, popAtD, insertD, reverseD, dRaise, dRetX, dAsgX, dDropX, dCallX, dPureX, dXf, List.zip_cons_cons, List.zip_nil_right, List.zip_nil_left, List.reverse_cons, List.reverse_nil, dCB, dBM, dTup, dLst, dSl, dPart, dNoPart, dNotV, dAndV, dOrV, dIf, dNeg, diTup, diLst, diSeq, seqI_tup, seqI_lsv, seqI_ref, diRng1, diRng2, addD_int, addD_str, addD_tup, addD_ref, subD_int, mulD_int, fdivD_int, modD_int, powD_int, ltD_int, ltD_str, leD_int, gtD_int, geD_int, isD_non, isNotD_non, truD_non, truD_bl, truD_int, truD_str, truD_tup, truD_lsv, slD_tup, slD_str, slD_ref, slD_lsv, ixD_tup, ixD_lsv, ixD_str, ixD_ref, lenD_tup, lenD_lsv, lenD_str, lenD_ref, absD_int, intD_int, max2D_int, min2D_int, listD_tup, listD_lsv, listD_ref, tupleD_tup, tupleD_ref, isNon, dstart, dYes,
  List.map_cons, List.map_nil, List.length_cons, List.length_nil, List.nil_append, List.cons_append, List.append_nil, List.set_cons_zero, List.set_cons_succ, List.getElem?_cons_zero, List.getElem?_cons_succ, Option.some.injEq, exists_eq_left', exists_eq_left, exists_eq_right, exists_eq, exists_eq', List.cons.injEq, and_true, true_and, D.int.injEq, D.str.injEq, D.bl.injEq, D.tup.injEq, D.ref.injEq, D.ty.injEq, forall_eq', forall_eq, imp_self, forall_const, exists_and_left, exists_const, isL, appendD, popD, updD_same, updD_updD, DO.lst.injEq, eqD_int, neD_int, eqD_bl, neD_bl, cutD_1,
  decide_eq_true_eq, Bool.not_eq_true', decide_eq_false_iff_not, List.reduceReplicate, Nat.reduceAdd, Nat.reduceSub, Nat.reduceMul, Bool.false_eq_true, Bool.true_eq_false, if_false, if_true, reduceIte])
local macro_rules | `(tactic| walk_at "da") => `(tactic| simp only [dSeq, dIfS, dTru, dB, dNot, dAnd, dOr, dVar, dC, dOp, dCall, dCons, dNil, dRet, dRetN, dAsg, dgName, dNext, dDrop, dDNew, dDGet, dDGetF, dDIn, dDNotIn, dDPut, dDDel, dDGet1, dDGet2, dFld, dSetF, dMeth, dMake, indexD2, dCBK, dLstRevT, dCallN, gK, cond_true, cond_false, Option.toList_some, diItems, diKeys, diVals, diZip, diEnum, listKD, eqKD, dPairs, keyed, popAtD, insertD, reverseD, dRaise, dRetX, dAsgX, dDropX, dCallX, dPureX, dXf, List.zip_cons_cons, List.zip_nil_right, List.zip_nil_left, List.reverse_cons, List.reverse_nil, dCB, dBM, dTup, dLst, dSl, dPart, dNoPart, dNotV, dAndV, dOrV, dIf, dNeg, diTup, diLst, diSeq, seqI_tup, seqI_lsv, seqI_ref, diRng1, diRng2, addD_int, addD_str, addD_tup, addD_ref, subD_int, mulD_int, fdivD_int, modD_int, powD_int, ltD_int, ltD_str, leD_int, gtD_int, geD_int, isD_non, isNotD_non, truD_non, truD_bl, truD_int, truD_str, truD_tup, truD_lsv, slD_tup, slD_str, slD_ref, slD_lsv, ixD_tup, ixD_lsv, ixD_str, ixD_ref, lenD_tup, lenD_lsv, lenD_str, lenD_ref, absD_int, intD_int, max2D_int, min2D_int, listD_tup, listD_lsv, listD_ref, tupleD_tup, tupleD_ref, isNon, dstart, dYes,
  List.map_cons, List.map_nil, List.length_cons, List.length_nil, List.nil_append, List.cons_append, List.append_nil, List.set_cons_zero, List.set_cons_succ, List.getElem?_cons_zero, List.getElem?_cons_succ, Option.some.injEq, exists_eq_left', exists_eq_left, exists_eq_right, exists_eq, exists_eq', List.cons.injEq, and_true, true_and, D.int.injEq, D.str.injEq, D.bl.injEq, D.tup.injEq, D.ref.injEq, D.ty.injEq, forall_eq', forall_eq, imp_self, forall_const, exists_and_left, exists_const, isL, appendD, popD, updD_same, updD_updD, DO.lst.injEq, atI_0, atI_1, atI_2, atI_3, atI_4, sz1, sz2, sz3, sz4, sz5, sz6, eqD_int, neD_int, eqD_bl, neD_bl, cutD_1,
  decide_eq_true_eq, Bool.not_eq_true', decide_eq_false_iff_not, List.reduceReplicate, Nat.reduceAdd, Nat.reduceSub, Nat.reduceMul, Bool.false_eq_true, Bool.true_eq_false, if_false, if_true, reduceIte])
local macro_rules | `(tactic| walk_at "dz") => `(tactic| simp only [dIfS, dTru, dB, dNot, dAnd, dOr, dVar, dC, dOp, dCall, dCons, dNil, dRet, dRetN, dAsg, dgName, dNext, dDrop, dDNew, dDGet, dDGetF, dDIn, dDNotIn, dDPut, dDDel, dDGet1, dDGet2, dFld, dSetF, dMeth, dMake, indexD2, dCBK, dLstRevT, dCallN, gK, cond_true, cond_false, Option.toList_some, diItems, diKeys, diVals, diZip, diEnum, listKD, eqKD, dPairs, keyed, popAtD, insertD, reverseD, dRaise, dRetX, dAsgX, dDropX, dCallX, dPureX, dXf, List.zip_cons_cons, List.zip_nil_right, List.zip_nil_left, List.reverse_cons, List.reverse_nil, dCB, dBM, dTup, dLst, dSl, dPart, dNoPart, dNotV, dAndV, dOrV, dIf, dNeg, diTup, diLst, diSeq, seqI_tup, seqI_lsv, seqI_ref, diRng1, diRng2, addD_int, addD_str, addD_tup, addD_ref, subD_int, mulD_int, fdivD_int, modD_int, powD_int, ltD_int, ltD_str, leD_int, gtD_int, geD_int, isD_non, isNotD_non, truD_non, truD_bl, truD_int, truD_str, truD_tup, truD_lsv, slD_tup, slD_str, slD_ref, slD_lsv, ixD_tup, ixD_lsv, ixD_str, ixD_ref, lenD_tup, lenD_lsv, lenD_str, lenD_ref, absD_int, intD_int, max2D_int, min2D_int, listD_tup, listD_lsv, listD_ref, tupleD_tup, tupleD_ref, isNon, dstart, dYes,
  List.map_cons, List.map_nil, List.length_cons, List.length_nil, List.nil_append, List.cons_append, List.append_nil, List.set_cons_zero, List.set_cons_succ, List.getElem?_cons_zero, List.getElem?_cons_succ, Option.some.injEq, exists_eq_left', exists_eq_left, exists_eq_right, exists_eq, exists_eq', List.cons.injEq, and_true, true_and, D.int.injEq, D.str.injEq, D.bl.injEq, D.tup.injEq, D.ref.injEq, D.ty.injEq, forall_eq', forall_eq, imp_self, forall_const, exists_and_left, exists_const, isL, appendD, popD, updD_same, updD_updD, DO.lst.injEq, atI_0, atI_1, atI_2, atI_3, atI_4, sz1, sz2, sz3, sz4, sz5, sz6, eqD_int, neD_int, eqD_bl, neD_bl, cutD_1,
  decide_eq_true_eq, Bool.not_eq_true', decide_eq_false_iff_not, List.reduceReplicate, Nat.reduceAdd, Nat.reduceSub, Nat.reduceMul, Bool.false_eq_true, Bool.true_eq_false, if_false, if_true, reduceIte])
local macro_rules | `(tactic| walk_at "dw") => `(tactic| simp only [dIfS, dTru, dB, dNot, dAnd, dOr, dVar, dC, dOp, dCall, dCons, dNil, dRet, dRetN, dAsg, dgName, dNext, dDrop, dDNew, dDGet, dDGetF, dDIn, dDNotIn, dDPut, dDDel, dDGet1, dDGet2, dFld, dSetF, dMeth, dMake, indexD2, dCBK, dLstRevT, dCallN, gK, cond_true, cond_false, Option.toList_some, diItems, diKeys, diVals, diZip, diEnum, listKD, eqKD, dPairs, keyed, popAtD, insertD, reverseD, dRaise, dRetX, dAsgX, dDropX, dCallX, dPureX, dXf, List.zip_cons_cons, List.zip_nil_right, List.zip_nil_left, List.reverse_cons, List.reverse_nil, dCB, dBM, dTup, dLst, dSl, dPart, dNoPart, dNotV, dAndV, dOrV, dIf, dNeg, diTup, diLst, diSeq, seqI_tup, seqI_lsv, seqI_ref, diRng1, diRng2, addD_int, addD_str, addD_tup, addD_ref, subD_int, mulD_int, fdivD_int, modD_int, powD_int, ltD_int, ltD_str, leD_int, gtD_int, geD_int, isD_non, isNotD_non, truD_non, truD_bl, truD_int, truD_str, truD_tup, truD_lsv, slD_tup, slD_str, slD_ref, slD_lsv, ixD_tup, ixD_lsv, ixD_str, ixD_ref, lenD_tup, lenD_lsv, lenD_str, lenD_ref, absD_int, intD_int, max2D_int, min2D_int, listD_tup, listD_lsv, listD_ref, tupleD_tup, tupleD_ref, isNon, dstart, dYes,
  List.map_cons, List.map_nil, List.length_cons, List.length_nil, List.nil_append, List.cons_append, List.append_nil, List.set_cons_zero, List.set_cons_succ, List.getElem?_cons_zero, List.getElem?_cons_succ, Option.some.injEq, exists_eq_left', exists_eq_left, exists_eq_right, exists_eq, exists_eq', List.cons.injEq, and_true, true_and, D.int.injEq, D.str.injEq, D.bl.injEq, D.tup.injEq, D.ref.injEq, D.ty.injEq, forall_eq', forall_eq, imp_self, forall_const, exists_and_left, exists_const, isL, appendD, popD, updD_same, updD_updD, DO.lst.injEq, atI_0, atI_1, atI_2, atI_3, atI_4, sz1, sz2, sz3, sz4, sz5, sz6, eqD_int, neD_int, eqD_bl, neD_bl, cutD_1,
  decide_eq_true_eq, Bool.not_eq_true', decide_eq_false_iff_not, List.reduceReplicate, Nat.reduceAdd, Nat.reduceSub, Nat.reduceMul, Bool.false_eq_true, Bool.true_eq_false, if_false, if_true, reduceIte, dgSub, setD, ix4s, ix5s, atI_0, atI_1, atI_2, atI_3, atI_4, *])
local macro_rules | `(tactic| walk_at "dv") => `(tactic| simp only [dSeq, dIfS, dTru, dB, dNot, dAnd, dOr, dVar, dC, dOp, dCall, dCons, dNil, dRet, dRetN, dAsg, dgName, dNext, dDrop, dDNew, dDGet, dDGetF, dDIn, dDNotIn, dDPut, dDDel, dDGet1, dDGet2, dFld, dSetF, dMeth, dMake, indexD2, dCBK, dLstRevT, dCallN, gK, cond_true, cond_false, Option.toList_some, diItems, diKeys, diVals, diZip, diEnum, listKD, eqKD, dPairs, keyed, popAtD, insertD, reverseD, dRaise, dRetX, dAsgX, dDropX, dCallX, dPureX, dXf, List.zip_cons_cons, List.zip_nil_right, List.zip_nil_left, List.reverse_cons, List.reverse_nil, dCB, dBM, dTup, dLst, dSl, dPart, dNoPart, dNotV, dAndV, dOrV, dIf, dNeg, diTup, diLst, diSeq, seqI_tup, seqI_lsv, seqI_ref, diRng1, diRng2, addD_int, addD_str, addD_tup, addD_ref, subD_int, mulD_int, fdivD_int, modD_int, powD_int, ltD_int, ltD_str, leD_int, gtD_int, geD_int, isD_non, isNotD_non, truD_non, truD_bl, truD_int, truD_str, truD_tup, truD_lsv, slD_tup, slD_str, slD_ref, slD_lsv, ixD_tup, ixD_lsv, ixD_str, ixD_ref, lenD_tup, lenD_lsv, lenD_str, lenD_ref, absD_int, intD_int, max2D_int, min2D_int, listD_tup, listD_lsv, listD_ref, tupleD_tup, tupleD_ref, isNon, dstart, dYes,
  List.map_cons, List.map_nil, List.length_cons, List.length_nil, List.nil_append, List.cons_append, List.append_nil, List.set_cons_zero, List.set_cons_succ, List.getElem?_cons_zero, List.getElem?_cons_succ, Option.some.injEq, exists_eq_left', exists_eq_left, exists_eq_right, exists_eq, exists_eq', List.cons.injEq, and_true, true_and, D.int.injEq, D.str.injEq, D.bl.injEq, D.tup.injEq, D.ref.injEq, D.ty.injEq, forall_eq', forall_eq, imp_self, forall_const, exists_and_left, exists_const, isL, appendD, popD, updD_same, updD_updD, DO.lst.injEq, atI_0, atI_1, atI_2, atI_3, atI_4, sz1, sz2, sz3, sz4, sz5, sz6, eqD_int, neD_int, eqD_bl, neD_bl, cutD_1,
  decide_eq_true_eq, Bool.not_eq_true', decide_eq_false_iff_not, List.reduceReplicate, Nat.reduceAdd, Nat.reduceSub, Nat.reduceMul, Bool.false_eq_true, Bool.true_eq_false, if_false, if_true, reduceIte, dgSub, setD, ix4s, ix5s, atI_0, atI_1, atI_2, atI_3, atI_4, *])
def N_is_variable : List Str := [Str.ofString "term"]
def t_is_variable : DTS := dRet (dNotV (dCB isiD (dCons (dVar 0) (dCons (dC (.ty "tuple")) (dNil)))))
def N_is_ground : List Str := [Str.ofString "term", Str.ofString "argument"]
def t_is_ground (sp_is_variable sp_is_ground : SpD) : DTS := dSeq (dIfS (dTru (dCall sp_is_variable [] (dCons (dVar 0) (dNil)))) (dRet (dC (.bl false))) (dNext)) (dSeq (dFor (diTup (dSl (dVar 0) (dPart (dC (.int 1))) (dNoPart))) (dgName 1) (dIfS (dNot (dTru (dCall sp_is_ground [] (dCons (dVar 1) (dNil))))) (dRet (dC (.bl false))) (dNext))) (dRet (dC (.bl true))))
def N_size : List Str := [Str.ofString "term", Str.ofString "total", Str.ofString "argument"]
def t_size (sp_is_variable sp_size : SpD) : DTS := dSeq (dIfS (dTru (dCall sp_is_variable [] (dCons (dVar 0) (dNil)))) (dRet (dC (.int 1))) (dNext)) (dSeq (dAsg (dC (.int 1)) (dgName 1)) (dSeq (dFor (diTup (dSl (dVar 0) (dPart (dC (.int 1))) (dNoPart))) (dgName 2) (dAsg (dOp addD (dVar 1) (dCall sp_size [] (dCons (dVar 2) (dNil)))) (dgName 1))) (dRet (dVar 1))))
def N_nesting : List Str := [Str.ofString "term", Str.ofString "greatest", Str.ofString "argument"]
def t_nesting (sp_is_variable sp_nesting : SpD) : DTS := dSeq (dIfS (dTru (dCall sp_is_variable [] (dCons (dVar 0) (dNil)))) (dRet (dC (.int 1))) (dNext)) (dSeq (dAsg (dC (.int 0)) (dgName 1)) (dSeq (dFor (diTup (dSl (dVar 0) (dPart (dC (.int 1))) (dNoPart))) (dgName 2) (dAsg (dCB max2D (dCons (dVar 1) (dCons (dCall sp_nesting [] (dCons (dVar 2) (dNil))) (dNil)))) (dgName 1))) (dRet (dOp addD (dC (.int 1)) (dVar 1)))))

/-! terms: size, nesting, is_ground, is_variable -/
def sp_is_variable : SpD := fun ds h Q _ => ∃ d, ds = [d] ∧ okD d = true ∧ Q (.bl (!isTup d)) h
theorem ms_is_variable : MonoSp sp_is_variable := fun ds h Q Q' E k ⟨d, e, ok, q⟩ => ⟨d, e, ok, k _ _ q⟩
theorem r_is_variable (ds : List D) (h : DH) (Q : DK) (Ed : DXK) (up : Up Q) (q : sp_is_variable ds h Q Ed) : t_is_variable { nx := fun _ h' => Q .non h', rt := Q } (dstart N_is_variable ds) h := by
  obtain ⟨d, rfl, ok, q⟩ := q
  unfold t_is_variable
  walk_at "dl"
  rw [isi_tuple ok]
  exact q
mutual
def szD : D → Nat
  | .tup ds => szT ds
  | .non => 1
  | .bl _ => 1
  | .int _ => 1
  | .str _ => 1
  | .lsv _ => 1
  | .ref _ => 1
  | .ty _ => 1
def szT : List D → Nat
  | [] => 1
  | _ :: ds => 1 + szs ds
def szs : List D → Nat
  | [] => 0
  | d :: ds => szD d + szs ds
end
mutual
def nsD : D → Nat
  | .tup ds => nsT ds
  | .non => 1
  | .bl _ => 1
  | .int _ => 1
  | .str _ => 1
  | .lsv _ => 1
  | .ref _ => 1
  | .ty _ => 1
def nsT : List D → Nat
  | [] => 1
  | _ :: ds => 1 + nss ds
def nss : List D → Nat
  | [] => 0
  | d :: ds => max (nsD d) (nss ds)
end
mutual
def grD : D → Bool
  | .tup ds => grT ds
  | .non => false
  | .bl _ => false
  | .int _ => false
  | .str _ => false
  | .lsv _ => false
  | .ref _ => false
  | .ty _ => false
def grT : List D → Bool
  | [] => true
  | _ :: ds => grs ds
def grs : List D → Bool
  | [] => true
  | d :: ds => grD d && grs ds
end
theorem szs_take {ds : List D} {i : Nat} {d : D} (e : ds[i]? = some d) : szs (ds.take (i + 1)) = szs (ds.take i) + szD d := by
  induction ds generalizing i with
  | nil => simp at e
  | cons x xs ih =>
    cases i with
    | zero => simp at e; subst e; simp [szs]
    | succ i => simp only [List.take_succ_cons, szs]; rw [ih (by simpa using e)]; omega
theorem nss_take {ds : List D} {i : Nat} {d : D} (e : ds[i]? = some d) : nss (ds.take (i + 1)) = max (nss (ds.take i)) (nsD d) := by
  induction ds generalizing i with
  | nil => simp at e
  | cons x xs ih =>
    cases i with
    | zero => simp at e; subst e; simp [nss]
    | succ i => simp only [List.take_succ_cons, nss]; rw [ih (by simpa using e)]; omega
theorem grs_take {ds : List D} {i : Nat} {d : D} (e : ds[i]? = some d) : grs (ds.take (i + 1)) = (grs (ds.take i) && grD d) := by
  induction ds generalizing i with
  | nil => simp at e
  | cons x xs ih =>
    cases i with
    | zero => simp at e; subst e; simp [grs]
    | succ i => simp only [List.take_succ_cons, grs]; rw [ih (by simpa using e), Bool.and_assoc]
theorem grs_false {ds : List D} {i : Nat} {d : D} (e : ds[i]? = some d) (g : grD d = false) : grs ds = false := by
  induction ds generalizing i with
  | nil => simp at e
  | cons x xs ih =>
    cases i with
    | zero => simp at e; subst e; simp [grs, g]
    | succ i => simp [grs, ih (by simpa using e)]
theorem szT_drop (ds : List D) : szT ds = 1 + szs (ds.drop 1) := by cases ds <;> simp [szT, szs]
theorem nsT_drop (ds : List D) : nsT ds = 1 + nss (ds.drop 1) := by cases ds <;> simp [nsT, nss]
theorem grT_drop (ds : List D) : grT ds = grs (ds.drop 1) := by cases ds <;> simp [grT, grs]
theorem dep_arg {ds : List D} {i n : Nat} {d : D} (hd : dep (.tup ds) < n + 1) (e : (ds.drop 1)[i]? = some d) : dep d < n := by
  have e2 : ds[i + 1]? = some d := by simpa [Nat.add_comm] using e
  have := deps_get e2
  simp only [dep] at hd
  omega
theorem ok_arg {ds : List D} {i : Nat} {d : D} (ok : okD (.tup ds) = true) (e : (ds.drop 1)[i]? = some d) : okD d = true := by
  have e2 : ds[i + 1]? = some d := by simpa [Nat.add_comm] using e
  exact okDs_get (by simpa [okD] using ok) e2
/-! size -/
def sp_size (n : Nat) : SpD := fun ds h Q _ => ∃ d, ds = [d] ∧ okD d = true ∧ dep d < n ∧ Q (.int (szD d)) h
theorem ms_size {n : Nat} : MonoSp (sp_size n) := fun ds h Q Q' E k ⟨d, e, ok, l, q⟩ => ⟨d, e, ok, l, k _ _ q⟩
theorem r_size {n : Nat} (ds : List D) (h : DH) (Q : DK) (Ed : DXK) (up : Up Q) (q : sp_size (n + 1) ds h Q Ed) : t_size sp_is_variable (sp_size n) { nx := fun _ h' => Q .non h', rt := Q } (dstart N_size ds) h := by
  obtain ⟨d, rfl, ok, hd, q⟩ := q
  unfold t_size N_size sp_is_variable
  walk_at "dl"
  refine ⟨ok, ?_⟩
  cases d with
  | tup ds =>
    simp only [isTup, Bool.true_eq_false, if_false]
    refine dFor_of (items := ds.drop 1) (st := fun _ => True) (h1 := h) (fun i τ h' => h' = h ∧ ∃ x, τ = [some (.tup ds), some (.int (1 + szs ((ds.drop 1).take i))), x]) (fun R r => by walk_at "dl"; exact r) ⟨rfl, none, by simp [szs]⟩ (fun _ _ _ _ => trivial) ?_ ?_
    · rintro i d τ _ e ⟨rfl, x, rfl⟩
      walk_at "dl"
      unfold sp_size
      walk_at "dl"
      refine ⟨ok_arg ok e, dep_arg hd e, ?_⟩
      rw [szs_take e]
      simp; omega
    · rintro τ _ ⟨rfl, x, rfl⟩
      walk_at "dl"
      rw [List.take_length]
      simpa [szD, szT_drop] using q
  | _ => simpa [isTup, szD] using q
/-! nesting -/
def sp_nesting (n : Nat) : SpD := fun ds h Q _ => ∃ d, ds = [d] ∧ okD d = true ∧ dep d < n ∧ Q (.int (nsD d)) h
theorem ms_nesting {n : Nat} : MonoSp (sp_nesting n) := fun ds h Q Q' E k ⟨d, e, ok, l, q⟩ => ⟨d, e, ok, l, k _ _ q⟩
theorem r_nesting {n : Nat} (ds : List D) (h : DH) (Q : DK) (Ed : DXK) (up : Up Q) (q : sp_nesting (n + 1) ds h Q Ed) : t_nesting sp_is_variable (sp_nesting n) { nx := fun _ h' => Q .non h', rt := Q } (dstart N_nesting ds) h := by
  obtain ⟨d, rfl, ok, hd, q⟩ := q
  unfold t_nesting N_nesting sp_is_variable
  walk_at "dl"
  refine ⟨ok, ?_⟩
  cases d with
  | tup ds =>
    simp only [isTup, Bool.true_eq_false, if_false]
    refine dFor_of (items := ds.drop 1) (st := fun _ => True) (h1 := h) (fun i τ h' => h' = h ∧ ∃ x, τ = [some (.tup ds), some (.int (nss ((ds.drop 1).take i))), x]) (fun R r => by walk_at "dl"; exact r) ⟨rfl, none, by simp [nss]⟩ (fun _ _ _ _ => trivial) ?_ ?_
    · rintro i d τ _ e ⟨rfl, x, rfl⟩
      walk_at "dl"
      unfold sp_nesting
      walk_at "dl"
      refine ⟨ok_arg ok e, dep_arg hd e, ?_⟩
      rw [nss_take e]
      split <;> omega
    · rintro τ _ ⟨rfl, x, rfl⟩
      walk_at "dl"
      rw [List.take_length]
      simpa [nsD, nsT_drop] using q
  | _ => simpa [isTup, nsD] using q
/-! is_ground -/
def sp_is_ground (n : Nat) : SpD := fun ds h Q _ => ∃ d, ds = [d] ∧ okD d = true ∧ dep d < n ∧ Q (.bl (grD d)) h
theorem ms_is_ground {n : Nat} : MonoSp (sp_is_ground n) := fun ds h Q Q' E k ⟨d, e, ok, l, q⟩ => ⟨d, e, ok, l, k _ _ q⟩
theorem r_is_ground {n : Nat} (ds : List D) (h : DH) (Q : DK) (Ed : DXK) (up : Up Q) (q : sp_is_ground (n + 1) ds h Q Ed) : t_is_ground sp_is_variable (sp_is_ground n) { nx := fun _ h' => Q .non h', rt := Q } (dstart N_is_ground ds) h := by
  obtain ⟨d, rfl, ok, hd, q⟩ := q
  unfold t_is_ground N_is_ground sp_is_variable
  walk_at "dl"
  refine ⟨ok, ?_⟩
  cases d with
  | tup ds =>
    simp only [isTup, Bool.true_eq_false, if_false]
    refine dFor_of (items := ds.drop 1) (st := fun _ => True) (h1 := h) (fun i τ h' => h' = h ∧ grs ((ds.drop 1).take i) = true ∧ ∃ x, τ = [some (.tup ds), x]) (fun R r => by walk_at "dl"; exact r) ⟨rfl, by simp [grs], none, rfl⟩ (fun _ _ _ _ => trivial) ?_ ?_
    · rintro i d τ _ e ⟨rfl, g, x, rfl⟩
      walk_at "dl"
      unfold sp_is_ground
      walk_at "dl"
      refine ⟨ok_arg ok e, dep_arg hd e, ?_⟩
      split
      · rename_i gd
        have : grD (.tup ds) = false := by simp only [grD, grT_drop]; exact grs_false e gd
        rw [this] at q
        exact q
      · rename_i gd
        rw [grs_take e, g]
        simpa using gd
    · rintro τ _ ⟨rfl, g, x, rfl⟩
      walk_at "dl"
      rw [List.take_length] at g
      have e : grD (.tup ds) = true := by rw [grD, grT_drop]; exact g
      rw [e] at q
      exact q
  | _ => simpa [isTup, grD] using q

end DL

namespace DL
open PySem PySem.Spec PyProof.Rows L2
local macro_rules | `(tactic| walk_at "dl") => `(tactic| simp only [dSeq, dIfS, dTru, dB, dNot, dAnd, dOr, dVar, dC, dOp, dCall, dCons, dNil, dRet, dRetN, dAsg, dgName, dNext, dDrop, dDNew, dDGet, dDGetF, dDIn, dDNotIn, dDPut, dDDel, dDGet1, dDGet2, dFld, dSetF, dMeth, dMake, indexD2, dCBK, dLstRevT, dCallN, gK, cond_true, cond_false, Option.toList_some, diItems, diKeys, diVals, diZip, diEnum, listKD, eqKD, dPairs, keyed, popAtD, insertD, reverseD, dRaise, dRetX, dAsgX, dDropX, dCallX, dPureX, dXf, List.zip_cons_cons, List.zip_nil_right, List.zip_nil_left, List.reverse_cons, List.reverse_nil, dCB, dBM, dTup, dLst, dSl, dPart, dNoPart, dNotV, dAndV, dOrV, dIf, dNeg, diTup, diLst, diSeq, seqI_tup, seqI_lsv, seqI_ref, diRng1, diRng2, addD_int, addD_str, addD_tup, addD_ref, subD_int, mulD_int, fdivD_int, modD_int, powD_int, ltD_int, ltD_str, leD_int, gtD_int, geD_int, isD_non, isNotD_non, truD_non, truD_bl, truD_int, truD_str, truD_tup, truD_lsv, slD_tup, slD_str, slD_ref, slD_lsv, ixD_tup, ixD_lsv, ixD_str, ixD_ref, lenD_tup, lenD_lsv, lenD_str, lenD_ref, absD_int, intD_int, max2D_int, min2D_int, listD_tup, listD_lsv, listD_ref, tupleD_tup, tupleD_ref, isNon, dstart, dYes,
  List.map_cons, List.map_nil, List.length_cons, List.length_nil, List.nil_append, List.cons_append, List.append_nil, List.set_cons_zero, List.set_cons_succ, List.getElem?_cons_zero, List.getElem?_cons_succ, Option.some.injEq, exists_eq_left', exists_eq_left, exists_eq_right, exists_eq, exists_eq', List.cons.injEq, and_true, true_and, D.int.injEq, D.str.injEq, D.bl.injEq, D.tup.injEq, D.ref.injEq, D.ty.injEq, forall_eq', forall_eq, imp_self, forall_const, exists_and_left, exists_const, isL, appendD, popD, updD_same, updD_updD, DO.lst.injEq, eqD_int, neD_int, eqD_bl, neD_bl, cutD_1,
  decide_eq_true_eq, Bool.not_eq_true', decide_eq_false_iff_not, List.reduceReplicate, Nat.reduceAdd, Nat.reduceSub, Nat.reduceMul, Bool.false_eq_true, Bool.true_eq_false, if_false, if_true, reduceIte])
local macro_rules | `(tactic| walk_at "ds") => `(tactic| simp only [dIfS, dTru, dB, dNot, dAnd, dOr, dVar, dC, dOp, dCall, dCons, dNil, dRet, dRetN, dAsg, dgName, dNext, dDrop, dDNew, dDGet, dDGetF, dDIn, dDNotIn, dDPut, dDDel, dDGet1, dDGet2, dFld, dSetF, dMeth, dMake, indexD2, dCBK, dLstRevT, dCallN, gK, cond_true, cond_false, Option.toList_some, diItems, diKeys, diVals, diZip, diEnum, listKD, eqKD, dPairs, keyed, popAtD, insertD, reverseD, dRaise, dRetX, dAsgX, dDropX, dCallX, dPureX, dXf, List.zip_cons_cons, List.zip_nil_right, List.zip_nil_left, List.reverse_cons, List.reverse_nil, dCB, dBM, dTup, dLst, dSl, dPart, dNoPart, dNotV, dAndV, dOrV, dIf, dNeg, diTup, diLst, diSeq, seqI_tup, seqI_lsv, seqI_ref, diRng1, diRng2, addD_int, addD_str, addD_tup, addD_ref, subD_int, mulD_int, fdivD_int, modD_int, powD_int, ltD_int, ltD_str, leD_int, gtD_int, geD_int, isD_non, isNotD_non, truD_non, truD_bl, truD_int, truD_str, truD_tup, truD_lsv, slD_tup, slD_str, slD_ref, slD_lsv, ixD_tup, ixD_lsv, ixD_str, ixD_ref, lenD_tup, lenD_lsv, lenD_str, lenD_ref, absD_int, intD_int, max2D_int, min2D_int, listD_tup, listD_lsv, listD_ref, tupleD_tup, tupleD_ref, isNon, dstart, dYes,
  List.map_cons, List.map_nil, List.length_cons, List.length_nil, List.nil_append, List.cons_append, List.append_nil, List.set_cons_zero, List.set_cons_succ, List.getElem?_cons_zero, List.getElem?_cons_succ, Option.some.injEq, exists_eq_left', exists_eq_left, exists_eq_right, exists_eq, exists_eq', List.cons.injEq, and_true, true_and, D.int.injEq, D.str.injEq, D.bl.injEq, D.tup.injEq, D.ref.injEq, D.ty.injEq, forall_eq', forall_eq, imp_self, forall_const, exists_and_left, exists_const, isL, appendD, popD, updD_same, updD_updD, DO.lst.injEq, eqD_int, neD_int, eqD_bl, neD_bl, cutD_1,
  decide_eq_true_eq, Bool.not_eq_true', decide_eq_false_iff_not, List.reduceReplicate, Nat.reduceAdd, Nat.reduceSub, Nat.reduceMul, Bool.false_eq_true, Bool.true_eq_false, if_false, if_true, reduceIte])
local macro_rules | `(tactic| walk_at "da") => `(tactic| simp only [dSeq, dIfS, dTru, dB, dNot, dAnd, dOr, dVar, dC, dOp, dCall, dCons, dNil, dRet, dRetN, dAsg, dgName, dNext, dDrop, dDNew, dDGet, dDGetF, dDIn, dDNotIn, dDPut, dDDel, dDGet1, dDGet2, dFld, dSetF, dMeth, dMake, indexD2, dCBK, dLstRevT, dCallN, gK, cond_true, cond_false, Option.toList_some, diItems, diKeys, diVals, diZip, diEnum, listKD, eqKD, dPairs, keyed, popAtD, insertD, reverseD, dRaise, dRetX, dAsgX, dDropX, dCallX, dPureX, dXf, List.zip_cons_cons, List.zip_nil_right, List.zip_nil_left, List.reverse_cons, List.reverse_nil, dCB, dBM, dTup, dLst, dSl, dPart, dNoPart, dNotV, dAndV, dOrV, dIf, dNeg, diTup, diLst, diSeq, seqI_tup, seqI_lsv, seqI_ref, diRng1, diRng2, addD_int, addD_str, addD_tup, addD_ref, subD_int, mulD_int, fdivD_int, modD_int, powD_int, ltD_int, ltD_str, leD_int, gtD_int, geD_int, isD_non, isNotD_non, truD_non, truD_bl, truD_int, truD_str, truD_tup, truD_lsv, slD_tup, slD_str, slD_ref, slD_lsv, ixD_tup, ixD_lsv, ixD_str, ixD_ref, lenD_tup, lenD_lsv, lenD_str, lenD_ref, absD_int, intD_int, max2D_int, min2D_int, listD_tup, listD_lsv, listD_ref, tupleD_tup, tupleD_ref, isNon, dstart, dYes,
  List.map_cons, List.map_nil, List.length_cons, List.length_nil, List.nil_append, List.cons_append, List.append_nil, List.set_cons_zero, List.set_cons_succ, List.getElem?_cons_zero, List.getElem?_cons_succ, Option.some.injEq, exists_eq_left', exists_eq_left, exists_eq_right, exists_eq, exists_eq', List.cons.injEq, and_true, true_and, D.int.injEq, D.str.injEq, D.bl.injEq, D.tup.injEq, D.ref.injEq, D.ty.injEq, forall_eq', forall_eq, imp_self, forall_const, exists_and_left, exists_const, isL, appendD, popD, updD_same, updD_updD, DO.lst.injEq, atI_0, atI_1, atI_2, atI_3, atI_4, sz1, sz2, sz3, sz4, sz5, sz6, eqD_int, neD_int, eqD_bl, neD_bl, cutD_1,
  decide_eq_true_eq, Bool.not_eq_true', decide_eq_false_iff_not, List.reduceReplicate, Nat.reduceAdd, Nat.reduceSub, Nat.reduceMul, Bool.false_eq_true, Bool.true_eq_false, if_false, if_true, reduceIte])
local macro_rules | `(tactic| walk_at "dz") => `(tactic| simp only [dIfS, dTru, dB, dNot, dAnd, dOr, dVar, dC, dOp, dCall, dCons, dNil, dRet, dRetN, dAsg, dgName, dNext, dDrop, dDNew, dDGet, dDGetF, dDIn, dDNotIn, dDPut, dDDel, dDGet1, dDGet2, dFld, dSetF, dMeth, dMake, indexD2, dCBK, dLstRevT, dCallN, gK, cond_true, cond_false, Option.toList_some, diItems, diKeys, diVals, diZip, diEnum, listKD, eqKD, dPairs, keyed, popAtD, insertD, reverseD, dRaise, dRetX, dAsgX, dDropX, dCallX, dPureX, dXf, List.zip_cons_cons, List.zip_nil_right, List.zip_nil_left, List.reverse_cons, List.reverse_nil, dCB, dBM, dTup, dLst, dSl, dPart, dNoPart, dNotV, dAndV, dOrV, dIf, dNeg, diTup, diLst, diSeq, seqI_tup, seqI_lsv, seqI_ref, diRng1, diRng2, addD_int, addD_str, addD_tup, addD_ref, subD_int, mulD_int, fdivD_int, modD_int, powD_int, ltD_int, ltD_str, leD_int, gtD_int, geD_int, isD_non, isNotD_non, truD_non, truD_bl, truD_int, truD_str, truD_tup, truD_lsv, slD_tup, slD_str, slD_ref, slD_lsv, ixD_tup, ixD_lsv, ixD_str, ixD_ref, lenD_tup, lenD_lsv, lenD_str, lenD_ref, absD_int, intD_int, max2D_int, min2D_int, listD_tup, listD_lsv, listD_ref, tupleD_tup, tupleD_ref, isNon, dstart, dYes,
  List.map_cons, List.map_nil, List.length_cons, List.length_nil, List.nil_append, List.cons_append, List.append_nil, List.set_cons_zero, List.set_cons_succ, List.getElem?_cons_zero, List.getElem?_cons_succ, Option.some.injEq, exists_eq_left', exists_eq_left, exists_eq_right, exists_eq, exists_eq', List.cons.injEq, and_true, true_and, D.int.injEq, D.str.injEq, D.bl.injEq, D.tup.injEq, D.ref.injEq, D.ty.injEq, forall_eq', forall_eq, imp_self, forall_const, exists_and_left, exists_const, isL, appendD, popD, updD_same, updD_updD, DO.lst.injEq, atI_0, atI_1, atI_2, atI_3, atI_4, sz1, sz2, sz3, sz4, sz5, sz6, eqD_int, neD_int, eqD_bl, neD_bl, cutD_1,
  decide_eq_true_eq, Bool.not_eq_true', decide_eq_false_iff_not, List.reduceReplicate, Nat.reduceAdd, Nat.reduceSub, Nat.reduceMul, Bool.false_eq_true, Bool.true_eq_false, if_false, if_true, reduceIte])
local macro_rules | `(tactic| walk_at "dw") => `(tactic| simp only [dIfS, dTru, dB, dNot, dAnd, dOr, dVar, dC, dOp, dCall, dCons, dNil, dRet, dRetN, dAsg, dgName, dNext, dDrop, dDNew, dDGet, dDGetF, dDIn, dDNotIn, dDPut, dDDel, dDGet1, dDGet2, dFld, dSetF, dMeth, dMake, indexD2, dCBK, dLstRevT, dCallN, gK, cond_true, cond_false, Option.toList_some, diItems, diKeys, diVals, diZip, diEnum, listKD, eqKD, dPairs, keyed, popAtD, insertD, reverseD, dRaise, dRetX, dAsgX, dDropX, dCallX, dPureX, dXf, List.zip_cons_cons, List.zip_nil_right, List.zip_nil_left, List.reverse_cons, List.reverse_nil, dCB, dBM, dTup, dLst, dSl, dPart, dNoPart, dNotV, dAndV, dOrV, dIf, dNeg, diTup, diLst, diSeq, seqI_tup, seqI_lsv, seqI_ref, diRng1, diRng2, addD_int, addD_str, addD_tup, addD_ref, subD_int, mulD_int, fdivD_int, modD_int, powD_int, ltD_int, ltD_str, leD_int, gtD_int, geD_int, isD_non, isNotD_non, truD_non, truD_bl, truD_int, truD_str, truD_tup, truD_lsv, slD_tup, slD_str, slD_ref, slD_lsv, ixD_tup, ixD_lsv, ixD_str, ixD_ref, lenD_tup, lenD_lsv, lenD_str, lenD_ref, absD_int, intD_int, max2D_int, min2D_int, listD_tup, listD_lsv, listD_ref, tupleD_tup, tupleD_ref, isNon, dstart, dYes,
  List.map_cons, List.map_nil, List.length_cons, List.length_nil, List.nil_append, List.cons_append, List.append_nil, List.set_cons_zero, List.set_cons_succ, List.getElem?_cons_zero, List.getElem?_cons_succ, Option.some.injEq, exists_eq_left', exists_eq_left, exists_eq_right, exists_eq, exists_eq', List.cons.injEq, and_true, true_and, D.int.injEq, D.str.injEq, D.bl.injEq, D.tup.injEq, D.ref.injEq, D.ty.injEq, forall_eq', forall_eq, imp_self, forall_const, exists_and_left, exists_const, isL, appendD, popD, updD_same, updD_updD, DO.lst.injEq, atI_0, atI_1, atI_2, atI_3, atI_4, sz1, sz2, sz3, sz4, sz5, sz6, eqD_int, neD_int, eqD_bl, neD_bl, cutD_1,
  decide_eq_true_eq, Bool.not_eq_true', decide_eq_false_iff_not, List.reduceReplicate, Nat.reduceAdd, Nat.reduceSub, Nat.reduceMul, Bool.false_eq_true, Bool.true_eq_false, if_false, if_true, reduceIte, dgSub, setD, ix4s, ix5s, atI_0, atI_1, atI_2, atI_3, atI_4, *])
local macro_rules | `(tactic| walk_at "dv") => `(tactic| simp only [dSeq, dIfS, dTru, dB, dNot, dAnd, dOr, dVar, dC, dOp, dCall, dCons, dNil, dRet, dRetN, dAsg, dgName, dNext, dDrop, dDNew, dDGet, dDGetF, dDIn, dDNotIn, dDPut, dDDel, dDGet1, dDGet2, dFld, dSetF, dMeth, dMake, indexD2, dCBK, dLstRevT, dCallN, gK, cond_true, cond_false, Option.toList_some, diItems, diKeys, diVals, diZip, diEnum, listKD, eqKD, dPairs, keyed, popAtD, insertD, reverseD, dRaise, dRetX, dAsgX, dDropX, dCallX, dPureX, dXf, List.zip_cons_cons, List.zip_nil_right, List.zip_nil_left, List.reverse_cons, List.reverse_nil, dCB, dBM, dTup, dLst, dSl, dPart, dNoPart, dNotV, dAndV, dOrV, dIf, dNeg, diTup, diLst, diSeq, seqI_tup, seqI_lsv, seqI_ref, diRng1, diRng2, addD_int, addD_str, addD_tup, addD_ref, subD_int, mulD_int, fdivD_int, modD_int, powD_int, ltD_int, ltD_str, leD_int, gtD_int, geD_int, isD_non, isNotD_non, truD_non, truD_bl, truD_int, truD_str, truD_tup, truD_lsv, slD_tup, slD_str, slD_ref, slD_lsv, ixD_tup, ixD_lsv, ixD_str, ixD_ref, lenD_tup, lenD_lsv, lenD_str, lenD_ref, absD_int, intD_int, max2D_int, min2D_int, listD_tup, listD_lsv, listD_ref, tupleD_tup, tupleD_ref, isNon, dstart, dYes,
  List.map_cons, List.map_nil, List.length_cons, List.length_nil, List.nil_append, List.cons_append, List.append_nil, List.set_cons_zero, List.set_cons_succ, List.getElem?_cons_zero, List.getElem?_cons_succ, Option.some.injEq, exists_eq_left', exists_eq_left, exists_eq_right, exists_eq, exists_eq', List.cons.injEq, and_true, true_and, D.int.injEq, D.str.injEq, D.bl.injEq, D.tup.injEq, D.ref.injEq, D.ty.injEq, forall_eq', forall_eq, imp_self, forall_const, exists_and_left, exists_const, isL, appendD, popD, updD_same, updD_updD, DO.lst.injEq, atI_0, atI_1, atI_2, atI_3, atI_4, sz1, sz2, sz3, sz4, sz5, sz6, eqD_int, neD_int, eqD_bl, neD_bl, cutD_1,
  decide_eq_true_eq, Bool.not_eq_true', decide_eq_false_iff_not, List.reduceReplicate, Nat.reduceAdd, Nat.reduceSub, Nat.reduceMul, Bool.false_eq_true, Bool.true_eq_false, if_false, if_true, reduceIte, dgSub, setD, ix4s, ix5s, atI_0, atI_1, atI_2, atI_3, atI_4, *])
def N_law_draws : List Str := [Str.ofString "_law_script", Str.ofString "_law_draws_here", Str.ofString "_law_cell", Str.ofString "_law_number", Str.ofString "_law_first", Str.ofString "_law_k", Str.ofString "_law_seed"]
def t_law_draws : DTS := dSeq (dAsg (dLst (dNil)) (dgName 1)) (dSeq (dFor (diLst (dVar 0)) (dgName 2) (dSeq (dAsg (dCB absD (dCons (dVar 2) (dNil))) (dgName 3)) (dSeq (dIfS (dB (dOp ltD (dVar 3) (dOp powD (dC (.int 10)) (dC (.int 18))))) (dSeq (dAsg (dOp modD (dCB intD (dCons (dOp addD (dOp mulD (dVar 3) (dC (.int 48271))) (dC (.int 11))) (dNil))) (dC (.int 2147483647))) (dgName 4)) (dSeq (dDrop (dBM isL appendD (dVar 1) (dCons (dOp modD (dCB intD (dCons (dOp addD (dOp mulD (dVar 4) (dC (.int 69621))) (dVar 3)) (dNil))) (dC (.int 2147483629))) dNil))) (dSeq (dDrop (dBM isL appendD (dVar 1) (dCons (dOp modD (dCB intD (dCons (dOp addD (dVar 4) (dOp fdivD (dVar 3) (dC (.int 7)))) (dNil))) (dC (.int 1000003))) dNil))) (dAsg (dC (.int 0)) (dgName 3))))) (dNext)) (dFor (diRng1 (dCons (dC (.int 60)) (dNil))) (dgName 5) (dIfS (dB (dOp gtD (dVar 3) (dC (.int 0)))) (dSeq (dDrop (dBM isL appendD (dVar 1) (dCons (dOp modD (dCB intD (dCons (dVar 3) (dNil))) (dC (.int 997))) dNil))) (dAsg (dOp fdivD (dVar 3) (dC (.int 997))) (dgName 3))) (dNext)))))) (dSeq (dAsg (dC (.int 1)) (dgName 6)) (dSeq (dIfS (dB (dOp gtD (dCB lenD (dCons (dVar 0) (dNil))) (dC (.int 0)))) (dAsg (dOp addD (dC (.int 1)) (dCB absD (dCons (dOp ixD (dVar 0) (dC (.int 0))) (dNil)))) (dgName 6)) (dNext)) (dSeq (dFor (diRng1 (dCons (dC (.int 60)) (dNil))) (dgName 5) (dSeq (dAsg (dOp modD (dCB intD (dCons (dOp addD (dOp mulD (dVar 6) (dC (.int 48271))) (dC (.int 69621))) (dNil))) (dC (.int 2147483647))) (dgName 6)) (dDrop (dBM isL appendD (dVar 1) (dCons (dOp fdivD (dVar 6) (dC (.int 5))) dNil))))) (dRet (dLstRev (dVar 1)))))))
def N_law_take : List Str := [Str.ofString "_law_draws_here", Str.ofString "_law_bound"]
def t_law_take : DTS := dSeq (dIfS (dB (dOp eqD (dCB lenD (dCons (dVar 0) (dNil))) (dC (.int 0)))) (dRet (dC (.int 0))) (dNext)) (dRet (dOp modD (dCB intD (dCons (dBM isL popD (dVar 0) dNil) (dNil))) (dVar 1)))
def N_law_words : List Str := [Str.ofString "_law_draws_here", Str.ofString "_law_many", Str.ofString "_law_letters", Str.ofString "_law_signs", Str.ofString "_law_words_here", Str.ofString "_law_k", Str.ofString "_law_word", Str.ofString "_law_j"]
def t_law_words (sp_law_take : SpD) : DTS := dSeq (dAsg (dC (.str "abcdefghijklmnopqrstuvwxyz")) (dgName 2)) (dSeq (dAsg (dOp addD (dVar 2) (dC (.str "ABCDEFGHIJKLMNOPQRSTUVWXYZ0123456789_"))) (dgName 3)) (dSeq (dAsg (dLst (dNil)) (dgName 4)) (dSeq (dFor (diRng1 (dCons (dVar 1) (dNil))) (dgName 5) (dSeq (dAsg (dOp ixD (dVar 2) (dCall sp_law_take [] (dCons (dVar 0) (dCons (dC (.int 26)) (dNil))))) (dgName 6)) (dSeq (dFor (diRng1 (dCons (dCall sp_law_take [] (dCons (dVar 0) (dCons (dC (.int 4)) (dNil)))) (dNil))) (dgName 7) (dAsg (dOp addD (dVar 6) (dOp ixD (dVar 3) (dCall sp_law_take [] (dCons (dVar 0) (dCons (dC (.int 63)) (dNil)))))) (dgName 6))) (dSeq (dFor (diRng1 (dCons (dC (.int 30)) (dNil))) (dgName 7) (dIfS (dOr (dB (dOp inD (dVar 6) (dVar 4))) (dB (dOp inD (dVar 6) (dLst (dCons (dC (.str "true")) (dCons (dC (.str "false")) (dCons (dC (.str "all")) (dCons (dC (.str "some")) (dCons (dC (.str "goal")) (dCons (dC (.str "axiom")) (dNil))))))))))) (dAsg (dOp addD (dVar 6) (dC (.str "x"))) (dgName 6)) (dNext))) (dDrop (dBM isL appendD (dVar 4) (dCons (dVar 6) dNil))))))) (dRet (dVar 4)))))

/-! the draws of the laws, family of _law_draws -/
/-- a list of whole numbers at a -/
def IsDeck (h : DH) (a : Addr) : Prop := ∃ es : List Int, h a = some (.lst (es.map .int))
/-- the deck alone has changed -/
def Dk (a : Addr) (h h' : DH) : Prop := ∃ es : List Int, h' = updD h a (.lst (es.map .int))
theorem Dk.deck {a : Addr} {h h' : DH} (d : Dk a h h') : IsDeck h' a := by
  obtain ⟨es, rfl⟩ := d
  exact ⟨es, updD_same⟩
theorem Dk.trans {a : Addr} {h h1 h2 : DH} (d : Dk a h h1) (e : Dk a h1 h2) : Dk a h h2 := by
  obtain ⟨es, rfl⟩ := d
  obtain ⟨fs, rfl⟩ := e
  exact ⟨fs, updD_updD⟩
theorem Dk.refl {a : Addr} {h : DH} (d : IsDeck h a) : Dk a h h := by
  obtain ⟨es, e⟩ := d
  exact ⟨es, (updD_self e).symm⟩
theorem Dk.ne {a b : Addr} {h h' : DH} (d : Dk a h h') (n : b ≠ a) : h' b = h b := by
  obtain ⟨es, rfl⟩ := d
  exact updD_ne n
/-! _law_take -/
def sp_take : SpD := fun ds h Q _ => ∃ a b, ds = [.ref a, .int b] ∧ IsDeck h a ∧ 0 < b ∧ ∀ v h', 0 ≤ v → v < b → Dk a h h' → Q (.int v) h'
theorem ms_take : MonoSp sp_take := fun ds h Q Q' E k ⟨a, b, e, d, l, q⟩ => ⟨a, b, e, d, l, fun v h' x y z => k _ _ (q v h' x y z)⟩
theorem r_take (ds : List D) (h : DH) (Q : DK) (Ed : DXK) (up : Up Q) (q : sp_take ds h Q Ed) : t_law_take { nx := fun _ h' => Q .non h', rt := Q } (dstart N_law_take ds) h := by
  obtain ⟨a, b, rfl, ⟨es, e⟩, l, q⟩ := q
  unfold t_law_take N_law_take isL popD
  walk_at "dl"
  refine ⟨_, e, fun _ => ?_⟩
  rw [List.length_map]
  by_cases z : es = []
  · subst z
    simp
    exact q 0 h (by omega) l (.refl ⟨_, e⟩)
  · have hl : es.length ≠ 0 := fun x => z (List.eq_nil_of_length_eq_zero x)
    rw [if_neg (by omega)]
    refine ⟨⟨_, e⟩, ?_⟩
    have hi : es.length - 1 < es.length := by omega
    refine ⟨_, e, .int es[es.length - 1], by rw [List.length_map, List.getElem?_map, List.getElem?_eq_getElem hi]; rfl, ?_⟩
    walk_at "dl"
    refine ⟨l, q _ _ (Int.emod_nonneg _ (by omega)) (Int.emod_lt_of_pos _ l) ⟨es.dropLast, by rw [List.map_dropLast]⟩⟩
/-! _law_draws -/
theorem abs_ite (i : Int) : (if i < 0 then -i else i) = (i.natAbs : Int) := by split <;> omega
theorem bits_pow {z : Int} (h : Builtin.Int.intBits z ≤ 1048576) : z.natAbs < 2 ^ 1048576 := by
  unfold Builtin.Int.intBits at h
  split at h
  · rename_i e
    have : z = 0 := by simpa using e
    subst this
    exact Nat.two_pow_pos _
  · by_cases z0 : z.natAbs = 0
    · rw [z0]; exact Nat.two_pow_pos _
    · exact (Nat.log2_lt z0).mp (by omega)
def sp_draws : SpD := fun ds h Q _ => ∃ ns : List Int, ds = [.lsv (ns.map .int)] ∧ ns.length ≤ 63 ∧ (∀ z ∈ ns, Builtin.Int.intBits z ≤ 1048576) ∧ ∀ p (es : List Int), h p = none → Q (.ref p) (updD h p (.lst (es.map .int)))
theorem ms_draws : MonoSp sp_draws := fun ds h Q Q' E k ⟨ns, e, l, b, q⟩ => ⟨ns, e, l, b, fun p es n => k _ _ (q p es n)⟩
theorem mulX_c {i : Int} {c : Int} {a : Nat} (h : i.natAbs < 2 ^ a) (ha : a ≤ 2000000) (hc : c.natAbs < 2 ^ 32) : CMulX i c := mulX h hc (by omega)
theorem divW_c {i c : Int} (h : 0 < c) (hc : c.natAbs < 2 ^ 32) : CDivW i c := wide_div h hc (by decide) (by decide)
theorem lt_pow {n a b : Nat} (h : n < 2 ^ a) (l : a ≤ b) : n < 2 ^ b := Nat.lt_of_lt_of_le h (Nat.pow_le_pow_right (by decide) l)
theorem mod_abs (i : Int) {c : Int} (h : 0 < c) : 0 ≤ i % c ∧ i % c < c := ⟨Int.emod_nonneg _ (by omega), Int.emod_lt_of_pos _ h⟩
def ten18 : Int := 1000000000000000000
theorem pow18 : ((10 : Int) ^ (18 : Int).toNat) = ten18 := by decide
theorem cpow18 : CPow 10 18 := ⟨by decide, by decide, by decide⟩
theorem r_draws (ds : List D) (h : DH) (Q : DK) (Ed : DXK) (up : Up Q) (q : sp_draws ds h Q Ed) : t_law_draws { nx := fun _ h' => Q .non h', rt := Q } (dstart N_law_draws ds) h := by
  obtain ⟨ns, rfl, hl, hb, q⟩ := q
  unfold t_law_draws N_law_draws
  refine dSeq_go ?_
  walk_at "ds"
  refine ⟨by rw [sizeLine_eq]; omega, fun p hp => ?_⟩
  refine dSeq_cut (fun τ h' => ∃ es : List Int, es.length ≤ 62 * 63 ∧ h' = updD h p (.lst (es.map .int)) ∧ ∃ a b c d e, τ = [some (.lsv (ns.map .int)), some (.ref p), a, b, c, d, e]) (fun nx hnx => ?_) ?_
  · refine dFor_of (items := ns.map .int) (st := fun _ => True) (h1 := updD h p (.lst [])) (fun i τ h' => ∃ es : List Int, es.length ≤ 62 * i ∧ h' = updD h p (.lst (es.map .int)) ∧ ∃ a b c d e, τ = [some (.lsv (ns.map .int)), some (.ref p), a, b, c, d, e])
      (fun R r => by walk_at "dl"; exact .inl ⟨_, rfl, r⟩) ⟨[], by simp, by simp, none, none, none, none, none, rfl⟩ (fun _ _ _ _ => trivial) ?_ ?_
    · rintro i d τ _ e ⟨es, le, rfl, x1, x2, x3, x4, x5, rfl⟩
      have hi : i < ns.length := by
        have := (List.getElem?_eq_some_iff.mp e).1
        simpa using this
      obtain ⟨n, rfl⟩ : ∃ n : Int, d = .int n := by
        rw [List.getElem?_map, List.getElem?_eq_getElem hi] at e
        exact ⟨_, (Option.some.inj e).symm⟩
      simp only [dgName, List.set_cons_zero, List.set_cons_succ]
      refine dSeq_go ?_
      walk_at "ds"
      rw [abs_ite]
      generalize hm : (n.natAbs : Int) = m
      have m0 : 0 ≤ m := by omega
      refine dSeq_cut (fun τ h' => ∃ (es : List Int) (m : Int), 0 ≤ m ∧ es.length ≤ 62 * i + 2 ∧ h' = updD h p (.lst (es.map .int)) ∧ ∃ b c d, τ = [some (.lsv (ns.map .int)), some (.ref p), some (.int n), some (.int m), b, c, d]) (fun nx2 hnx2 => ?_) ?_
      · walk_at "dl"
        rw [pow18]
        refine ⟨cpow18, ?_⟩
        by_cases lt : m < ten18
        · rw [if_pos lt]
          unfold ten18 at lt
          have a1 := mod_abs (m * 48271 + 11) (c := 2147483647) (by decide)
          refine ⟨mulX_c (a := 60) (by omega) (by decide) (by decide), by decide, ?_⟩
          have l1 : (es.map D.int).length < sizeLine := by rw [List.length_map, sizeLine_eq]; omega
          refine ⟨mulX_c (a := 32) (by omega) (by decide) (by decide), by decide, l1, divW_c (by decide) (by decide), by decide, ?_, hnx2 _ _ ⟨es ++ [((m * 48271 + 11) % 2147483647 * 69621 + m) % 2147483629] ++ [((m * 48271 + 11) % 2147483647 + m / 7) % 1000003], 0, by omega, by simp; omega, by simp, _, _, _, rfl⟩⟩
          rw [List.length_append, List.length_map, sizeLine_eq]
          simp
          omega
        · rw [if_neg lt]
          exact hnx2 _ _ ⟨es, _, m0, by omega, rfl, _, _, _, rfl⟩
      · rintro τ _ ⟨fs, m', m1, lf, rfl, y1, y2, y3, rfl⟩
        refine dFor_of (items := rangeD 0 60) (st := fun _ => True) (h1 := updD h p (.lst (fs.map .int))) (fun j τ h' => ∃ (gs : List Int) (m : Int), 0 ≤ m ∧ j ≤ 60 ∧ gs.length ≤ 62 * i + 2 + j ∧ h' = updD h p (.lst (gs.map .int)) ∧ ∃ b c d, τ = [some (.lsv (ns.map .int)), some (.ref p), some (.int n), some (.int m), b, c, d])
          (fun R r => by walk_at "dl"; exact ⟨by decide, by decide, r⟩) ⟨fs, m', m1, by omega, by omega, rfl, _, _, _, rfl⟩ (fun _ _ _ _ => trivial) ?_ ?_
        · rintro j d τ _ ej ⟨gs, m2, m3, lj, lg, rfl, z1, z2, z3, rfl⟩
          have hj := (rangeD_get ej).1
          walk_at "dl"
          by_cases lt : 0 < m2
          · rw [if_pos lt]
            refine ⟨by decide, by rw [List.length_map, sizeLine_eq]; omega, divW_c (by decide) (by decide), gs ++ [m2 % 997], m2 / 997, by omega, by omega, by simp; omega, by simp, ?_⟩
            simp
          · rw [if_neg lt]
            exact ⟨gs, m2, m3, by omega, by omega, rfl, by simp⟩
        · rintro τ _ ⟨gs, m2, m3, lj, lg, rfl, z1, z2, z3, rfl⟩
          rw [rangeD_length] at lg
          exact ⟨gs, by omega, rfl, _, _, _, _, _, rfl⟩
    · rintro τ _ ⟨es, le, rfl, r⟩
      rw [List.length_map] at le
      exact hnx _ _ ⟨es, by omega, rfl, r⟩
  · rintro τ _ ⟨es, le, rfl, x1, x2, x3, x4, x5, rfl⟩
    refine dSeq_go ?_
    walk_at "ds"
    refine dSeq_cut (fun τ h' => h' = updD h p (.lst (es.map .int)) ∧ ∃ m : Int, 0 ≤ m ∧ m.natAbs < 2 ^ 1048577 ∧ ∃ a b c d, τ = [some (.lsv (ns.map .int)), some (.ref p), a, b, c, d, some (.int m)]) (fun nx hnx => ?_) ?_
    · walk_at "dl"
      intro _
      by_cases lt : (0 : Int) < (ns.map D.int).length
      · rw [if_pos lt]
        cases ns with
        | nil => simp at lt
        | cons n ns =>
          refine ⟨_, atI_0, ?_⟩
          walk_at "dl"
          rw [abs_ite]
          have := bits_pow (hb n List.mem_cons_self)
          refine hnx _ _ ⟨rfl, _, by omega, ?_, _, _, _, _, rfl⟩
          have e : (1 + (n.natAbs : Int)).natAbs = n.natAbs + 1 := by omega
          rw [e, Nat.pow_succ]
          have := Nat.two_pow_pos 1048576
          omega
      · rw [if_neg lt]
        refine hnx _ _ ⟨rfl, _, by omega, ?_, _, _, _, _, rfl⟩
        exact lt_pow (a := 1) (by decide) (by decide)
    · rintro τ _ ⟨rfl, m, m0, mb, y1, y2, y3, y4, rfl⟩
      refine dSeq_cut (fun τ h' => ∃ gs : List Int, h' = updD h p (.lst (gs.map .int)) ∧ ∃ a b c d e, τ = [some (.lsv (ns.map .int)), some (.ref p), a, b, c, d, e]) (fun nx hnx => ?_) ?_
      · refine dFor_of (items := rangeD 0 60) (st := fun _ => True) (h1 := updD h p (.lst (es.map .int))) (fun j τ h' => ∃ (gs : List Int) (m : Int), 0 ≤ m ∧ m.natAbs < 2 ^ 1048577 ∧ gs.length ≤ es.length + j ∧ h' = updD h p (.lst (gs.map .int)) ∧ ∃ a b c d, τ = [some (.lsv (ns.map .int)), some (.ref p), a, b, c, d, some (.int m)])
          (fun R r => by walk_at "dl"; exact ⟨by decide, by decide, r⟩) ⟨es, m, m0, mb, by omega, rfl, _, _, _, _, rfl⟩ (fun _ _ _ _ => trivial) ?_ ?_
        · rintro j d τ _ ej ⟨gs, m2, m3, mb2, lg, rfl, z1, z2, z3, z4, rfl⟩
          have hj := (rangeD_get ej).1
          have a1 := mod_abs (m2 * 48271 + 69621) (c := 2147483647) (by decide)
          walk_at "dl"
          refine ⟨mulX_c mb2 (by decide) (by decide), by decide, divW_c (by decide) (by decide), by rw [List.length_map, sizeLine_eq]; omega, gs ++ [(m2 * 48271 + 69621) % 2147483647 / 5], _, a1.1, ?_, by simp; omega, by simp, by simp⟩
          exact lt_pow (a := 32) (by omega) (by decide)
        · rintro τ _ ⟨gs, m2, m3, mb2, lg, rfl, z1, z2, z3, z4, rfl⟩
          exact hnx _ _ ⟨gs, rfl, _, _, _, _, _, rfl⟩
      · rintro τ _ ⟨gs, rfl, z1, z2, z3, z4, z5, rfl⟩
        unfold dLstRev
        walk_at "dl"
        intro p2 hp2
        have hn : h p2 = none := Sub.free (Sub.new hp) hp2
        refine up _ _ _ ?_ (q p2 gs.reverse hn)
        rw [← List.map_reverse]
        exact (Sub.new hp).both
/-! _law_words -/
theorem Off.dk {a : Addr} {h h1 h2 : DH} (x : Off a h h1) (d : Dk a h1 h2) : Off a h h2 := fun b o n e => by rw [d.ne n]; exact x b o n e
def smalls : Str := Str.ofString "abcdefghijklmnopqrstuvwxyz"
def capdig : Str := Str.ofString "ABCDEFGHIJKLMNOPQRSTUVWXYZ0123456789_"
def reserved : List Str := ["true", "false", "all", "some", "goal", "axiom"]
/-- a sign of a word -/
def wchar (c : Nat) : Bool := (decide (97 ≤ c) && decide (c ≤ 122)) || (decide (65 ≤ c) && decide (c ≤ 90)) || (decide (48 ≤ c) && decide (c ≤ 57)) || decide (c = 95)
theorem smalls_len : smalls.cps.toList.length = 26 := by decide +kernel
theorem signs_len : (smalls ++ capdig).cps.toList.length = 63 := by decide +kernel
theorem smalls_all : ∀ c ∈ smalls.cps.toList, 97 ≤ c ∧ c ≤ 122 := by decide +kernel
theorem signs_all : ∀ c ∈ (smalls ++ capdig).cps.toList, wchar c = true := by decide +kernel
/-- a word: it begins with a small letter, is not reserved -/
structure WordOk (w : Str) : Prop where
  len : w.length ≤ 34
  pos : ∃ c l, w.cps.toList = c :: l ∧ 97 ≤ c ∧ c ≤ 122
  all : ∀ c ∈ w.cps.toList, wchar c = true
  res : w ∉ reserved
theorem wchar_lt {c : Nat} (h : wchar c = true) : c < 123 := by
  unfold wchar at h
  simp only [Bool.or_eq_true, Bool.and_eq_true, decide_eq_true_eq] at h
  omega
theorem strOk_of {w : Str} (h : ∀ c ∈ w.cps.toList, wchar c = true) : PyData.strOk w = true := by
  unfold PyData.strOk
  rw [Array.all_eq_true']
  intro c hc
  have := wchar_lt (h c (by simpa using hc))
  simp; omega
theorem WordOk.ok {w : Str} (h : WordOk w) : PyData.strOk w = true := strOk_of h.all
def sp_words : SpD := fun ds h Q _ => ∃ a m, ds = [.ref a, .int m] ∧ IsDeck h a ∧ 0 ≤ m ∧ m ≤ 20 ∧ ∀ p (ws : List Str) h', (ws.length : Int) = m → ws.Nodup → (∀ w ∈ ws, WordOk w) → Off a h h' → IsDeck h' a → p ≠ a → h p = none → h' p = some (.lst (ws.map .str)) → Q (.ref p) h'
theorem ms_words : MonoSp sp_words := fun ds h Q Q' E k ⟨a, m, e, d, l0, l, q⟩ => ⟨a, m, e, d, l0, l, fun p ws h' z1 z2 z3 z4 z5 z6 z7 z8 => k _ _ (q p ws h' z1 z2 z3 z4 z5 z6 z7 z8)⟩
theorem any_strs {w : Str} {ws : List Str} : ((ws.map D.str).any fun z => deq z (.str w)) = decide (w ∈ ws) := by
  induction ws with
  | nil => rfl
  | cons x xs ih =>
    rw [List.map_cons, List.any_cons, ih]
    simp only [deq, List.mem_cons]
    by_cases e : x = w
    · subst e; simp
    · have e2 : ¬ w = x := fun z => e z.symm
      simp [e, e2]
theorem okDs_strs {ws : List Str} (h : ∀ w ∈ ws, PyData.strOk w = true) : okDs (ws.map D.str) = true := by
  induction ws with
  | nil => rfl
  | cons x xs ih =>
    simp only [List.map_cons, okDs, okD, Bool.and_eq_true]
    exact ⟨h x List.mem_cons_self, ih fun w hw => h w (List.mem_cons_of_mem _ hw)⟩
theorem inD_strs {w : Str} {p : Addr} {ws : List Str} {h : DH} {Q : DK} (e : h p = some (.lst (ws.map .str))) (hw : PyData.strOk w = true) (hs : ∀ w ∈ ws, PyData.strOk w = true) : inD (.str w) (.ref p) h Q ↔ Q (.bl (decide (w ∈ ws))) h := by
  have dd : datD h (.ref p) = some (.lsv (ws.map .str)) := by simp [datD, e]
  unfold inD inL
  constructor
  · rintro ⟨ds, k, h1, h2, h3, q⟩
    have : ds = ws.map .str := by
      rcases k with k | k
      · cases k
      · rw [dd] at k; cases k; rfl
    subst this
    rw [any_strs] at q
    exact q
  · intro q
    exact ⟨_, .inr dd, by simpa [okD] using hw, okDs_strs hs, by simp [dep], by rw [any_strs]; exact q⟩
/-- a word so far -/
structure WordPre (w : Str) (n : Nat) : Prop where
  len : w.cps.toList.length ≤ n
  pos : ∃ c l, w.cps.toList = c :: l ∧ 97 ≤ c ∧ c ≤ 122
  all : ∀ c ∈ w.cps.toList, wchar c = true
theorem WordPre.one {c : Nat} (h : 97 ≤ c ∧ c ≤ 122) : WordPre ⟨#[c]⟩ 1 := by
  refine ⟨by simp, ⟨c, [], rfl, h⟩, fun d hd => ?_⟩
  have : d = c := by simpa using hd
  subst this
  unfold wchar
  simp [h]
theorem WordPre.app {w v : Str} {n k : Nat} (h : WordPre w n) (hv : ∀ c ∈ v.cps.toList, wchar c = true) (l : v.cps.toList.length ≤ k) : WordPre (w ++ v) (n + k) := by
  obtain ⟨h1, ⟨c, t, e, hc⟩, h3⟩ := h
  refine ⟨by rw [str_append, List.length_append]; omega, ⟨c, t ++ v.cps.toList, by rw [str_append, e]; rfl, hc⟩, fun d hd => ?_⟩
  rw [str_append, List.mem_append] at hd
  rcases hd with hd | hd
  · exact h3 d hd
  · exact hv d hd
theorem WordPre.ok {w : Str} {n : Nat} (h : WordPre w n) : PyData.strOk w = true := strOk_of h.all
def xs (w : Str) : Nat → Str
  | 0 => w
  | n + 1 => xs w n ++ Str.ofString "x"
theorem x_len : (Str.ofString "x").cps.toList.length = 1 := by decide +kernel
theorem x_all : ∀ c ∈ (Str.ofString "x").cps.toList, wchar c = true := by decide +kernel
theorem xs_pre {w : Str} {n : Nat} (h : WordPre w n) : ∀ k, WordPre (xs w k) (n + k)
  | 0 => h
  | k + 1 => (xs_pre h k).app x_all (Nat.le_of_eq x_len)
theorem xs_length (w : Str) : ∀ k, (xs w k).cps.toList.length = w.cps.toList.length + k
  | 0 => rfl
  | k + 1 => by rw [xs, str_append, List.length_append, xs_length w k, x_len]; omega
theorem xs_inj {w : Str} {i j : Nat} (h : xs w i = xs w j) : i = j := by
  have a := xs_length w i
  have b := xs_length w j
  rw [h] at a
  omega
/-- so many are not all there -/
theorem xs_out {w : Str} {bad : List Str} {k : Nat} (h : ∀ i, i < k → xs w i ∈ bad) : k ≤ bad.length := by
  have nd : ((List.range k).map (xs w)).Nodup := by
    apply List.Pairwise.map _ _ List.nodup_range
    intro a b n e
    exact n (xs_inj e)
  have := nodup_le nd (m := bad) (by
    intro x hx
    obtain ⟨i, hi, rfl⟩ := List.mem_map.mp hx
    exact h i (by simpa using hi))
  simpa using this
theorem at_sign {l : List Nat} {v : Int} {n : Nat} (h : l.length = n) (h0 : 0 ≤ v) (h1 : v < n) : ∃ c, atI l v = some c ∧ c ∈ l := by
  obtain ⟨k, rfl⟩ := Int.eq_ofNat_of_zero_le h0
  have hk : k < l.length := by omega
  exact ⟨l[k], atI_n hk, List.getElem_mem hk⟩
theorem reserved_ok : ∀ w ∈ reserved, PyData.strOk w = true := by decide +kernel
theorem r_words (ds : List D) (h : DH) (Q : DK) (Ed : DXK) (up : Up Q) (q : sp_words ds h Q Ed) : t_law_words sp_take { nx := fun _ h' => Q .non h', rt := Q } (dstart N_law_words ds) h := by
  obtain ⟨a, m, rfl, hd, m0, m1, q⟩ := q
  unfold t_law_words N_law_words
  rw [show (Str.ofString "abcdefghijklmnopqrstuvwxyz") = smalls from rfl, show (Str.ofString "ABCDEFGHIJKLMNOPQRSTUVWXYZ0123456789_") = capdig from rfl]
  refine dSeq_go ?_
  walk_at "ds"
  refine dSeq_go ?_
  walk_at "ds"
  refine ⟨by rw [str_len, str_len, ← List.length_append, ← str_append, signs_len, sizeLine_eq]; decide, ?_⟩
  refine dSeq_go ?_
  walk_at "ds"
  refine ⟨by rw [sizeLine_eq]; omega, fun p hp => ?_⟩
  have pa : p ≠ a := by
    rintro rfl
    obtain ⟨es, e⟩ := hd
    rw [hp] at e; cases e
  refine dSeq_cut (fun τ h' => ∃ ws : List Str, (ws.length : Int) = m ∧ ws.Nodup ∧ (∀ w ∈ ws, WordOk w) ∧ Off a h h' ∧ IsDeck h' a ∧ h' p = some (.lst (ws.map .str)) ∧ ∃ x y z, τ = [some (.ref a), some (.int m), some (.str smalls), some (.str (smalls ++ capdig)), some (.ref p), x, y, z]) (fun nx hnx => ?_) ?_
  · refine dFor_of (items := rangeD 0 m.toNat) (st := fun _ => True) (h1 := updD h p (.lst [])) (fun i τ h' => ∃ ws : List Str, ws.length = i ∧ ws.Nodup ∧ (∀ w ∈ ws, WordOk w) ∧ Off a h h' ∧ IsDeck h' a ∧ h' p = some (.lst (ws.map .str)) ∧ ∃ x y z, τ = [some (.ref a), some (.int m), some (.str smalls), some (.str (smalls ++ capdig)), some (.ref p), x, y, z])
      (fun R r => by walk_at "dl"; exact ⟨by omega, by omega, r⟩) ⟨[], rfl, List.nodup_nil, by simp, (Off.refl a h).new hp, ?_, updD_same, _, _, _, rfl⟩ (fun _ _ _ _ => trivial) ?_ ?_
    · obtain ⟨es, e⟩ := hd
      exact ⟨es, by rw [updD_ne pa.symm]; exact e⟩
    · rintro i d τ h' ei ⟨ws, hl, nd, ok, off, dk, e, x, y, z, rfl⟩
      have hi := (rangeD_get ei).1
      walk_at "ds"
      -- the first sign
      refine dSeq_go ?_
      walk_at "ds"
      unfold sp_take
      walk_at "ds"
      refine ⟨a, 26, ⟨rfl, rfl⟩, dk, by decide, fun v h2 v0 v1 k2 => ?_⟩
      obtain ⟨c, ec, hc⟩ := at_sign smalls_len v0 v1
      refine ⟨by rw [str_len, smalls_len, sizeLine_eq]; decide, c, ec, ?_⟩
      have off2 := off.dk k2
      have e2 : h2 p = some (.lst (ws.map .str)) := by rw [k2.ne pa]; exact e
      -- further ones
      refine dSeq_cut (fun τ h' => ∃ w, WordPre w 4 ∧ Off a h h' ∧ IsDeck h' a ∧ h' p = some (.lst (ws.map .str)) ∧ ∃ x z, τ = [some (.ref a), some (.int m), some (.str smalls), some (.str (smalls ++ capdig)), some (.ref p), x, some (.str w), z]) (fun nx2 hnx2 => ?_) ?_
      · refine dFor_go (fun items h1 => ∃ v : Int, 0 ≤ v ∧ v < 4 ∧ Dk a h2 h1 ∧ items = rangeD 0 v.toNat) (fun R r => ?_) (fun items h1 ⟨v, v0, v1, k3, ei⟩ => ?_)
        · walk_at "dl"
          exact ⟨a, 4, ⟨rfl, rfl⟩, k2.deck, by decide, fun v h3 v0 v1 k3 => ⟨by omega, by omega, r _ _ ⟨v, v0, v1, k3, rfl⟩⟩⟩
        · subst ei
          refine ⟨fun j τ h' => ∃ w, WordPre w (1 + j) ∧ Off a h h' ∧ IsDeck h' a ∧ h' p = some (.lst (ws.map .str)) ∧ ∃ x z, τ = [some (.ref a), some (.int m), some (.str smalls), some (.str (smalls ++ capdig)), some (.ref p), x, some (.str w), z], ⟨_, .one (smalls_all c hc), off2.dk k3, k3.deck, by rw [k3.ne pa]; exact e2, _, _, rfl⟩, ?_, ?_⟩
          · rintro j d2 τ h4 ej ⟨w, wp, off4, dk4, e4, x1, z1, rfl⟩
            have hj := (rangeD_get ej).1
            walk_at "dl"
            refine ⟨a, 63, ⟨rfl, rfl⟩, dk4, by decide, fun v2 h5 u0 u1 k5 => ?_⟩
            obtain ⟨c2, ec2, hc2⟩ := at_sign signs_len u0 u1
            have wl := wp.len
            refine ⟨by rw [str_len, signs_len, sizeLine_eq]; decide, c2, ec2, by rw [show ({ cps := #[c2] } : Str).length = 1 from rfl, str_len, sizeLine_eq]; omega, ⟨w ++ ⟨#[c2]⟩, wp.app (v := ⟨#[c2]⟩) (k := 1) (by
              intro c3 h3
              have : c3 = c2 := by simpa using h3
              rw [this]
              exact signs_all c2 hc2) (by simp), off4.dk k5, k5.deck, by rw [k5.ne pa]; exact e4, by simp⟩⟩
          · rintro τ h4 ⟨w, wp, off4, dk4, e4, x1, z1, rfl⟩
            rw [rangeD_length] at wp
            exact hnx2 _ _ ⟨w, ⟨by have := wp.len; omega, wp.pos, wp.all⟩, off4, dk4, e4, _, _, rfl⟩
      · rintro τ h3 ⟨w, wp, off3, dk3, e3, x1, z1, rfl⟩
        refine dSeq_cut (fun τ h' => ∃ w, WordOk w ∧ w ∉ ws ∧ Off a h h' ∧ IsDeck h' a ∧ h' p = some (.lst (ws.map .str)) ∧ ∃ x z, τ = [some (.ref a), some (.int m), some (.str smalls), some (.str (smalls ++ capdig)), some (.ref p), x, some (.str w), z]) (fun nx3 hnx3 => ?_) ?_
        · refine dFor_of (items := rangeD 0 30) (st := fun _ => True) (h1 := h3) (fun j τ h' => ∃ k, k ≤ j ∧ ((xs w k ∉ ws ∧ xs w k ∉ reserved) ∨ k = j) ∧ (∀ i, i < k → xs w i ∈ ws ++ reserved) ∧ Off a h h' ∧ IsDeck h' a ∧ h' p = some (.lst (ws.map .str)) ∧ ∃ x z, τ = [some (.ref a), some (.int m), some (.str smalls), some (.str (smalls ++ capdig)), some (.ref p), x, some (.str (xs w k)), z])
            (fun R r => by walk_at "dl"; exact ⟨by decide, by decide, r⟩) ⟨0, Nat.le_refl _, .inr rfl, fun i hi => absurd hi (Nat.not_lt_zero _), off3, dk3, e3, _, _, rfl⟩ (fun _ _ _ _ => trivial) ?_ ?_
          · rintro j d τ h4 ej ⟨k, kj, alt, bad, off4, dk4, e4, x2, z2, rfl⟩
            have wk := xs_pre wp k
            walk_at "dl"
            rw [inD_strs e4 wk.ok (fun w hw => (ok w hw).ok)]
            have kw : (xs w k).length + (Str.ofString "x").length ≤ sizeLine := by
              rw [str_len, str_len, xs_length, x_len, sizeLine_eq]
              have := wp.len
              have := (rangeD_get ej).1
              omega
            have more : xs w k ∈ ws ++ reserved → ∀ h6, Off a h h6 → IsDeck h6 a → h6 p = some (.lst (ws.map .str)) → ∃ k_1, k_1 ≤ j + 1 ∧ (¬xs w k_1 ∈ ws ∧ ¬xs w k_1 ∈ reserved ∨ k_1 = j + 1) ∧ (∀ (i : Nat), i < k_1 → xs w i ∈ ws ++ reserved) ∧ Off a h h6 ∧ IsDeck h6 a ∧ h6 p = some (DO.lst (List.map D.str ws)) ∧ xs w k ++ Str.ofString "x" = xs w k_1 := by
              intro hb h6 o6 d6 e6
              refine ⟨k + 1, by omega, .inr ?_, fun i hi => ?_, o6, d6, e6, rfl⟩
              · rcases alt with z | z
                · rw [List.mem_append] at hb
                  rcases hb with hb | hb
                  · exact absurd hb z.1
                  · exact absurd hb z.2
                · omega
              · by_cases z : i = k
                · subst z; exact hb
                · exact bad i (by omega)
            refine ⟨_, rfl, ?_⟩
            by_cases hw : xs w k ∈ ws
            · rw [if_pos (decide_eq_true hw)]
              exact ⟨kw, more (List.mem_append_left _ hw) h4 off4 dk4 e4⟩
            · rw [if_neg (by rw [decide_eq_false hw]; decide)]
              refine ⟨by rw [sizeLine_eq]; decide, fun q hq => ?_⟩
              have e6 : (updD h4 q (.lst (reserved.map .str))) p = some (.lst (ws.map .str)) := by rw [updD_ne (neD e4 hq)]; exact e4
              have d6 : IsDeck (updD h4 q (.lst (reserved.map .str))) a := by
                obtain ⟨es, ee⟩ := dk4
                exact ⟨es, by rw [updD_ne (neD ee hq)]; exact ee⟩
              refine (inD_strs (ws := reserved) updD_same wk.ok reserved_ok).mpr ⟨_, rfl, ?_⟩
              by_cases hr : xs w k ∈ reserved
              · rw [if_pos (decide_eq_true hr)]
                exact ⟨kw, more (List.mem_append_right _ hr) _ (off4.new hq) d6 e6⟩
              · rw [if_neg (by rw [decide_eq_false hr]; decide)]
                exact ⟨k, by omega, .inl ⟨hw, hr⟩, bad, off4.new hq, d6, e6, rfl⟩
          · rintro τ h4 ⟨k, kj, alt, bad, off4, dk4, e4, x2, z2, rfl⟩
            rw [rangeD_length] at kj alt
            have wk := xs_pre wp k
            have kb := xs_out bad
            rw [List.length_append, hl] at kb
            have rl : reserved.length = 6 := rfl
            have out : xs w k ∉ ws ∧ xs w k ∉ reserved := by
              rcases alt with z | z
              · exact z
              · omega
            refine hnx3 _ _ ⟨xs w k, ⟨by rw [str_len]; have := wk.len; omega, wk.pos, wk.all, out.2⟩, out.1, off4, dk4, e4, _, _, rfl⟩
        · rintro τ h4 ⟨w2, wok, wout, off4, dk4, e4, x2, z2, rfl⟩
          walk_at "dl"
          simp only [e4, Option.some.injEq, DO.lst.injEq, exists_eq_left', exists_eq_left, exists_eq, exists_eq', true_and, and_true]
          refine ⟨by rw [List.length_map, hl, sizeLine_eq]; omega, ws ++ [w2], by simp [hl], ?_, ?_, off4.mut hp, ?_, by simp⟩
          · rw [List.nodup_append]
            refine ⟨nd, by simp, fun x hx y hy e => ?_⟩
            have : y = w2 := by simpa using hy
            subst this
            subst e
            exact wout hx
          · intro x hx
            rcases List.mem_append.mp hx with hx | hx
            · exact ok x hx
            · have : x = w2 := by simpa using hx
              subst this
              exact wok
          · obtain ⟨es, ee⟩ := dk4
            exact ⟨es, by rw [updD_ne pa.symm]; exact ee⟩
    · rintro τ h' ⟨ws, l, nd, ok, off, dk, e, x, y, z, rfl⟩
      rw [rangeD_length] at l
      exact hnx _ _ ⟨ws, by omega, nd, ok, off, dk, e, _, _, _, rfl⟩
  · rintro τ h' ⟨ws, l, nd, ok, off, dk, e, x, y, z, rfl⟩
    walk_at "dl"
    exact q p ws h' l nd ok off dk pa hp e

end DL

namespace DL
open PySem PySem.Spec PyProof.Rows L2
local macro_rules | `(tactic| walk_at "dl") => `(tactic| simp only [dSeq, dIfS, dTru, dB, dNot, dAnd, dOr, dVar, dC, dOp, dCall, dCons, dNil, dRet, dRetN, dAsg, dgName, dNext, dDrop, dDNew, dDGet, dDGetF, dDIn, dDNotIn, dDPut, dDDel, dDGet1, dDGet2, dFld, dSetF, dMeth, dMake, indexD2, dCBK, dLstRevT, dCallN, gK, cond_true, cond_false, Option.toList_some, diItems, diKeys, diVals, diZip, diEnum, listKD, eqKD, dPairs, keyed, popAtD, insertD, reverseD, dRaise, dRetX, dAsgX, dDropX, dCallX, dPureX, dXf, List.zip_cons_cons, List.zip_nil_right, List.zip_nil_left, List.reverse_cons, List.reverse_nil, dCB, dBM, dTup, dLst, dSl, dPart, dNoPart, dNotV, dAndV, dOrV, dIf, dNeg, diTup, diLst, diSeq, seqI_tup, seqI_lsv, seqI_ref, diRng1, diRng2, addD_int, addD_str, addD_tup, addD_ref, subD_int, mulD_int, fdivD_int, modD_int, powD_int, ltD_int, ltD_str, leD_int, gtD_int, geD_int, isD_non, isNotD_non, truD_non, truD_bl, truD_int, truD_str, truD_tup, truD_lsv, slD_tup, slD_str, slD_ref, slD_lsv, ixD_tup, ixD_lsv, ixD_str, ixD_ref, lenD_tup, lenD_lsv, lenD_str, lenD_ref, absD_int, intD_int, max2D_int, min2D_int, listD_tup, listD_lsv, listD_ref, tupleD_tup, tupleD_ref, isNon, dstart, dYes,
  List.map_cons, List.map_nil, List.length_cons, List.length_nil, List.nil_append, List.cons_append, List.append_nil, List.set_cons_zero, List.set_cons_succ, List.getElem?_cons_zero, List.getElem?_cons_succ, Option.some.injEq, exists_eq_left', exists_eq_left, exists_eq_right, exists_eq, exists_eq', List.cons.injEq, and_true, true_and, D.int.injEq, D.str.injEq, D.bl.injEq, D.tup.injEq, D.ref.injEq, D.ty.injEq, forall_eq', forall_eq, imp_self, forall_const, exists_and_left, exists_const, isL, appendD, popD, updD_same, updD_updD, DO.lst.injEq, eqD_int, neD_int, eqD_bl, neD_bl, cutD_1,
  decide_eq_true_eq, Bool.not_eq_true', decide_eq_false_iff_not, List.reduceReplicate, Nat.reduceAdd, Nat.reduceSub, Nat.reduceMul, Bool.false_eq_true, Bool.true_eq_false, if_false, if_true, reduceIte])
local macro_rules | `(tactic| walk_at "ds") => `(tactic| simp only [dIfS, dTru, dB, dNot, dAnd, dOr, dVar, dC, dOp, dCall, dCons, dNil, dRet, dRetN, dAsg, dgName, dNext, dDrop, dDNew, dDGet, dDGetF, dDIn, dDNotIn, dDPut, dDDel, dDGet1, dDGet2, dFld, dSetF, dMeth, dMake, indexD2, dCBK, dLstRevT, dCallN, gK, cond_true, cond_false, Option.toList_some, diItems, diKeys, diVals, diZip, diEnum, listKD, eqKD, dPairs, keyed, popAtD, insertD, reverseD, dRaise, dRetX, dAsgX, dDropX, dCallX, dPureX, dXf, List.zip_cons_cons, List.zip_nil_right, List.zip_nil_left, List.reverse_cons, List.reverse_nil, dCB, dBM, dTup, dLst, dSl, dPart, dNoPart, dNotV, dAndV, dOrV, dIf, dNeg, diTup, diLst, diSeq, seqI_tup, seqI_lsv, seqI_ref, diRng1, diRng2, addD_int, addD_str, addD_tup, addD_ref, subD_int, mulD_int, fdivD_int, modD_int, powD_int, ltD_int, ltD_str, leD_int, gtD_int, geD_int, isD_non, isNotD_non, truD_non, truD_bl, truD_int, truD_str, truD_tup, truD_lsv, slD_tup, slD_str, slD_ref, slD_lsv, ixD_tup, ixD_lsv, ixD_str, ixD_ref, lenD_tup, lenD_lsv, lenD_str, lenD_ref, absD_int, intD_int, max2D_int, min2D_int, listD_tup, listD_lsv, listD_ref, tupleD_tup, tupleD_ref, isNon, dstart, dYes,
  List.map_cons, List.map_nil, List.length_cons, List.length_nil, List.nil_append, List.cons_append, List.append_nil, List.set_cons_zero, List.set_cons_succ, List.getElem?_cons_zero, List.getElem?_cons_succ, Option.some.injEq, exists_eq_left', exists_eq_left, exists_eq_right, exists_eq, exists_eq', List.cons.injEq, and_true, true_and, D.int.injEq, D.str.injEq, D.bl.injEq, D.tup.injEq, D.ref.injEq, D.ty.injEq, forall_eq', forall_eq, imp_self, forall_const, exists_and_left, exists_const, isL, appendD, popD, updD_same, updD_updD, DO.lst.injEq, eqD_int, neD_int, eqD_bl, neD_bl, cutD_1,
  decide_eq_true_eq, Bool.not_eq_true', decide_eq_false_iff_not, List.reduceReplicate, Nat.reduceAdd, Nat.reduceSub, Nat.reduceMul, Bool.false_eq_true, Bool.true_eq_false, if_false, if_true, reduceIte])
local macro_rules | `(tactic| walk_at "da") => `(tactic| simp only [dSeq, dIfS, dTru, dB, dNot, dAnd, dOr, dVar, dC, dOp, dCall, dCons, dNil, dRet, dRetN, dAsg, dgName, dNext, dDrop, dDNew, dDGet, dDGetF, dDIn, dDNotIn, dDPut, dDDel, dDGet1, dDGet2, dFld, dSetF, dMeth, dMake, indexD2, dCBK, dLstRevT, dCallN, gK, cond_true, cond_false, Option.toList_some, diItems, diKeys, diVals, diZip, diEnum, listKD, eqKD, dPairs, keyed, popAtD, insertD, reverseD, dRaise, dRetX, dAsgX, dDropX, dCallX, dPureX, dXf, List.zip_cons_cons, List.zip_nil_right, List.zip_nil_left, List.reverse_cons, List.reverse_nil, dCB, dBM, dTup, dLst, dSl, dPart, dNoPart, dNotV, dAndV, dOrV, dIf, dNeg, diTup, diLst, diSeq, seqI_tup, seqI_lsv, seqI_ref, diRng1, diRng2, addD_int, addD_str, addD_tup, addD_ref, subD_int, mulD_int, fdivD_int, modD_int, powD_int, ltD_int, ltD_str, leD_int, gtD_int, geD_int, isD_non, isNotD_non, truD_non, truD_bl, truD_int, truD_str, truD_tup, truD_lsv, slD_tup, slD_str, slD_ref, slD_lsv, ixD_tup, ixD_lsv, ixD_str, ixD_ref, lenD_tup, lenD_lsv, lenD_str, lenD_ref, absD_int, intD_int, max2D_int, min2D_int, listD_tup, listD_lsv, listD_ref, tupleD_tup, tupleD_ref, isNon, dstart, dYes,
  List.map_cons, List.map_nil, List.length_cons, List.length_nil, List.nil_append, List.cons_append, List.append_nil, List.set_cons_zero, List.set_cons_succ, List.getElem?_cons_zero, List.getElem?_cons_succ, Option.some.injEq, exists_eq_left', exists_eq_left, exists_eq_right, exists_eq, exists_eq', List.cons.injEq, and_true, true_and, D.int.injEq, D.str.injEq, D.bl.injEq, D.tup.injEq, D.ref.injEq, D.ty.injEq, forall_eq', forall_eq, imp_self, forall_const, exists_and_left, exists_const, isL, appendD, popD, updD_same, updD_updD, DO.lst.injEq, atI_0, atI_1, atI_2, atI_3, atI_4, sz1, sz2, sz3, sz4, sz5, sz6, eqD_int, neD_int, eqD_bl, neD_bl, cutD_1,
  decide_eq_true_eq, Bool.not_eq_true', decide_eq_false_iff_not, List.reduceReplicate, Nat.reduceAdd, Nat.reduceSub, Nat.reduceMul, Bool.false_eq_true, Bool.true_eq_false, if_false, if_true, reduceIte])
local macro_rules | `(tactic| walk_at "dz") => `(tactic| simp only [dIfS, dTru, dB, dNot, dAnd, dOr, dVar, dC, dOp, dCall, dCons, dNil, dRet, dRetN, dAsg, dgName, dNext, dDrop, dDNew, dDGet, dDGetF, dDIn, dDNotIn, dDPut, dDDel, dDGet1, dDGet2, dFld, dSetF, dMeth, dMake, indexD2, dCBK, dLstRevT, dCallN, gK, cond_true, cond_false, Option.toList_some, diItems, diKeys, diVals, diZip, diEnum, listKD, eqKD, dPairs, keyed, popAtD, insertD, reverseD, dRaise, dRetX, dAsgX, dDropX, dCallX, dPureX, dXf, List.zip_cons_cons, List.zip_nil_right, List.zip_nil_left, List.reverse_cons, List.reverse_nil, dCB, dBM, dTup, dLst, dSl, dPart, dNoPart, dNotV, dAndV, dOrV, dIf, dNeg, diTup, diLst, diSeq, seqI_tup, seqI_lsv, seqI_ref, diRng1, diRng2, addD_int, addD_str, addD_tup, addD_ref, subD_int, mulD_int, fdivD_int, modD_int, powD_int, ltD_int, ltD_str, leD_int, gtD_int, geD_int, isD_non, isNotD_non, truD_non, truD_bl, truD_int, truD_str, truD_tup, truD_lsv, slD_tup, slD_str, slD_ref, slD_lsv, ixD_tup, ixD_lsv, ixD_str, ixD_ref, lenD_tup, lenD_lsv, lenD_str, lenD_ref, absD_int, intD_int, max2D_int, min2D_int, listD_tup, listD_lsv, listD_ref, tupleD_tup, tupleD_ref, isNon, dstart, dYes,
  List.map_cons, List.map_nil, List.length_cons, List.length_nil, List.nil_append, List.cons_append, List.append_nil, List.set_cons_zero, List.set_cons_succ, List.getElem?_cons_zero, List.getElem?_cons_succ, Option.some.injEq, exists_eq_left', exists_eq_left, exists_eq_right, exists_eq, exists_eq', List.cons.injEq, and_true, true_and, D.int.injEq, D.str.injEq, D.bl.injEq, D.tup.injEq, D.ref.injEq, D.ty.injEq, forall_eq', forall_eq, imp_self, forall_const, exists_and_left, exists_const, isL, appendD, popD, updD_same, updD_updD, DO.lst.injEq, atI_0, atI_1, atI_2, atI_3, atI_4, sz1, sz2, sz3, sz4, sz5, sz6, eqD_int, neD_int, eqD_bl, neD_bl, cutD_1,
  decide_eq_true_eq, Bool.not_eq_true', decide_eq_false_iff_not, List.reduceReplicate, Nat.reduceAdd, Nat.reduceSub, Nat.reduceMul, Bool.false_eq_true, Bool.true_eq_false, if_false, if_true, reduceIte])
local macro_rules | `(tactic| walk_at "dw") => `(tactic| simp only [dIfS, dTru, dB, dNot, dAnd, dOr, dVar, dC, dOp, dCall, dCons, dNil, dRet, dRetN, dAsg, dgName, dNext, dDrop, dDNew, dDGet, dDGetF, dDIn, dDNotIn, dDPut, dDDel, dDGet1, dDGet2, dFld, dSetF, dMeth, dMake, indexD2, dCBK, dLstRevT, dCallN, gK, cond_true, cond_false, Option.toList_some, diItems, diKeys, diVals, diZip, diEnum, listKD, eqKD, dPairs, keyed, popAtD, insertD, reverseD, dRaise, dRetX, dAsgX, dDropX, dCallX, dPureX, dXf, List.zip_cons_cons, List.zip_nil_right, List.zip_nil_left, List.reverse_cons, List.reverse_nil, dCB, dBM, dTup, dLst, dSl, dPart, dNoPart, dNotV, dAndV, dOrV, dIf, dNeg, diTup, diLst, diSeq, seqI_tup, seqI_lsv, seqI_ref, diRng1, diRng2, addD_int, addD_str, addD_tup, addD_ref, subD_int, mulD_int, fdivD_int, modD_int, powD_int, ltD_int, ltD_str, leD_int, gtD_int, geD_int, isD_non, isNotD_non, truD_non, truD_bl, truD_int, truD_str, truD_tup, truD_lsv, slD_tup, slD_str, slD_ref, slD_lsv, ixD_tup, ixD_lsv, ixD_str, ixD_ref, lenD_tup, lenD_lsv, lenD_str, lenD_ref, absD_int, intD_int, max2D_int, min2D_int, listD_tup, listD_lsv, listD_ref, tupleD_tup, tupleD_ref, isNon, dstart, dYes,
  List.map_cons, List.map_nil, List.length_cons, List.length_nil, List.nil_append, List.cons_append, List.append_nil, List.set_cons_zero, List.set_cons_succ, List.getElem?_cons_zero, List.getElem?_cons_succ, Option.some.injEq, exists_eq_left', exists_eq_left, exists_eq_right, exists_eq, exists_eq', List.cons.injEq, and_true, true_and, D.int.injEq, D.str.injEq, D.bl.injEq, D.tup.injEq, D.ref.injEq, D.ty.injEq, forall_eq', forall_eq, imp_self, forall_const, exists_and_left, exists_const, isL, appendD, popD, updD_same, updD_updD, DO.lst.injEq, atI_0, atI_1, atI_2, atI_3, atI_4, sz1, sz2, sz3, sz4, sz5, sz6, eqD_int, neD_int, eqD_bl, neD_bl, cutD_1,
  decide_eq_true_eq, Bool.not_eq_true', decide_eq_false_iff_not, List.reduceReplicate, Nat.reduceAdd, Nat.reduceSub, Nat.reduceMul, Bool.false_eq_true, Bool.true_eq_false, if_false, if_true, reduceIte, dgSub, setD, ix4s, ix5s, atI_0, atI_1, atI_2, atI_3, atI_4, *])
local macro_rules | `(tactic| walk_at "dv") => `(tactic| simp only [dSeq, dIfS, dTru, dB, dNot, dAnd, dOr, dVar, dC, dOp, dCall, dCons, dNil, dRet, dRetN, dAsg, dgName, dNext, dDrop, dDNew, dDGet, dDGetF, dDIn, dDNotIn, dDPut, dDDel, dDGet1, dDGet2, dFld, dSetF, dMeth, dMake, indexD2, dCBK, dLstRevT, dCallN, gK, cond_true, cond_false, Option.toList_some, diItems, diKeys, diVals, diZip, diEnum, listKD, eqKD, dPairs, keyed, popAtD, insertD, reverseD, dRaise, dRetX, dAsgX, dDropX, dCallX, dPureX, dXf, List.zip_cons_cons, List.zip_nil_right, List.zip_nil_left, List.reverse_cons, List.reverse_nil, dCB, dBM, dTup, dLst, dSl, dPart, dNoPart, dNotV, dAndV, dOrV, dIf, dNeg, diTup, diLst, diSeq, seqI_tup, seqI_lsv, seqI_ref, diRng1, diRng2, addD_int, addD_str, addD_tup, addD_ref, subD_int, mulD_int, fdivD_int, modD_int, powD_int, ltD_int, ltD_str, leD_int, gtD_int, geD_int, isD_non, isNotD_non, truD_non, truD_bl, truD_int, truD_str, truD_tup, truD_lsv, slD_tup, slD_str, slD_ref, slD_lsv, ixD_tup, ixD_lsv, ixD_str, ixD_ref, lenD_tup, lenD_lsv, lenD_str, lenD_ref, absD_int, intD_int, max2D_int, min2D_int, listD_tup, listD_lsv, listD_ref, tupleD_tup, tupleD_ref, isNon, dstart, dYes,
  List.map_cons, List.map_nil, List.length_cons, List.length_nil, List.nil_append, List.cons_append, List.append_nil, List.set_cons_zero, List.set_cons_succ, List.getElem?_cons_zero, List.getElem?_cons_succ, Option.some.injEq, exists_eq_left', exists_eq_left, exists_eq_right, exists_eq, exists_eq', List.cons.injEq, and_true, true_and, D.int.injEq, D.str.injEq, D.bl.injEq, D.tup.injEq, D.ref.injEq, D.ty.injEq, forall_eq', forall_eq, imp_self, forall_const, exists_and_left, exists_const, isL, appendD, popD, updD_same, updD_updD, DO.lst.injEq, atI_0, atI_1, atI_2, atI_3, atI_4, sz1, sz2, sz3, sz4, sz5, sz6, eqD_int, neD_int, eqD_bl, neD_bl, cutD_1,
  decide_eq_true_eq, Bool.not_eq_true', decide_eq_false_iff_not, List.reduceReplicate, Nat.reduceAdd, Nat.reduceSub, Nat.reduceMul, Bool.false_eq_true, Bool.true_eq_false, if_false, if_true, reduceIte, dgSub, setD, ix4s, ix5s, atI_0, atI_1, atI_2, atI_3, atI_4, *])
def N_law_variable : List Str := [Str.ofString "_law_draws_here"]
def t_law_variable (sp_law_take : SpD) : DTS := dSeq (dIfS (dB (dOp eqD (dCall sp_law_take [] (dCons (dVar 0) (dCons (dC (.int 8)) (dNil)))) (dC (.int 7)))) (dRet (dCall sp_law_take [] (dCons (dVar 0) (dCons (dC (.int 900)) (dNil))))) (dNext)) (dRet (dCall sp_law_take [] (dCons (dVar 0) (dCons (dC (.int 4)) (dNil)))))
def N_law_term_1b49 : List Str := [Str.ofString "_law_draws_here", Str.ofString "_law_words_here", Str.ofString "_law_depth", Str.ofString "_law_kind", Str.ofString "_law_arguments", Str.ofString "_law_k"]
def t_law_term_1b49 (sp_law_take sp_law_variable sp_law_term_1b49 : SpD) : DTS := dSeq (dAsg (dCall sp_law_take [] (dCons (dVar 0) (dCons (dC (.int 7)) (dNil)))) (dgName 3)) (dSeq (dIfS (dAnd (dB (dOp eqD (dVar 2) (dC (.int 0)))) (dB (dOp gtD (dVar 3) (dC (.int 3))))) (dAsg (dOp subD (dVar 3) (dC (.int 4))) (dgName 3)) (dNext)) (dSeq (dIfS (dB (dOp eqD (dVar 3) (dC (.int 0)))) (dRet (dCall sp_law_variable [] (dCons (dVar 0) (dNil)))) (dNext)) (dSeq (dIfS (dB (dOp ltD (dVar 3) (dC (.int 4)))) (dRet (dTup (dCons (dOp ixD (dVar 1) (dOp subD (dVar 3) (dC (.int 1)))) (dNil)))) (dNext)) (dSeq (dAsg (dLc (diRng1 (dCons (dOp subD (dVar 3) (dC (.int 3))) (dNil))) (dgName 5) (dYes) (dCall sp_law_term_1b49 [] (dCons (dVar 0) (dCons (dVar 1) (dCons (dOp subD (dVar 2) (dC (.int 1))) (dNil))))) [5]) (dgName 4)) (dRet (dOp addD (dTup (dCons (dOp ixD (dVar 1) (dOp subD (dVar 3) (dC (.int 1)))) (dNil))) (dCB tupleD (dCons (dVar 4) (dNil)))))))))
def N_law_chain : List Str := [Str.ofString "_law_draws_here", Str.ofString "_law_words_here", Str.ofString "_law_term_here", Str.ofString "_law_most", Str.ofString "_law_k"]
def t_law_chain (sp_law_take : SpD) : DTS := dSeq (dFor (diRng1 (dCons (dCall sp_law_take [] (dCons (dVar 0) (dCons (dVar 3) (dNil)))) (dNil))) (dgName 4) (dAsg (dTup (dCons (dOp ixD (dVar 1) (dC (.int 3))) (dCons (dVar 2) (dNil)))) (dgName 2))) (dRet (dVar 2))

/-! terms -/
/-- the deck at a has moved, new objects may have come -/
structure Dq (a : Addr) (h h' : DH) : Prop where
  off : Off a h h'
  deck : IsDeck h' a
theorem Dq.refl {a : Addr} {h : DH} (d : IsDeck h a) : Dq a h h := ⟨.refl a h, d⟩
theorem Dk.dq {a : Addr} {h h' : DH} (d : Dk a h h') : Dq a h h' := ⟨(Off.refl a h).dk d, d.deck⟩
theorem Dq.trans {a : Addr} {h h1 h2 : DH} (x : Dq a h h1) (y : Dq a h1 h2) : Dq a h h2 := ⟨x.off.trans y.off, y.deck⟩
theorem Dq.new {a p : Addr} {h h1 : DH} {o : DO} (x : Dq a h h1) (n : h1 p = none) : Dq a h (updD h1 p o) :=
  ⟨x.off.new n, let ⟨es, e⟩ := x.deck; ⟨es, by rw [updD_ne (neD e n)]; exact e⟩⟩
theorem Dq.mut {a p : Addr} {h h1 : DH} {o : DO} (x : Dq a h h1) (n : h p = none) (pa : p ≠ a) : Dq a h (updD h1 p o) :=
  ⟨x.off.mut n, let ⟨es, e⟩ := x.deck; ⟨es, by rw [updD_ne pa.symm]; exact e⟩⟩
theorem Dq.at {a b : Addr} {h h1 : DH} {o : DO} (x : Dq a h h1) (n : b ≠ a) (e : h b = some o) : h1 b = some o := x.off b o n e
theorem deck_ne {a p : Addr} {h : DH} (d : IsDeck h a) (n : h p = none) : p ≠ a := by
  rintro rfl
  obtain ⟨es, e⟩ := d
  rw [n] at e; cases e
theorem Dq.none {a p : Addr} {h h1 : DH} (x : Dq a h h1) (pa : p ≠ a) (n : h1 p = none) : h p = none := by
  cases e : h p with
  | none => rfl
  | some o => rw [x.at pa e] at n; cases n
/-- the number of arguments of the k-th word -/
def arW (k : Nat) : Nat := k - 2
/-- terms over the words, nested at most n deep -/
inductive TmW (vr : D → Prop) (ws : List Str) : Nat → D → Prop
  | var {n : Nat} {d : D} : vr d → TmW vr ws n d
  | app {n k : Nat} {f : Str} {args : List D} : k < 6 → ws[k]? = some f → args.length = arW k → (∀ x ∈ args, TmW vr ws n x) → TmW vr ws (n + 1) (.tup (.str f :: args))
theorem TmW.mono {vr : D → Prop} {ws : List Str} {n m : Nat} {d : D} (h : TmW vr ws n d) : n ≤ m → TmW vr ws m d := by
  induction h generalizing m with
  | var v => exact fun _ => .var v
  | app k6 e l _ ih =>
    intro hm
    cases m with
    | zero => omega
    | succ m => exact .app k6 e l fun x hx => ih x hx (by omega)
theorem TmW.ok {vr : D → Prop} {ws : List Str} {n : Nat} {d : D} (hv : ∀ d, vr d → okD d = true) (hw : ∀ w ∈ ws, PyData.strOk w = true) (h : TmW vr ws n d) : okD d = true := by
  induction h with
  | var v => exact hv _ v
  | app k6 e l _ ih =>
    simp only [okD, okDs, Bool.and_eq_true]
    exact ⟨hw _ (List.mem_of_getElem? e), okDs_all ih⟩
theorem TmW.dep {vr : D → Prop} {ws : List Str} {n : Nat} {d : D} (hv : ∀ d, vr d → dep d = 0) (h : TmW vr ws n d) : dep d ≤ n := by
  induction h with
  | var v => rw [hv _ v]; exact Nat.zero_le _
  | app k6 e l _ ih =>
    simp only [DL.dep, deps]
    have := deps_all ih
    omega
/-- a number as a variable -/
def Vi (d : D) : Prop := ∃ i : Int, d = .int i ∧ 0 ≤ i ∧ i < 900
theorem Vi.ok {d : D} (h : Vi d) : okD d = true := by obtain ⟨i, rfl, _⟩ := h; rfl
theorem Vi.dep {d : D} (h : Vi d) : dep d = 0 := by obtain ⟨i, rfl, _⟩ := h; rfl
/-! _law_variable -/
def sp_variable : SpD := fun ds h Q _ => ∃ a, ds = [.ref a] ∧ IsDeck h a ∧ ∀ d h', Vi d → Dq a h h' → Q d h'
theorem ms_variable : MonoSp sp_variable := fun ds h Q Q' E k ⟨a, e, d, q⟩ => ⟨a, e, d, fun v h' x y => k _ _ (q v h' x y)⟩
theorem r_variable (ds : List D) (h : DH) (Q : DK) (Ed : DXK) (up : Up Q) (q : sp_variable ds h Q Ed) : t_law_variable sp_take { nx := fun _ h' => Q .non h', rt := Q } (dstart N_law_variable ds) h := by
  obtain ⟨a, rfl, hd, q⟩ := q
  unfold t_law_variable N_law_variable sp_take
  walk_at "dl"
  refine ⟨a, 8, ⟨rfl, rfl⟩, hd, by decide, fun v h1 v0 v1 k1 => ?_⟩
  split
  · exact ⟨a, 900, ⟨rfl, rfl⟩, k1.deck, by decide, fun v h2 v0 v1 k2 => q _ _ ⟨v, rfl, v0, v1⟩ (k1.dq.trans k2.dq)⟩
  · exact ⟨a, 4, ⟨rfl, rfl⟩, k1.deck, by decide, fun v h2 v0 v1 k2 => q _ _ ⟨v, rfl, v0, by omega⟩ (k1.dq.trans k2.dq)⟩
/-! _law_term -/
def sp_term (n : Nat) : SpD := fun ds h Q _ => ∃ a b dp ws, ds = [.ref a, .ref b, .int dp] ∧ IsDeck h a ∧ h b = some (.lst (List.map D.str ws)) ∧ 6 ≤ ws.length ∧ 0 ≤ dp ∧ dp < n ∧ ∀ t h', TmW Vi ws (dp.toNat + 1) t → Dq a h h' → Q t h'
theorem ms_term {n : Nat} : MonoSp (sp_term n) := fun ds h Q Q' E k ⟨a, b, dp, ws, e, d, e2, l, z0, z1, q⟩ => ⟨a, b, dp, ws, e, d, e2, l, z0, z1, fun v h' x y => k _ _ (q v h' x y)⟩
theorem words_ne {a b : Addr} {h : DH} {ws : List Str} (d : IsDeck h a) (e : h b = some (.lst (List.map D.str ws))) (l : ws.length ≠ 0) : b ≠ a := by
  rintro rfl
  obtain ⟨es, e2⟩ := d
  rw [e] at e2
  have := congrArg (fun o : Option DO => match o with | some (.lst xs) => xs | _ => []) e2
  simp only at this
  cases ws with
  | nil => exact l rfl
  | cons w ws => cases es <;> simp at this
theorem r_term {n : Nat} (ds : List D) (h : DH) (Q : DK) (Ed : DXK) (up : Up Q) (q : sp_term (n + 1) ds h Q Ed) : t_law_term_1b49 sp_take sp_variable (sp_term n) { nx := fun _ h' => Q .non h', rt := Q } (dstart N_law_term_1b49 ds) h := by
  obtain ⟨a, b, dp, ws, rfl, hd, hb, hl, z0, z1, q⟩ := q
  have ba := words_ne hd hb (by omega)
  unfold t_law_term_1b49 N_law_term_1b49
  refine dSeq_go ?_
  unfold sp_take sp_variable
  walk_at "ds"
  refine ⟨a, 7, ⟨rfl, rfl⟩, hd, by decide, fun k h1 k0 k1 d1 => ?_⟩
  have e1 : h1 b = some (.lst (ws.map .str)) := by rw [d1.ne ba]; exact hb
  refine dSeq_cut (fun τ h' => h1 = h' ∧ ∃ k : Int, 0 ≤ k ∧ k < 7 ∧ (dp = 0 → k < 4) ∧ ∃ x y, τ = [some (.ref a), some (.ref b), some (.int dp), some (.int k), x, y]) (fun nx hnx => ?_) ?_
  · walk_at "dl"
    by_cases c1 : dp = 0
    · rw [if_pos c1]
      by_cases c2 : 3 < k
      · rw [if_pos c2]
        exact hnx _ _ ⟨rfl, k - 4, by omega, by omega, by omega, _, _, rfl⟩
      · rw [if_neg c2]
        exact hnx _ _ ⟨rfl, k, by omega, by omega, by omega, _, _, rfl⟩
    · rw [if_neg c1]
      exact hnx _ _ ⟨rfl, k, by omega, by omega, by omega, _, _, rfl⟩
  · rintro τ _ ⟨rfl, k, k0, k1, k2, x, y, rfl⟩
    refine dSeq_cut (fun τ h' => h1 = h' ∧ 1 ≤ k ∧ τ = [some (.ref a), some (.ref b), some (.int dp), some (.int k), x, y]) (fun nx hnx => ?_) ?_
    · walk_at "dl"
      by_cases c1 : k = 0
      · rw [if_pos c1]
        exact ⟨d1.deck, fun t h2 vt d2 => q t h2 (.var vt) (d1.dq.trans d2)⟩
      · rw [if_neg c1]
        exact hnx _ _ ⟨rfl, by omega, rfl⟩
    · rintro τ _ ⟨rfl, k3, rfl⟩
      obtain ⟨m, rfl⟩ : ∃ m : Nat, k = m + 1 := ⟨(k - 1).toNat, by omega⟩
      have hm : m < ws.length := by omega
      have em : ws[m]? = some ws[m] := List.getElem?_eq_getElem hm
      have ei : atI (ws.map D.str) ((m : Int) + 1 - 1) = some (.str ws[m]) := by
        rw [show (m : Int) + 1 - 1 = (m : Int) by omega]
        exact atI_nat (by rw [List.getElem?_map, em]; rfl)
      refine dSeq_cut (fun τ h' => h1 = h' ∧ 3 ≤ m ∧ τ = [some (.ref a), some (.ref b), some (.int dp), some (.int (m + 1)), x, y]) (fun nx hnx => ?_) ?_
      · walk_at "dl"
        by_cases c1 : (m : Int) + 1 < 4
        · rw [if_pos c1]
          refine ⟨_, e1, _, ei, by rw [sizeLine_eq]; decide, ?_⟩
          exact q _ _ (.app (args := []) (by omega) em (by simp [arW]; omega) (by simp)) d1.dq
        · rw [if_neg c1]
          exact hnx _ _ ⟨rfl, by omega, rfl⟩
      · rintro τ _ ⟨rfl, m3, rfl⟩
        have dp0 : dp ≠ 0 := fun z => by have := k2 z; omega
        refine dSeq_go ?_
        simp only [dAsg]
        refine dLc_any (items := rangeD 0 (m - 2 : Nat)) (st := fun _ => True) (h1 := h1) (fun p i h' => ∃ acc, acc.length = i ∧ i ≤ m - 2 ∧ (∀ x ∈ acc, TmW Vi ws dp.toNat x) ∧ Dq a h h' ∧ h' p = some (.lst acc))
          (fun R r => by walk_at "dl"; rw [show (m : Int) + 1 - 3 = ((m - 2 : Nat) : Int) by omega]; exact ⟨by omega, by omega, r⟩) (fun _ _ _ _ => trivial) (fun p n => ⟨[], rfl, by omega, by simp, d1.dq.new n, updD_same⟩) ?_ ?_
        · rintro p pn i d h2 ei2 ⟨acc, l, li, ok, dq, ep⟩
          have hi := (rangeD_get ei2).1
          have pa := deck_ne d1.deck pn
          have eb := dq.at ba hb
          unfold sp_term
          simp only [wipeD]
          walk_at "dl"
          refine ⟨a, b, dp - 1, ⟨rfl, rfl, rfl⟩, dq.deck, ws, eb, hl, by omega, by omega, fun t h3 tm d3 => ?_⟩
          have ep3 := d3.at pa ep
          have hp : h p = none := by
            cases e : h p with
            | none => rfl
            | some o => rw [d1.dq.at pa e] at pn; cases pn
          refine ⟨acc, ep3, by rw [sizeLine_eq]; omega, acc ++ [t], by simp [l], by omega, ?_, (dq.trans d3).mut hp pa, rfl⟩
          intro x hx
          rcases List.mem_append.mp hx with hx | hx
          · exact ok x hx
          · have : x = t := by simpa using hx
            subst this
            exact tm.mono (by omega)
        · rintro p pn h2 ⟨acc, l, li, ok, dq, ep⟩
          rw [rangeD_length] at l
          have eb := dq.at ba hb
          walk_at "dl"
          refine ⟨_, eb, _, ei, by rw [sizeLine_eq]; decide, acc, ep, ?_⟩
          refine ⟨by rw [sizeLine_eq]; omega, ?_⟩
          exact q _ _ (.app (by omega) em (by rw [l]; rfl) ok) dq
/-! _law_chain -/
def chD (f : Str) (t : D) : Nat → D
  | 0 => t
  | k + 1 => .tup [.str f, chD f t k]
def sp_chain : SpD := fun ds h Q _ => ∃ a b m ws t f, ds = [.ref a, .ref b, t, .int m] ∧ IsDeck h a ∧ h b = some (.lst (List.map D.str ws)) ∧ ws[3]? = some f ∧ 0 < m ∧ m ≤ 1000 ∧ ∀ (k : Nat) h', (k : Int) < m → Dq a h h' → Q (chD f t k) h'
theorem ms_chain : MonoSp sp_chain := fun ds h Q Q' E k ⟨a, b, m, ws, t, f, e, d, e2, e3, z0, z1, q⟩ => ⟨a, b, m, ws, t, f, e, d, e2, e3, z0, z1, fun v h' x y => k _ _ (q v h' x y)⟩
theorem r_chain (ds : List D) (h : DH) (Q : DK) (Ed : DXK) (up : Up Q) (q : sp_chain ds h Q Ed) : t_law_chain sp_take { nx := fun _ h' => Q .non h', rt := Q } (dstart N_law_chain ds) h := by
  obtain ⟨a, b, m, ws, t, f, rfl, hd, hb, ef, m0, m1, q⟩ := q
  have ba := words_ne hd hb (by
    intro z
    have : ws = [] := List.eq_nil_of_length_eq_zero z
    subst this
    cases ef)
  unfold t_law_chain N_law_chain
  refine dSeq_cut (fun τ h' => ∃ k : Nat, (k : Int) < m ∧ Dq a h h' ∧ ∃ x, τ = [some (.ref a), some (.ref b), some (chD f t k), some (.int m), x]) (fun nx hnx => ?_) ?_
  · refine dFor_go (fun items h1 => ∃ v : Int, 0 ≤ v ∧ v < m ∧ Dk a h h1 ∧ items = rangeD 0 v.toNat) (fun R r => ?_) (fun items h1 ⟨v, v0, v1, k1, ei⟩ => ?_)
    · unfold sp_take
      walk_at "dl"
      exact ⟨a, m, ⟨rfl, rfl⟩, hd, m0, fun v h3 v0 v1 k3 => ⟨by omega, by omega, r _ _ ⟨v, v0, v1, k3, rfl⟩⟩⟩
    · subst ei
      refine ⟨fun j τ h' => h1 = h' ∧ ∃ x, τ = [some (.ref a), some (.ref b), some (chD f t j), some (.int m), x], ⟨rfl, _, rfl⟩, ?_, ?_⟩
      · rintro j d τ h2 ej ⟨e, x, rfl⟩
        subst e
        have eb : h1 b = some (.lst (ws.map .str)) := by rw [k1.ne ba]; exact hb
        walk_at "dl"
        refine ⟨_, eb, .str f, atI_nat (j := 3) (by rw [List.getElem?_map, ef]; rfl), by rw [sizeLine_eq]; decide, by simp [chD]⟩
      · rintro τ h2 ⟨e, x, rfl⟩
        subst e
        rw [rangeD_length]
        exact hnx _ _ ⟨v.toNat, by omega, k1.dq, _, rfl⟩
  · rintro τ h' ⟨k, lk, dq, x, rfl⟩
    walk_at "dl"
    exact q k h' lk dq
theorem chD_ok {f : Str} {t : D} (hf : PyData.strOk f = true) (ht : okD t = true) : ∀ k, okD (chD f t k) = true
  | 0 => ht
  | k + 1 => by simp [chD, okD, okDs, hf, chD_ok hf ht k]
theorem chD_dep {f : Str} {t : D} : ∀ k, dep (chD f t k) = dep t + k
  | 0 => rfl
  | k + 1 => by simp [chD, dep, deps, chD_dep k]; omega

end DL

namespace DL
open PySem PySem.Spec PyProof.Rows L2
local macro_rules | `(tactic| walk_at "dl") => `(tactic| simp only [dSeq, dIfS, dTru, dB, dNot, dAnd, dOr, dVar, dC, dOp, dCall, dCons, dNil, dRet, dRetN, dAsg, dgName, dNext, dDrop, dDNew, dDGet, dDGetF, dDIn, dDNotIn, dDPut, dDDel, dDGet1, dDGet2, dFld, dSetF, dMeth, dMake, indexD2, dCBK, dLstRevT, dCallN, gK, cond_true, cond_false, Option.toList_some, diItems, diKeys, diVals, diZip, diEnum, listKD, eqKD, dPairs, keyed, popAtD, insertD, reverseD, dRaise, dRetX, dAsgX, dDropX, dCallX, dPureX, dXf, List.zip_cons_cons, List.zip_nil_right, List.zip_nil_left, List.reverse_cons, List.reverse_nil, dCB, dBM, dTup, dLst, dSl, dPart, dNoPart, dNotV, dAndV, dOrV, dIf, dNeg, diTup, diLst, diSeq, seqI_tup, seqI_lsv, seqI_ref, diRng1, diRng2, addD_int, addD_str, addD_tup, addD_ref, subD_int, mulD_int, fdivD_int, modD_int, powD_int, ltD_int, ltD_str, leD_int, gtD_int, geD_int, isD_non, isNotD_non, truD_non, truD_bl, truD_int, truD_str, truD_tup, truD_lsv, slD_tup, slD_str, slD_ref, slD_lsv, ixD_tup, ixD_lsv, ixD_str, ixD_ref, lenD_tup, lenD_lsv, lenD_str, lenD_ref, absD_int, intD_int, max2D_int, min2D_int, listD_tup, listD_lsv, listD_ref, tupleD_tup, tupleD_ref, isNon, dstart, dYes,
  List.map_cons, List.map_nil, List.length_cons, List.length_nil, List.nil_append, List.cons_append, List.append_nil, List.set_cons_zero, List.set_cons_succ, List.getElem?_cons_zero, List.getElem?_cons_succ, Option.some.injEq, exists_eq_left', exists_eq_left, exists_eq_right, exists_eq, exists_eq', List.cons.injEq, and_true, true_and, D.int.injEq, D.str.injEq, D.bl.injEq, D.tup.injEq, D.ref.injEq, D.ty.injEq, forall_eq', forall_eq, imp_self, forall_const, exists_and_left, exists_const, isL, appendD, popD, updD_same, updD_updD, DO.lst.injEq, eqD_int, neD_int, eqD_bl, neD_bl, cutD_1,
  decide_eq_true_eq, Bool.not_eq_true', decide_eq_false_iff_not, List.reduceReplicate, Nat.reduceAdd, Nat.reduceSub, Nat.reduceMul, Bool.false_eq_true, Bool.true_eq_false, if_false, if_true, reduceIte])
local macro_rules | `(tactic| walk_at "ds") => `(tactic| simp only [dIfS, dTru, dB, dNot, dAnd, dOr, dVar, dC, dOp, dCall, dCons, dNil, dRet, dRetN, dAsg, dgName, dNext, dDrop, dDNew, dDGet, dDGetF, dDIn, dDNotIn, dDPut, dDDel, dDGet1, dDGet2, dFld, dSetF, dMeth, dMake, indexD2, dCBK, dLstRevT, dCallN, gK, cond_true, cond_false, Option.toList_some, diItems, diKeys, diVals, diZip, diEnum, listKD, eqKD, dPairs, keyed, popAtD, insertD, reverseD, dRaise, dRetX, dAsgX, dDropX, dCallX, dPureX, dXf, List.zip_cons_cons, List.zip_nil_right, List.zip_nil_left, List.reverse_cons, List.reverse_nil, dCB, dBM, dTup, dLst, dSl, dPart, dNoPart, dNotV, dAndV, dOrV, dIf, dNeg, diTup, diLst, diSeq, seqI_tup, seqI_lsv, seqI_ref, diRng1, diRng2, addD_int, addD_str, addD_tup, addD_ref, subD_int, mulD_int, fdivD_int, modD_int, powD_int, ltD_int, ltD_str, leD_int, gtD_int, geD_int, isD_non, isNotD_non, truD_non, truD_bl, truD_int, truD_str, truD_tup, truD_lsv, slD_tup, slD_str, slD_ref, slD_lsv, ixD_tup, ixD_lsv, ixD_str, ixD_ref, lenD_tup, lenD_lsv, lenD_str, lenD_ref, absD_int, intD_int, max2D_int, min2D_int, listD_tup, listD_lsv, listD_ref, tupleD_tup, tupleD_ref, isNon, dstart, dYes,
  List.map_cons, List.map_nil, List.length_cons, List.length_nil, List.nil_append, List.cons_append, List.append_nil, List.set_cons_zero, List.set_cons_succ, List.getElem?_cons_zero, List.getElem?_cons_succ, Option.some.injEq, exists_eq_left', exists_eq_left, exists_eq_right, exists_eq, exists_eq', List.cons.injEq, and_true, true_and, D.int.injEq, D.str.injEq, D.bl.injEq, D.tup.injEq, D.ref.injEq, D.ty.injEq, forall_eq', forall_eq, imp_self, forall_const, exists_and_left, exists_const, isL, appendD, popD, updD_same, updD_updD, DO.lst.injEq, eqD_int, neD_int, eqD_bl, neD_bl, cutD_1,
  decide_eq_true_eq, Bool.not_eq_true', decide_eq_false_iff_not, List.reduceReplicate, Nat.reduceAdd, Nat.reduceSub, Nat.reduceMul, Bool.false_eq_true, Bool.true_eq_false, if_false, if_true, reduceIte])
local macro_rules | `(tactic| walk_at "da") => `(tactic| simp only [dSeq, dIfS, dTru, dB, dNot, dAnd, dOr, dVar, dC, dOp, dCall, dCons, dNil, dRet, dRetN, dAsg, dgName, dNext, dDrop, dDNew, dDGet, dDGetF, dDIn, dDNotIn, dDPut, dDDel, dDGet1, dDGet2, dFld, dSetF, dMeth, dMake, indexD2, dCBK, dLstRevT, dCallN, gK, cond_true, cond_false, Option.toList_some, diItems, diKeys, diVals, diZip, diEnum, listKD, eqKD, dPairs, keyed, popAtD, insertD, reverseD, dRaise, dRetX, dAsgX, dDropX, dCallX, dPureX, dXf, List.zip_cons_cons, List.zip_nil_right, List.zip_nil_left, List.reverse_cons, List.reverse_nil, dCB, dBM, dTup, dLst, dSl, dPart, dNoPart, dNotV, dAndV, dOrV, dIf, dNeg, diTup, diLst, diSeq, seqI_tup, seqI_lsv, seqI_ref, diRng1, diRng2, addD_int, addD_str, addD_tup, addD_ref, subD_int, mulD_int, fdivD_int, modD_int, powD_int, ltD_int, ltD_str, leD_int, gtD_int, geD_int, isD_non, isNotD_non, truD_non, truD_bl, truD_int, truD_str, truD_tup, truD_lsv, slD_tup, slD_str, slD_ref, slD_lsv, ixD_tup, ixD_lsv, ixD_str, ixD_ref, lenD_tup, lenD_lsv, lenD_str, lenD_ref, absD_int, intD_int, max2D_int, min2D_int, listD_tup, listD_lsv, listD_ref, tupleD_tup, tupleD_ref, isNon, dstart, dYes,
  List.map_cons, List.map_nil, List.length_cons, List.length_nil, List.nil_append, List.cons_append, List.append_nil, List.set_cons_zero, List.set_cons_succ, List.getElem?_cons_zero, List.getElem?_cons_succ, Option.some.injEq, exists_eq_left', exists_eq_left, exists_eq_right, exists_eq, exists_eq', List.cons.injEq, and_true, true_and, D.int.injEq, D.str.injEq, D.bl.injEq, D.tup.injEq, D.ref.injEq, D.ty.injEq, forall_eq', forall_eq, imp_self, forall_const, exists_and_left, exists_const, isL, appendD, popD, updD_same, updD_updD, DO.lst.injEq, atI_0, atI_1, atI_2, atI_3, atI_4, sz1, sz2, sz3, sz4, sz5, sz6, eqD_int, neD_int, eqD_bl, neD_bl, cutD_1,
  decide_eq_true_eq, Bool.not_eq_true', decide_eq_false_iff_not, List.reduceReplicate, Nat.reduceAdd, Nat.reduceSub, Nat.reduceMul, Bool.false_eq_true, Bool.true_eq_false, if_false, if_true, reduceIte])
local macro_rules | `(tactic| walk_at "dz") => `(tactic| simp only [dIfS, dTru, dB, dNot, dAnd, dOr, dVar, dC, dOp, dCall, dCons, dNil, dRet, dRetN, dAsg, dgName, dNext, dDrop, dDNew, dDGet, dDGetF, dDIn, dDNotIn, dDPut, dDDel, dDGet1, dDGet2, dFld, dSetF, dMeth, dMake, indexD2, dCBK, dLstRevT, dCallN, gK, cond_true, cond_false, Option.toList_some, diItems, diKeys, diVals, diZip, diEnum, listKD, eqKD, dPairs, keyed, popAtD, insertD, reverseD, dRaise, dRetX, dAsgX, dDropX, dCallX, dPureX, dXf, List.zip_cons_cons, List.zip_nil_right, List.zip_nil_left, List.reverse_cons, List.reverse_nil, dCB, dBM, dTup, dLst, dSl, dPart, dNoPart, dNotV, dAndV, dOrV, dIf, dNeg, diTup, diLst, diSeq, seqI_tup, seqI_lsv, seqI_ref, diRng1, diRng2, addD_int, addD_str, addD_tup, addD_ref, subD_int, mulD_int, fdivD_int, modD_int, powD_int, ltD_int, ltD_str, leD_int, gtD_int, geD_int, isD_non, isNotD_non, truD_non, truD_bl, truD_int, truD_str, truD_tup, truD_lsv, slD_tup, slD_str, slD_ref, slD_lsv, ixD_tup, ixD_lsv, ixD_str, ixD_ref, lenD_tup, lenD_lsv, lenD_str, lenD_ref, absD_int, intD_int, max2D_int, min2D_int, listD_tup, listD_lsv, listD_ref, tupleD_tup, tupleD_ref, isNon, dstart, dYes,
  List.map_cons, List.map_nil, List.length_cons, List.length_nil, List.nil_append, List.cons_append, List.append_nil, List.set_cons_zero, List.set_cons_succ, List.getElem?_cons_zero, List.getElem?_cons_succ, Option.some.injEq, exists_eq_left', exists_eq_left, exists_eq_right, exists_eq, exists_eq', List.cons.injEq, and_true, true_and, D.int.injEq, D.str.injEq, D.bl.injEq, D.tup.injEq, D.ref.injEq, D.ty.injEq, forall_eq', forall_eq, imp_self, forall_const, exists_and_left, exists_const, isL, appendD, popD, updD_same, updD_updD, DO.lst.injEq, atI_0, atI_1, atI_2, atI_3, atI_4, sz1, sz2, sz3, sz4, sz5, sz6, eqD_int, neD_int, eqD_bl, neD_bl, cutD_1,
  decide_eq_true_eq, Bool.not_eq_true', decide_eq_false_iff_not, List.reduceReplicate, Nat.reduceAdd, Nat.reduceSub, Nat.reduceMul, Bool.false_eq_true, Bool.true_eq_false, if_false, if_true, reduceIte])
local macro_rules | `(tactic| walk_at "dw") => `(tactic| simp only [dIfS, dTru, dB, dNot, dAnd, dOr, dVar, dC, dOp, dCall, dCons, dNil, dRet, dRetN, dAsg, dgName, dNext, dDrop, dDNew, dDGet, dDGetF, dDIn, dDNotIn, dDPut, dDDel, dDGet1, dDGet2, dFld, dSetF, dMeth, dMake, indexD2, dCBK, dLstRevT, dCallN, gK, cond_true, cond_false, Option.toList_some, diItems, diKeys, diVals, diZip, diEnum, listKD, eqKD, dPairs, keyed, popAtD, insertD, reverseD, dRaise, dRetX, dAsgX, dDropX, dCallX, dPureX, dXf, List.zip_cons_cons, List.zip_nil_right, List.zip_nil_left, List.reverse_cons, List.reverse_nil, dCB, dBM, dTup, dLst, dSl, dPart, dNoPart, dNotV, dAndV, dOrV, dIf, dNeg, diTup, diLst, diSeq, seqI_tup, seqI_lsv, seqI_ref, diRng1, diRng2, addD_int, addD_str, addD_tup, addD_ref, subD_int, mulD_int, fdivD_int, modD_int, powD_int, ltD_int, ltD_str, leD_int, gtD_int, geD_int, isD_non, isNotD_non, truD_non, truD_bl, truD_int, truD_str, truD_tup, truD_lsv, slD_tup, slD_str, slD_ref, slD_lsv, ixD_tup, ixD_lsv, ixD_str, ixD_ref, lenD_tup, lenD_lsv, lenD_str, lenD_ref, absD_int, intD_int, max2D_int, min2D_int, listD_tup, listD_lsv, listD_ref, tupleD_tup, tupleD_ref, isNon, dstart, dYes,
  List.map_cons, List.map_nil, List.length_cons, List.length_nil, List.nil_append, List.cons_append, List.append_nil, List.set_cons_zero, List.set_cons_succ, List.getElem?_cons_zero, List.getElem?_cons_succ, Option.some.injEq, exists_eq_left', exists_eq_left, exists_eq_right, exists_eq, exists_eq', List.cons.injEq, and_true, true_and, D.int.injEq, D.str.injEq, D.bl.injEq, D.tup.injEq, D.ref.injEq, D.ty.injEq, forall_eq', forall_eq, imp_self, forall_const, exists_and_left, exists_const, isL, appendD, popD, updD_same, updD_updD, DO.lst.injEq, atI_0, atI_1, atI_2, atI_3, atI_4, sz1, sz2, sz3, sz4, sz5, sz6, eqD_int, neD_int, eqD_bl, neD_bl, cutD_1,
  decide_eq_true_eq, Bool.not_eq_true', decide_eq_false_iff_not, List.reduceReplicate, Nat.reduceAdd, Nat.reduceSub, Nat.reduceMul, Bool.false_eq_true, Bool.true_eq_false, if_false, if_true, reduceIte, dgSub, setD, ix4s, ix5s, atI_0, atI_1, atI_2, atI_3, atI_4, *])
local macro_rules | `(tactic| walk_at "dv") => `(tactic| simp only [dSeq, dIfS, dTru, dB, dNot, dAnd, dOr, dVar, dC, dOp, dCall, dCons, dNil, dRet, dRetN, dAsg, dgName, dNext, dDrop, dDNew, dDGet, dDGetF, dDIn, dDNotIn, dDPut, dDDel, dDGet1, dDGet2, dFld, dSetF, dMeth, dMake, indexD2, dCBK, dLstRevT, dCallN, gK, cond_true, cond_false, Option.toList_some, diItems, diKeys, diVals, diZip, diEnum, listKD, eqKD, dPairs, keyed, popAtD, insertD, reverseD, dRaise, dRetX, dAsgX, dDropX, dCallX, dPureX, dXf, List.zip_cons_cons, List.zip_nil_right, List.zip_nil_left, List.reverse_cons, List.reverse_nil, dCB, dBM, dTup, dLst, dSl, dPart, dNoPart, dNotV, dAndV, dOrV, dIf, dNeg, diTup, diLst, diSeq, seqI_tup, seqI_lsv, seqI_ref, diRng1, diRng2, addD_int, addD_str, addD_tup, addD_ref, subD_int, mulD_int, fdivD_int, modD_int, powD_int, ltD_int, ltD_str, leD_int, gtD_int, geD_int, isD_non, isNotD_non, truD_non, truD_bl, truD_int, truD_str, truD_tup, truD_lsv, slD_tup, slD_str, slD_ref, slD_lsv, ixD_tup, ixD_lsv, ixD_str, ixD_ref, lenD_tup, lenD_lsv, lenD_str, lenD_ref, absD_int, intD_int, max2D_int, min2D_int, listD_tup, listD_lsv, listD_ref, tupleD_tup, tupleD_ref, isNon, dstart, dYes,
  List.map_cons, List.map_nil, List.length_cons, List.length_nil, List.nil_append, List.cons_append, List.append_nil, List.set_cons_zero, List.set_cons_succ, List.getElem?_cons_zero, List.getElem?_cons_succ, Option.some.injEq, exists_eq_left', exists_eq_left, exists_eq_right, exists_eq, exists_eq', List.cons.injEq, and_true, true_and, D.int.injEq, D.str.injEq, D.bl.injEq, D.tup.injEq, D.ref.injEq, D.ty.injEq, forall_eq', forall_eq, imp_self, forall_const, exists_and_left, exists_const, isL, appendD, popD, updD_same, updD_updD, DO.lst.injEq, atI_0, atI_1, atI_2, atI_3, atI_4, sz1, sz2, sz3, sz4, sz5, sz6, eqD_int, neD_int, eqD_bl, neD_bl, cutD_1,
  decide_eq_true_eq, Bool.not_eq_true', decide_eq_false_iff_not, List.reduceReplicate, Nat.reduceAdd, Nat.reduceSub, Nat.reduceMul, Bool.false_eq_true, Bool.true_eq_false, if_false, if_true, reduceIte, dgSub, setD, ix4s, ix5s, atI_0, atI_1, atI_2, atI_3, atI_4, *])
def N_law_same_808a : List Str := [Str.ofString "_law_value", Str.ofString "_law_due", Str.ofString "_law_k"]
def t_law_same_808a (sp_law_same_808a : SpD) : DTS := dSeq (dIfS (dOr (dTru (dCB isiD (dCons (dVar 1) (dCons (dC (.ty "tuple")) (dNil))))) (dTru (dCB isiD (dCons (dVar 1) (dCons (dC (.ty "list")) (dNil)))))) (dSeq (dIfS (dOr (dB (dOp neD' (dCB isiD (dCons (dVar 1) (dCons (dC (.ty "tuple")) (dNil)))) (dCB isiD (dCons (dVar 0) (dCons (dC (.ty "tuple")) (dNil)))))) (dB (dOp neD' (dCB isiD (dCons (dVar 1) (dCons (dC (.ty "list")) (dNil)))) (dCB isiD (dCons (dVar 0) (dCons (dC (.ty "list")) (dNil))))))) (dRet (dC (.bl false))) (dNext)) (dSeq (dIfS (dB (dOp neD' (dCB lenD (dCons (dVar 0) (dNil))) (dCB lenD (dCons (dVar 1) (dNil))))) (dRet (dC (.bl false))) (dNext)) (dSeq (dFor (diRng1 (dCons (dCB lenD (dCons (dVar 1) (dNil))) (dNil))) (dgName 2) (dIfS (dNot (dTru (dCall sp_law_same_808a [] (dCons (dOp ixD (dVar 0) (dVar 2)) (dCons (dOp ixD (dVar 1) (dVar 2)) (dNil)))))) (dRet (dC (.bl false))) (dNext))) (dRet (dC (.bl true)))))) (dNext)) (dSeq (dIfS (dB (dOp neD' (dCB isiD (dCons (dVar 1) (dCons (dC (.ty "bool")) (dNil)))) (dCB isiD (dCons (dVar 0) (dCons (dC (.ty "bool")) (dNil)))))) (dRet (dC (.bl false))) (dNext)) (dSeq (dIfS (dOr (dB (dOp neD' (dCB isiD (dCons (dVar 1) (dCons (dC (.ty "int")) (dNil)))) (dCB isiD (dCons (dVar 0) (dCons (dC (.ty "int")) (dNil)))))) (dB (dOp neD' (dCB isiD (dCons (dVar 1) (dCons (dC (.ty "str")) (dNil)))) (dCB isiD (dCons (dVar 0) (dCons (dC (.ty "str")) (dNil))))))) (dRet (dC (.bl false))) (dNext)) (dRet (dOp eqD (dVar 0) (dVar 1)))))

/-! _law_same -/
theorem dat_isi {h : DH} {x dx : D} {n : String} {b : Bool} {Q : DK} (e : datD h x = some dx) (k : ∀ (d : D), d = dx → isiD [d, .ty n] h Q = Q (.bl b) h) (l : ∀ ds, dx = .lsv ds → kitB "list" n = some b) : isiD [x, .ty n] h Q = Q (.bl b) h := by
  cases x with
  | ref a =>
    cases q : h a with
    | none => rw [datD, q] at e; cases e
    | some o =>
      cases o with
      | lst ds =>
        rw [datD, q] at e
        cases e
        exact isi_ref q (l ds rfl)
      | _ => rw [datD, q] at e; cases e
  | _ => cases e; exact k _ rfl
theorem dat_tuple {h : DH} {x dx : D} {Q : DK} (e : datD h x = some dx) (ok : okD dx = true) : isiD [x, .ty "tuple"] h Q = Q (.bl (isTup dx)) h := dat_isi e (fun d z => by subst z; exact isi_tuple ok) (fun ds z => by subst z; simp only [isTup]; decide +kernel)
theorem dat_list {h : DH} {x dx : D} {Q : DK} (e : datD h x = some dx) (ok : okD dx = true) : isiD [x, .ty "list"] h Q = Q (.bl (isLsv dx)) h := dat_isi e (fun d z => by subst z; exact isi_list ok) (fun ds z => by subst z; simp only [isLsv]; decide +kernel)
theorem dat_bool {h : DH} {x dx : D} {Q : DK} (e : datD h x = some dx) (ok : okD dx = true) : isiD [x, .ty "bool"] h Q = Q (.bl (isBl dx)) h := dat_isi e (fun d z => by subst z; exact isi_bool ok) (fun ds z => by subst z; simp only [isBl]; decide +kernel)
theorem dat_int {h : DH} {x dx : D} {Q : DK} (e : datD h x = some dx) (ok : okD dx = true) : isiD [x, .ty "int"] h Q = Q (.bl (isInt dx)) h := dat_isi e (fun d z => by subst z; exact isi_int ok) (fun ds z => by subst z; simp only [isInt]; decide +kernel)
theorem dat_str {h : DH} {x dx : D} {Q : DK} (e : datD h x = some dx) (ok : okD dx = true) : isiD [x, .ty "str"] h Q = Q (.bl (isStr dx)) h := dat_isi e (fun d z => by subst z; exact isi_str ok) (fun ds z => by subst z; simp only [isStr]; decide +kernel)
/-- the items of a tuple, a list -/
def itemsD : D → List D
  | .tup ds => ds
  | .lsv ds => ds
  | _ => []
def isSeq (d : D) : Bool := isTup d || isLsv d
theorem dat_len {h : DH} {x dx : D} {Q : DK} (e : datD h x = some dx) (s : isSeq dx = true) : lenD [x] h Q ↔ ((itemsD dx).length ≤ sizeLine → Q (.int (itemsD dx).length) h) := by
  cases x with
  | ref a =>
    cases q : h a with
    | none => rw [datD, q] at e; cases e
    | some o =>
      cases o with
      | lst ds =>
        rw [datD, q] at e
        cases e
        simp [lenD, q, itemsD]
      | _ => rw [datD, q] at e; cases e
  | tup ds => cases e; simp [lenD, itemsD]
  | lsv ds => cases e; simp [lenD, itemsD]
  | _ => cases e; simp [isSeq, isTup, isLsv] at s
theorem dat_ix {h : DH} {x dx : D} {Q : DK} {k : Nat} {d : D} (e : datD h x = some dx) (s : (itemsD dx)[k]? = some d) (q : Q d h) : ixD x (.int k) h Q := by
  have a := atI_nat s
  cases x with
  | ref b =>
    cases z : h b with
    | none => rw [datD, z] at e; cases e
    | some o =>
      cases o with
      | lst ds =>
        rw [datD, z] at e
        cases e
        exact ⟨ds, d, z, a, q⟩
      | _ => rw [datD, z] at e; cases e
  | tup ds => cases e; exact ⟨d, a, q⟩
  | lsv ds => cases e; exact ⟨d, a, q⟩
  | _ => cases e; cases s
theorem ok_items {d : D} (h : okD d = true) : okDs (itemsD d) = true := by
  cases d <;> first | rfl | exact h
theorem dep_items {d e : D} {k n : Nat} (h : dep d < n + 1) (g : (itemsD d)[k]? = some e) : dep e < n := by
  cases d with
  | tup ds => have := deps_get (show ds[k]? = some e from g); simp only [dep] at h; omega
  | lsv ds => have := deps_get (show ds[k]? = some e from g); simp only [dep] at h; omega
  | _ => cases g
theorem seq_eq {x y : D} (hx : isTup x = isTup y) (hl : isLsv x = isLsv y) (s : isSeq y = true) : x = y ↔ itemsD x = itemsD y := by
  cases x <;> cases y <;> simp_all [isTup, isLsv, isSeq, itemsD]
theorem scal_eq {x y : D} (hx : okD x = true) (hy : okD y = true) (s : isSeq y = false) (hb : isBl y = isBl x) (hi : isInt y = isInt x) (hs : isStr y = isStr x) : deq x y = true ↔ x = y := by
  cases x <;> cases y <;> simp_all [isTup, isLsv, isSeq, isBl, isInt, isStr, deq, okD]
def sp_same (n : Nat) : SpD := fun ds h Q _ => ∃ x y dx dy, ds = [x, y] ∧ datD h x = some dx ∧ datD h y = some dy ∧ okD dx = true ∧ okD dy = true ∧ dep dy < n ∧ ∀ b : Bool, (b = true ↔ dx = dy) → Q (.bl b) h
theorem ms_same {n : Nat} : MonoSp (sp_same n) := fun ds h Q Q' E k ⟨x, y, dx, dy, e, a, b, c, d, l, q⟩ => ⟨x, y, dx, dy, e, a, b, c, d, l, fun b z => k _ _ (q b z)⟩
theorem datD_self {h : DH} {d : D} (ok : okD d = true) : datD h d = some d := datD_ok ok
theorem r_same {n : Nat} (ds : List D) (h : DH) (Q : DK) (Ed : DXK) (up : Up Q) (q : sp_same (n + 1) ds h Q Ed) : t_law_same_808a (sp_same n) { nx := fun _ h' => Q .non h', rt := Q } (dstart N_law_same_808a ds) h := by
  obtain ⟨x, y, dx, dy, rfl, ex, ey, ox, oy, hd, q⟩ := q
  unfold t_law_same_808a N_law_same_808a
  refine dSeq_cut (fun τ h' => h = h' ∧ isSeq dy = false ∧ τ = [some x, some y, none]) (fun nx hnx => ?_) ?_
  · refine dIfS_ev (isSeq dy) (fun Q q => ?_) (fun sy => ?_) (fun ns => hnx _ _ ⟨rfl, ns, rfl⟩)
    · walk_at "dl"
      rw [dat_tuple ey oy, dat_list ey oy]
      simp only [truD_bl]
      unfold isSeq at q
      cases a : isTup dy <;> simpa [a] using q
    · refine dSeq_cut (fun τ h' => h = h' ∧ (isTup dx = isTup dy ∧ isLsv dx = isLsv dy) ∧ τ = [some x, some y, none]) (fun nx2 hnx2 => ?_) ?_
      · walk_at "dl"
        simp only [dat_tuple ey oy, dat_list ey oy, dat_tuple ex ox, dat_list ex ox, neD_bl, D.bl.injEq, exists_eq_left', Bool.not_eq_true', decide_eq_false_iff_not]
        by_cases c1 : isTup dy = isTup dx
        · rw [if_neg (by simp [c1])]
          by_cases c2 : isLsv dy = isLsv dx
          · rw [if_neg (by simp [c2])]
            exact hnx2 _ _ ⟨rfl, ⟨c1.symm, c2.symm⟩, rfl⟩
          · rw [if_pos c2]
            exact q false (nb fun z => by subst z; exact c2 rfl)
        · rw [if_pos c1]
          exact q false (nb fun z => by subst z; exact c1 rfl)
      · rintro τ _ ⟨rfl, ⟨st, sl⟩, rfl⟩
        have sx : isSeq dx = true := by unfold isSeq at sy ⊢; rw [st, sl]; exact sy
        refine dSeq_cut (fun τ h' => h = h' ∧ (itemsD dx).length = (itemsD dy).length ∧ τ = [some x, some y, none]) (fun nx2 hnx2 => ?_) ?_
        · walk_at "dl"
          refine (dat_len ex sx).mpr fun _ => (dat_len ey sy).mpr fun _ => ?_
          rw [neD_int]
          simp only [D.bl.injEq, exists_eq_left', Bool.not_eq_true', decide_eq_false_iff_not]
          by_cases c1 : ((itemsD dx).length : Int) = (itemsD dy).length
          · rw [if_neg (by simp [c1])]
            exact hnx2 _ _ ⟨rfl, by omega, rfl⟩
          · rw [if_pos c1]
            exact q false (nb fun z => by subst z; exact c1 rfl)
        · rintro τ _ ⟨rfl, ll, rfl⟩
          refine dSeq_cut (fun τ h' => h = h' ∧ itemsD dx = itemsD dy) (fun nx2 hnx2 => ?_) ?_
          · refine dFor_of (items := rangeD 0 (itemsD dy).length) (st := fun _ => True) (h1 := h) (fun i τ h' => h = h' ∧ i ≤ (itemsD dy).length ∧ (itemsD dx).take i = (itemsD dy).take i ∧ ∃ z, τ = [some x, some y, z])
              (fun R r => ?_) ⟨rfl, by omega, by simp, _, rfl⟩ (fun _ _ _ _ => trivial) ?_ ?_
            · walk_at "dl"
              exact (dat_len ey sy).mpr fun l => ⟨_, rfl, (line62 l).1, (line62 l).2, r⟩
            · rintro i d τ _ ei ⟨rfl, li, ih, z, rfl⟩
              obtain ⟨hi, rfl⟩ := rangeD_get ei
              have hx : i < (itemsD dx).length := by omega
              have ax : (itemsD dx)[i]? = some (itemsD dx)[i] := List.getElem?_eq_getElem hx
              have ay : (itemsD dy)[i]? = some (itemsD dy)[i] := List.getElem?_eq_getElem hi
              have okx := okDs_get (ok_items ox) ax
              have oky := okDs_get (ok_items oy) ay
              walk_at "dl"
              rw [show (0 : Int) + (i : Nat) = (i : Nat) by omega]
              refine dat_ix ex ax (dat_ix ey ay fun E => ⟨_, _, _, _, rfl, datD_ok okx, datD_ok oky, okx, oky, dep_items hd ay, fun b hb => ?_⟩)
              cases b with
              | true =>
                rw [truD_bl, if_neg (by decide)]
                refine ⟨rfl, by omega, ?_⟩
                rw [List.take_succ, List.take_succ, ih, ax, ay, hb.mp rfl]
              | false =>
                rw [truD_bl, if_pos rfl]
                refine q false (nb fun z => ?_)
                subst z
                exact absurd (hb.mpr rfl) (by decide)
            · rintro τ _ ⟨rfl, li, ih, z, rfl⟩
              rw [rangeD_length, List.take_length] at ih
              refine hnx2 _ _ ⟨rfl, ?_⟩
              rw [← ih, ← ll, List.take_length]
          · rintro τ _ ⟨rfl, e⟩
            exact q true ⟨fun _ => (seq_eq st sl sy).mpr e, fun _ => rfl⟩
  · rintro τ _ ⟨rfl, ns, rfl⟩
    walk_at "dl"
    simp only [dat_bool ey oy, dat_int ey oy, dat_str ey oy, dat_bool ex ox, dat_int ex ox, dat_str ex ox, truD_bl, neD_bl, D.bl.injEq, exists_eq_left', Bool.not_eq_true', decide_eq_false_iff_not]
    have no : ∀ {p : Bool} {f : D → Bool}, ¬ f dy = f dx → Q (.bl false) h := fun {p f} c => q false (nb fun z => by subst z; exact c rfl)
    by_cases c1 : isBl dy = isBl dx
    · rw [if_neg (by simp [c1])]
      by_cases c2 : isInt dy = isInt dx
      · rw [if_neg (by simp [c2])]
        by_cases c3 : isStr dy = isStr dx
        · rw [if_neg (by simp [c3])]
          refine ⟨dx, dy, ex, ey, ⟨ox, oy, ?_⟩, q _ (scal_eq ox oy ns c1 c2 c3)⟩
          have : dep dy = 0 := by cases dy <;> simp_all [isSeq, isTup, isLsv, dep]
          omega
        · rw [if_pos c3]
          exact no (p := true) (f := isStr) c3
      · rw [if_pos c2]
        exact no (p := true) (f := isInt) c2
    · rw [if_pos c1]
      exact no (p := true) (f := isBl) c1

end DL

namespace DL
open PySem PySem.Spec PyProof.Rows L2
local macro_rules | `(tactic| walk_at "dl") => `(tactic| simp only [dSeq, dIfS, dTru, dB, dNot, dAnd, dOr, dVar, dC, dOp, dCall, dCons, dNil, dRet, dRetN, dAsg, dgName, dNext, dDrop, dDNew, dDGet, dDGetF, dDIn, dDNotIn, dDPut, dDDel, dDGet1, dDGet2, dFld, dSetF, dMeth, dMake, indexD2, dCBK, dLstRevT, dCallN, gK, cond_true, cond_false, Option.toList_some, diItems, diKeys, diVals, diZip, diEnum, listKD, eqKD, dPairs, keyed, popAtD, insertD, reverseD, dRaise, dRetX, dAsgX, dDropX, dCallX, dPureX, dXf, List.zip_cons_cons, List.zip_nil_right, List.zip_nil_left, List.reverse_cons, List.reverse_nil, dCB, dBM, dTup, dLst, dSl, dPart, dNoPart, dNotV, dAndV, dOrV, dIf, dNeg, diTup, diLst, diSeq, seqI_tup, seqI_lsv, seqI_ref, diRng1, diRng2, addD_int, addD_str, addD_tup, addD_ref, subD_int, mulD_int, fdivD_int, modD_int, powD_int, ltD_int, ltD_str, leD_int, gtD_int, geD_int, isD_non, isNotD_non, truD_non, truD_bl, truD_int, truD_str, truD_tup, truD_lsv, slD_tup, slD_str, slD_ref, slD_lsv, ixD_tup, ixD_lsv, ixD_str, ixD_ref, lenD_tup, lenD_lsv, lenD_str, lenD_ref, absD_int, intD_int, max2D_int, min2D_int, listD_tup, listD_lsv, listD_ref, tupleD_tup, tupleD_ref, isNon, dstart, dYes,
  List.map_cons, List.map_nil, List.length_cons, List.length_nil, List.nil_append, List.cons_append, List.append_nil, List.set_cons_zero, List.set_cons_succ, List.getElem?_cons_zero, List.getElem?_cons_succ, Option.some.injEq, exists_eq_left', exists_eq_left, exists_eq_right, exists_eq, exists_eq', List.cons.injEq, and_true, true_and, D.int.injEq, D.str.injEq, D.bl.injEq, D.tup.injEq, D.ref.injEq, D.ty.injEq, forall_eq', forall_eq, imp_self, forall_const, exists_and_left, exists_const, isL, appendD, popD, updD_same, updD_updD, DO.lst.injEq, eqD_int, neD_int, eqD_bl, neD_bl, cutD_1,
  decide_eq_true_eq, Bool.not_eq_true', decide_eq_false_iff_not, List.reduceReplicate, Nat.reduceAdd, Nat.reduceSub, Nat.reduceMul, Bool.false_eq_true, Bool.true_eq_false, if_false, if_true, reduceIte])
local macro_rules | `(tactic| walk_at "ds") => `(tactic| simp only [dIfS, dTru, dB, dNot, dAnd, dOr, dVar, dC, dOp, dCall, dCons, dNil, dRet, dRetN, dAsg, dgName, dNext, dDrop, dDNew, dDGet, dDGetF, dDIn, dDNotIn, dDPut, dDDel, dDGet1, dDGet2, dFld, dSetF, dMeth, dMake, indexD2, dCBK, dLstRevT, dCallN, gK, cond_true, cond_false, Option.toList_some, diItems, diKeys, diVals, diZip, diEnum, listKD, eqKD, dPairs, keyed, popAtD, insertD, reverseD, dRaise, dRetX, dAsgX, dDropX, dCallX, dPureX, dXf, List.zip_cons_cons, List.zip_nil_right, List.zip_nil_left, List.reverse_cons, List.reverse_nil, dCB, dBM, dTup, dLst, dSl, dPart, dNoPart, dNotV, dAndV, dOrV, dIf, dNeg, diTup, diLst, diSeq, seqI_tup, seqI_lsv, seqI_ref, diRng1, diRng2, addD_int, addD_str, addD_tup, addD_ref, subD_int, mulD_int, fdivD_int, modD_int, powD_int, ltD_int, ltD_str, leD_int, gtD_int, geD_int, isD_non, isNotD_non, truD_non, truD_bl, truD_int, truD_str, truD_tup, truD_lsv, slD_tup, slD_str, slD_ref, slD_lsv, ixD_tup, ixD_lsv, ixD_str, ixD_ref, lenD_tup, lenD_lsv, lenD_str, lenD_ref, absD_int, intD_int, max2D_int, min2D_int, listD_tup, listD_lsv, listD_ref, tupleD_tup, tupleD_ref, isNon, dstart, dYes,
  List.map_cons, List.map_nil, List.length_cons, List.length_nil, List.nil_append, List.cons_append, List.append_nil, List.set_cons_zero, List.set_cons_succ, List.getElem?_cons_zero, List.getElem?_cons_succ, Option.some.injEq, exists_eq_left', exists_eq_left, exists_eq_right, exists_eq, exists_eq', List.cons.injEq, and_true, true_and, D.int.injEq, D.str.injEq, D.bl.injEq, D.tup.injEq, D.ref.injEq, D.ty.injEq, forall_eq', forall_eq, imp_self, forall_const, exists_and_left, exists_const, isL, appendD, popD, updD_same, updD_updD, DO.lst.injEq, eqD_int, neD_int, eqD_bl, neD_bl, cutD_1,
  decide_eq_true_eq, Bool.not_eq_true', decide_eq_false_iff_not, List.reduceReplicate, Nat.reduceAdd, Nat.reduceSub, Nat.reduceMul, Bool.false_eq_true, Bool.true_eq_false, if_false, if_true, reduceIte])
local macro_rules | `(tactic| walk_at "da") => `(tactic| simp only [dSeq, dIfS, dTru, dB, dNot, dAnd, dOr, dVar, dC, dOp, dCall, dCons, dNil, dRet, dRetN, dAsg, dgName, dNext, dDrop, dDNew, dDGet, dDGetF, dDIn, dDNotIn, dDPut, dDDel, dDGet1, dDGet2, dFld, dSetF, dMeth, dMake, indexD2, dCBK, dLstRevT, dCallN, gK, cond_true, cond_false, Option.toList_some, diItems, diKeys, diVals, diZip, diEnum, listKD, eqKD, dPairs, keyed, popAtD, insertD, reverseD, dRaise, dRetX, dAsgX, dDropX, dCallX, dPureX, dXf, List.zip_cons_cons, List.zip_nil_right, List.zip_nil_left, List.reverse_cons, List.reverse_nil, dCB, dBM, dTup, dLst, dSl, dPart, dNoPart, dNotV, dAndV, dOrV, dIf, dNeg, diTup, diLst, diSeq, seqI_tup, seqI_lsv, seqI_ref, diRng1, diRng2, addD_int, addD_str, addD_tup, addD_ref, subD_int, mulD_int, fdivD_int, modD_int, powD_int, ltD_int, ltD_str, leD_int, gtD_int, geD_int, isD_non, isNotD_non, truD_non, truD_bl, truD_int, truD_str, truD_tup, truD_lsv, slD_tup, slD_str, slD_ref, slD_lsv, ixD_tup, ixD_lsv, ixD_str, ixD_ref, lenD_tup, lenD_lsv, lenD_str, lenD_ref, absD_int, intD_int, max2D_int, min2D_int, listD_tup, listD_lsv, listD_ref, tupleD_tup, tupleD_ref, isNon, dstart, dYes,
  List.map_cons, List.map_nil, List.length_cons, List.length_nil, List.nil_append, List.cons_append, List.append_nil, List.set_cons_zero, List.set_cons_succ, List.getElem?_cons_zero, List.getElem?_cons_succ, Option.some.injEq, exists_eq_left', exists_eq_left, exists_eq_right, exists_eq, exists_eq', List.cons.injEq, and_true, true_and, D.int.injEq, D.str.injEq, D.bl.injEq, D.tup.injEq, D.ref.injEq, D.ty.injEq, forall_eq', forall_eq, imp_self, forall_const, exists_and_left, exists_const, isL, appendD, popD, updD_same, updD_updD, DO.lst.injEq, atI_0, atI_1, atI_2, atI_3, atI_4, sz1, sz2, sz3, sz4, sz5, sz6, eqD_int, neD_int, eqD_bl, neD_bl, cutD_1,
  decide_eq_true_eq, Bool.not_eq_true', decide_eq_false_iff_not, List.reduceReplicate, Nat.reduceAdd, Nat.reduceSub, Nat.reduceMul, Bool.false_eq_true, Bool.true_eq_false, if_false, if_true, reduceIte])
local macro_rules | `(tactic| walk_at "dz") => `(tactic| simp only [dIfS, dTru, dB, dNot, dAnd, dOr, dVar, dC, dOp, dCall, dCons, dNil, dRet, dRetN, dAsg, dgName, dNext, dDrop, dDNew, dDGet, dDGetF, dDIn, dDNotIn, dDPut, dDDel, dDGet1, dDGet2, dFld, dSetF, dMeth, dMake, indexD2, dCBK, dLstRevT, dCallN, gK, cond_true, cond_false, Option.toList_some, diItems, diKeys, diVals, diZip, diEnum, listKD, eqKD, dPairs, keyed, popAtD, insertD, reverseD, dRaise, dRetX, dAsgX, dDropX, dCallX, dPureX, dXf, List.zip_cons_cons, List.zip_nil_right, List.zip_nil_left, List.reverse_cons, List.reverse_nil, dCB, dBM, dTup, dLst, dSl, dPart, dNoPart, dNotV, dAndV, dOrV, dIf, dNeg, diTup, diLst, diSeq, seqI_tup, seqI_lsv, seqI_ref, diRng1, diRng2, addD_int, addD_str, addD_tup, addD_ref, subD_int, mulD_int, fdivD_int, modD_int, powD_int, ltD_int, ltD_str, leD_int, gtD_int, geD_int, isD_non, isNotD_non, truD_non, truD_bl, truD_int, truD_str, truD_tup, truD_lsv, slD_tup, slD_str, slD_ref, slD_lsv, ixD_tup, ixD_lsv, ixD_str, ixD_ref, lenD_tup, lenD_lsv, lenD_str, lenD_ref, absD_int, intD_int, max2D_int, min2D_int, listD_tup, listD_lsv, listD_ref, tupleD_tup, tupleD_ref, isNon, dstart, dYes,
  List.map_cons, List.map_nil, List.length_cons, List.length_nil, List.nil_append, List.cons_append, List.append_nil, List.set_cons_zero, List.set_cons_succ, List.getElem?_cons_zero, List.getElem?_cons_succ, Option.some.injEq, exists_eq_left', exists_eq_left, exists_eq_right, exists_eq, exists_eq', List.cons.injEq, and_true, true_and, D.int.injEq, D.str.injEq, D.bl.injEq, D.tup.injEq, D.ref.injEq, D.ty.injEq, forall_eq', forall_eq, imp_self, forall_const, exists_and_left, exists_const, isL, appendD, popD, updD_same, updD_updD, DO.lst.injEq, atI_0, atI_1, atI_2, atI_3, atI_4, sz1, sz2, sz3, sz4, sz5, sz6, eqD_int, neD_int, eqD_bl, neD_bl, cutD_1,
  decide_eq_true_eq, Bool.not_eq_true', decide_eq_false_iff_not, List.reduceReplicate, Nat.reduceAdd, Nat.reduceSub, Nat.reduceMul, Bool.false_eq_true, Bool.true_eq_false, if_false, if_true, reduceIte])
local macro_rules | `(tactic| walk_at "dw") => `(tactic| simp only [dIfS, dTru, dB, dNot, dAnd, dOr, dVar, dC, dOp, dCall, dCons, dNil, dRet, dRetN, dAsg, dgName, dNext, dDrop, dDNew, dDGet, dDGetF, dDIn, dDNotIn, dDPut, dDDel, dDGet1, dDGet2, dFld, dSetF, dMeth, dMake, indexD2, dCBK, dLstRevT, dCallN, gK, cond_true, cond_false, Option.toList_some, diItems, diKeys, diVals, diZip, diEnum, listKD, eqKD, dPairs, keyed, popAtD, insertD, reverseD, dRaise, dRetX, dAsgX, dDropX, dCallX, dPureX, dXf, List.zip_cons_cons, List.zip_nil_right, List.zip_nil_left, List.reverse_cons, List.reverse_nil, dCB, dBM, dTup, dLst, dSl, dPart, dNoPart, dNotV, dAndV, dOrV, dIf, dNeg, diTup, diLst, diSeq, seqI_tup, seqI_lsv, seqI_ref, diRng1, diRng2, addD_int, addD_str, addD_tup, addD_ref, subD_int, mulD_int, fdivD_int, modD_int, powD_int, ltD_int, ltD_str, leD_int, gtD_int, geD_int, isD_non, isNotD_non, truD_non, truD_bl, truD_int, truD_str, truD_tup, truD_lsv, slD_tup, slD_str, slD_ref, slD_lsv, ixD_tup, ixD_lsv, ixD_str, ixD_ref, lenD_tup, lenD_lsv, lenD_str, lenD_ref, absD_int, intD_int, max2D_int, min2D_int, listD_tup, listD_lsv, listD_ref, tupleD_tup, tupleD_ref, isNon, dstart, dYes,
  List.map_cons, List.map_nil, List.length_cons, List.length_nil, List.nil_append, List.cons_append, List.append_nil, List.set_cons_zero, List.set_cons_succ, List.getElem?_cons_zero, List.getElem?_cons_succ, Option.some.injEq, exists_eq_left', exists_eq_left, exists_eq_right, exists_eq, exists_eq', List.cons.injEq, and_true, true_and, D.int.injEq, D.str.injEq, D.bl.injEq, D.tup.injEq, D.ref.injEq, D.ty.injEq, forall_eq', forall_eq, imp_self, forall_const, exists_and_left, exists_const, isL, appendD, popD, updD_same, updD_updD, DO.lst.injEq, atI_0, atI_1, atI_2, atI_3, atI_4, sz1, sz2, sz3, sz4, sz5, sz6, eqD_int, neD_int, eqD_bl, neD_bl, cutD_1,
  decide_eq_true_eq, Bool.not_eq_true', decide_eq_false_iff_not, List.reduceReplicate, Nat.reduceAdd, Nat.reduceSub, Nat.reduceMul, Bool.false_eq_true, Bool.true_eq_false, if_false, if_true, reduceIte, dgSub, setD, ix4s, ix5s, atI_0, atI_1, atI_2, atI_3, atI_4, *])
local macro_rules | `(tactic| walk_at "dv") => `(tactic| simp only [dSeq, dIfS, dTru, dB, dNot, dAnd, dOr, dVar, dC, dOp, dCall, dCons, dNil, dRet, dRetN, dAsg, dgName, dNext, dDrop, dDNew, dDGet, dDGetF, dDIn, dDNotIn, dDPut, dDDel, dDGet1, dDGet2, dFld, dSetF, dMeth, dMake, indexD2, dCBK, dLstRevT, dCallN, gK, cond_true, cond_false, Option.toList_some, diItems, diKeys, diVals, diZip, diEnum, listKD, eqKD, dPairs, keyed, popAtD, insertD, reverseD, dRaise, dRetX, dAsgX, dDropX, dCallX, dPureX, dXf, List.zip_cons_cons, List.zip_nil_right, List.zip_nil_left, List.reverse_cons, List.reverse_nil, dCB, dBM, dTup, dLst, dSl, dPart, dNoPart, dNotV, dAndV, dOrV, dIf, dNeg, diTup, diLst, diSeq, seqI_tup, seqI_lsv, seqI_ref, diRng1, diRng2, addD_int, addD_str, addD_tup, addD_ref, subD_int, mulD_int, fdivD_int, modD_int, powD_int, ltD_int, ltD_str, leD_int, gtD_int, geD_int, isD_non, isNotD_non, truD_non, truD_bl, truD_int, truD_str, truD_tup, truD_lsv, slD_tup, slD_str, slD_ref, slD_lsv, ixD_tup, ixD_lsv, ixD_str, ixD_ref, lenD_tup, lenD_lsv, lenD_str, lenD_ref, absD_int, intD_int, max2D_int, min2D_int, listD_tup, listD_lsv, listD_ref, tupleD_tup, tupleD_ref, isNon, dstart, dYes,
  List.map_cons, List.map_nil, List.length_cons, List.length_nil, List.nil_append, List.cons_append, List.append_nil, List.set_cons_zero, List.set_cons_succ, List.getElem?_cons_zero, List.getElem?_cons_succ, Option.some.injEq, exists_eq_left', exists_eq_left, exists_eq_right, exists_eq, exists_eq', List.cons.injEq, and_true, true_and, D.int.injEq, D.str.injEq, D.bl.injEq, D.tup.injEq, D.ref.injEq, D.ty.injEq, forall_eq', forall_eq, imp_self, forall_const, exists_and_left, exists_const, isL, appendD, popD, updD_same, updD_updD, DO.lst.injEq, atI_0, atI_1, atI_2, atI_3, atI_4, sz1, sz2, sz3, sz4, sz5, sz6, eqD_int, neD_int, eqD_bl, neD_bl, cutD_1,
  decide_eq_true_eq, Bool.not_eq_true', decide_eq_false_iff_not, List.reduceReplicate, Nat.reduceAdd, Nat.reduceSub, Nat.reduceMul, Bool.false_eq_true, Bool.true_eq_false, if_false, if_true, reduceIte, dgSub, setD, ix4s, ix5s, atI_0, atI_1, atI_2, atI_3, atI_4, *])

/-- the program's TRUE -/
def c_TRUE : D := .tup [.str (Str.ofString "true")]
/-! data without bools: == is equality -/
mutual
def nbD : D → Bool
  | .int _ => true
  | .str x => PyData.strOk x
  | .tup ds => nbDs ds
  | _ => false
def nbDs : List D → Bool
  | [] => true
  | d :: ds => nbD d && nbDs ds
end
mutual
theorem nb_ok : ∀ {d : D}, nbD d = true → okD d = true
  | .int _, _ => rfl
  | .str x, h => by simpa [nbD, okD] using h
  | .tup ds, h => by simp only [okD]; exact nbs_ok (by simpa [nbD] using h)
  | .non, h => by simp [nbD] at h
  | .bl _, h => by simp [nbD] at h
  | .lsv _, h => by simp [nbD] at h
  | .ref _, h => by simp [nbD] at h
  | .ty _, h => by simp [nbD] at h
theorem nbs_ok : ∀ {ds : List D}, nbDs ds = true → okDs ds = true
  | [], _ => rfl
  | d :: ds, h => by
    simp only [nbDs, Bool.and_eq_true] at h
    simp only [okDs, Bool.and_eq_true]
    exact ⟨nb_ok h.1, nbs_ok h.2⟩
end
mutual
theorem deq_nb : ∀ {x y : D}, nbD x = true → nbD y = true → (deq x y = true ↔ x = y)
  | .int i, y, _, hy => by cases y <;> simp_all [deq, nbD]
  | .str i, y, _, hy => by cases y <;> simp_all [deq, nbD]
  | .tup ds, y, hx, hy => by
    cases y with
    | tup es =>
      simp only [deq, D.tup.injEq]
      exact deqs_nb (by simpa [nbD] using hx) (by simpa [nbD] using hy)
    | _ => simp_all [deq, nbD]
  | .non, y, h, _ => by simp [nbD] at h
  | .bl _, y, h, _ => by simp [nbD] at h
  | .lsv _, y, h, _ => by simp [nbD] at h
  | .ref _, y, h, _ => by simp [nbD] at h
  | .ty _, y, h, _ => by simp [nbD] at h
theorem deqs_nb : ∀ {xs ys : List D}, nbDs xs = true → nbDs ys = true → (deqs xs ys = true ↔ xs = ys)
  | [], ys, _, _ => by cases ys <;> simp [deqs]
  | x :: xs, ys, hx, hy => by
    cases ys with
    | nil => simp [deqs]
    | cons y ys =>
      simp only [nbDs, Bool.and_eq_true] at hx hy
      simp only [deqs, Bool.and_eq_true, List.cons.injEq]
      rw [deq_nb hx.1 hy.1, deqs_nb hx.2 hy.2]
end
theorem nbs_get {ds : List D} {i : Nat} {d : D} (h : nbDs ds = true) (e : ds[i]? = some d) : nbD d = true := by
  induction ds generalizing i with
  | nil => simp at e
  | cons x xs ih =>
    simp only [nbDs, Bool.and_eq_true] at h
    cases i with
    | zero => simp at e; subst e; exact h.1
    | succ i => exact ih h.2 (by simpa using e)
theorem nbs_mem {ds : List D} {d : D} (h : nbDs ds = true) (e : d ∈ ds) : nbD d = true := by
  obtain ⟨i, hi⟩ := List.getElem?_of_mem e
  exact nbs_get h hi
theorem nbs_all {ds : List D} (h : ∀ x ∈ ds, nbD x = true) : nbDs ds = true := by
  induction ds with
  | nil => rfl
  | cons x xs ih =>
    simp only [nbDs, Bool.and_eq_true]
    exact ⟨h x List.mem_cons_self, ih fun y hy => h y (List.mem_cons_of_mem _ hy)⟩
theorem nb_arg {ds : List D} {i : Nat} {d : D} (ok : nbD (.tup ds) = true) (e : (ds.drop 1)[i]? = some d) : nbD d = true := by
  have e2 : ds[i + 1]? = some d := by simpa [Nat.add_comm] using e
  exact nbs_get (by simpa [nbD] using ok) e2
theorem nb_eq {x y : D} {h : DH} {Q : DK} (hx : nbD x = true) (hy : nbD y = true) (l : min (dep x) (dep y) ≤ 64) : eqD x y h Q = Q (.bl (deq x y)) h := eqD_ok ⟨nb_ok hx, nb_ok hy, l⟩
theorem nb_ne {x y : D} {h : DH} {Q : DK} (hx : nbD x = true) (hy : nbD y = true) (l : min (dep x) (dep y) ≤ 64) : neD' x y h Q = Q (.bl (!deq x y)) h := neD_ok ⟨nb_ok hx, nb_ok hy, l⟩
/-- x is among ds -/
def hasD (ds : List D) (x : D) : Bool := ds.any fun z => deq z x
theorem hasD_iff {ds : List D} {x : D} (h : nbDs ds = true) (hx : nbD x = true) : hasD ds x = true ↔ x ∈ ds := by
  unfold hasD
  rw [List.any_eq_true]
  constructor
  · rintro ⟨z, m, e⟩
    rw [deq_nb (nbs_mem h m) hx] at e
    subst e; exact m
  · intro m
    exact ⟨x, m, (deq_nb hx hx).mpr rfl⟩
theorem hasD_false {ds : List D} {x : D} (h : nbDs ds = true) (hx : nbD x = true) : hasD ds x = false ↔ x ∉ ds := by
  rw [← hasD_iff h hx]; simp
theorem nin_ref {x : D} {a : Addr} {ds : List D} {h : DH} {Q : DK} (e : h a = some (.lst ds)) (ho : okDs ds = true) (hx : okD x = true) (hd : dep x ≤ 64) (q : Q (.bl (!hasD ds x)) h) : notInD x (.ref a) h Q :=
  ⟨ds, .inr (datD_ref e), hx, ho, hd, q⟩
theorem in_ref {x : D} {a : Addr} {ds : List D} {h : DH} {Q : DK} (e : h a = some (.lst ds)) (ho : okDs ds = true) (hx : okD x = true) (hd : dep x ≤ 64) (q : Q (.bl (hasD ds x)) h) : inD x (.ref a) h Q :=
  ⟨ds, .inr (datD_ref e), hx, ho, hd, q⟩
theorem TmW.nb {vr : D → Prop} {ws : List Str} {n : Nat} {d : D} (hv : ∀ d, vr d → nbD d = true) (hw : ∀ w ∈ ws, PyData.strOk w = true) (h : TmW vr ws n d) : nbD d = true := by
  induction h with
  | var v => exact hv _ v
  | app k6 e l _ ih =>
    simp only [nbD, nbDs, Bool.and_eq_true]
    exact ⟨hw _ (List.mem_of_getElem? e), nbs_all ih⟩
theorem Vi.nb {d : D} (h : Vi d) : nbD d = true := by obtain ⟨i, rfl, _⟩ := h; rfl
/-- the number of symbols -/
theorem TmW.sz {vr : D → Prop} {ws : List Str} {n : Nat} {d : D} (hv : ∀ d, vr d → isTup d = false) (h : TmW vr ws n d) : szD d ≤ 4 ^ n := by
  induction h with
  | @var n d v =>
    have a := hv _ v
    have := Nat.one_le_pow n 4 (by decide)
    cases d <;> simp_all [isTup, szD]
  | @app n k f args k6 e l _ ih =>
    have al : args.length ≤ 3 := by rw [l]; unfold arW; omega
    have : ∀ xs : List D, (∀ x ∈ xs, szD x ≤ 4 ^ n) → szs xs ≤ xs.length * 4 ^ n := by
      intro xs
      induction xs with
      | nil => simp [szs]
      | cons x xs ih2 =>
        intro hx
        have a := hx x List.mem_cons_self
        have b := ih2 fun y hy => hx y (List.mem_cons_of_mem _ hy)
        simp only [szs, List.length_cons, Nat.add_mul, Nat.one_mul]; omega
    have a := this args ih
    have b : args.length * 4 ^ n ≤ 3 * 4 ^ n := Nat.mul_le_mul_right _ al
    have c := Nat.one_le_pow n 4 (by decide)
    simp only [szD, szT, Nat.pow_succ]; omega
theorem Vi.nt {d : D} (h : Vi d) : isTup d = false := by obtain ⟨i, rfl, _⟩ := h; rfl

end DL

namespace DL
open PySem PySem.Spec PyProof.Rows L2
local macro_rules | `(tactic| walk_at "dl") => `(tactic| simp only [dSeq, dIfS, dTru, dB, dNot, dAnd, dOr, dVar, dC, dOp, dCall, dCons, dNil, dRet, dRetN, dAsg, dgName, dNext, dDrop, dDNew, dDGet, dDGetF, dDIn, dDNotIn, dDPut, dDDel, dDGet1, dDGet2, dFld, dSetF, dMeth, dMake, indexD2, dCBK, dLstRevT, dCallN, gK, cond_true, cond_false, Option.toList_some, diItems, diKeys, diVals, diZip, diEnum, listKD, eqKD, dPairs, keyed, popAtD, insertD, reverseD, dRaise, dRetX, dAsgX, dDropX, dCallX, dPureX, dXf, List.zip_cons_cons, List.zip_nil_right, List.zip_nil_left, List.reverse_cons, List.reverse_nil, dCB, dBM, dTup, dLst, dSl, dPart, dNoPart, dNotV, dAndV, dOrV, dIf, dNeg, diTup, diLst, diSeq, seqI_tup, seqI_lsv, seqI_ref, diRng1, diRng2, addD_int, addD_str, addD_tup, addD_ref, subD_int, mulD_int, fdivD_int, modD_int, powD_int, ltD_int, ltD_str, leD_int, gtD_int, geD_int, isD_non, isNotD_non, truD_non, truD_bl, truD_int, truD_str, truD_tup, truD_lsv, slD_tup, slD_str, slD_ref, slD_lsv, ixD_tup, ixD_lsv, ixD_str, ixD_ref, lenD_tup, lenD_lsv, lenD_str, lenD_ref, absD_int, intD_int, max2D_int, min2D_int, listD_tup, listD_lsv, listD_ref, tupleD_tup, tupleD_ref, isNon, dstart, dYes,
  List.map_cons, List.map_nil, List.length_cons, List.length_nil, List.nil_append, List.cons_append, List.append_nil, List.set_cons_zero, List.set_cons_succ, List.getElem?_cons_zero, List.getElem?_cons_succ, Option.some.injEq, exists_eq_left', exists_eq_left, exists_eq_right, exists_eq, exists_eq', List.cons.injEq, and_true, true_and, D.int.injEq, D.str.injEq, D.bl.injEq, D.tup.injEq, D.ref.injEq, D.ty.injEq, forall_eq', forall_eq, imp_self, forall_const, exists_and_left, exists_const, isL, appendD, popD, updD_same, updD_updD, DO.lst.injEq, eqD_int, neD_int, eqD_bl, neD_bl, cutD_1,
  decide_eq_true_eq, Bool.not_eq_true', decide_eq_false_iff_not, List.reduceReplicate, Nat.reduceAdd, Nat.reduceSub, Nat.reduceMul, Bool.false_eq_true, Bool.true_eq_false, if_false, if_true, reduceIte])
local macro_rules | `(tactic| walk_at "ds") => `(tactic| simp only [dIfS, dTru, dB, dNot, dAnd, dOr, dVar, dC, dOp, dCall, dCons, dNil, dRet, dRetN, dAsg, dgName, dNext, dDrop, dDNew, dDGet, dDGetF, dDIn, dDNotIn, dDPut, dDDel, dDGet1, dDGet2, dFld, dSetF, dMeth, dMake, indexD2, dCBK, dLstRevT, dCallN, gK, cond_true, cond_false, Option.toList_some, diItems, diKeys, diVals, diZip, diEnum, listKD, eqKD, dPairs, keyed, popAtD, insertD, reverseD, dRaise, dRetX, dAsgX, dDropX, dCallX, dPureX, dXf, List.zip_cons_cons, List.zip_nil_right, List.zip_nil_left, List.reverse_cons, List.reverse_nil, dCB, dBM, dTup, dLst, dSl, dPart, dNoPart, dNotV, dAndV, dOrV, dIf, dNeg, diTup, diLst, diSeq, seqI_tup, seqI_lsv, seqI_ref, diRng1, diRng2, addD_int, addD_str, addD_tup, addD_ref, subD_int, mulD_int, fdivD_int, modD_int, powD_int, ltD_int, ltD_str, leD_int, gtD_int, geD_int, isD_non, isNotD_non, truD_non, truD_bl, truD_int, truD_str, truD_tup, truD_lsv, slD_tup, slD_str, slD_ref, slD_lsv, ixD_tup, ixD_lsv, ixD_str, ixD_ref, lenD_tup, lenD_lsv, lenD_str, lenD_ref, absD_int, intD_int, max2D_int, min2D_int, listD_tup, listD_lsv, listD_ref, tupleD_tup, tupleD_ref, isNon, dstart, dYes,
  List.map_cons, List.map_nil, List.length_cons, List.length_nil, List.nil_append, List.cons_append, List.append_nil, List.set_cons_zero, List.set_cons_succ, List.getElem?_cons_zero, List.getElem?_cons_succ, Option.some.injEq, exists_eq_left', exists_eq_left, exists_eq_right, exists_eq, exists_eq', List.cons.injEq, and_true, true_and, D.int.injEq, D.str.injEq, D.bl.injEq, D.tup.injEq, D.ref.injEq, D.ty.injEq, forall_eq', forall_eq, imp_self, forall_const, exists_and_left, exists_const, isL, appendD, popD, updD_same, updD_updD, DO.lst.injEq, eqD_int, neD_int, eqD_bl, neD_bl, cutD_1,
  decide_eq_true_eq, Bool.not_eq_true', decide_eq_false_iff_not, List.reduceReplicate, Nat.reduceAdd, Nat.reduceSub, Nat.reduceMul, Bool.false_eq_true, Bool.true_eq_false, if_false, if_true, reduceIte])
local macro_rules | `(tactic| walk_at "da") => `(tactic| simp only [dSeq, dIfS, dTru, dB, dNot, dAnd, dOr, dVar, dC, dOp, dCall, dCons, dNil, dRet, dRetN, dAsg, dgName, dNext, dDrop, dDNew, dDGet, dDGetF, dDIn, dDNotIn, dDPut, dDDel, dDGet1, dDGet2, dFld, dSetF, dMeth, dMake, indexD2, dCBK, dLstRevT, dCallN, gK, cond_true, cond_false, Option.toList_some, diItems, diKeys, diVals, diZip, diEnum, listKD, eqKD, dPairs, keyed, popAtD, insertD, reverseD, dRaise, dRetX, dAsgX, dDropX, dCallX, dPureX, dXf, List.zip_cons_cons, List.zip_nil_right, List.zip_nil_left, List.reverse_cons, List.reverse_nil, dCB, dBM, dTup, dLst, dSl, dPart, dNoPart, dNotV, dAndV, dOrV, dIf, dNeg, diTup, diLst, diSeq, seqI_tup, seqI_lsv, seqI_ref, diRng1, diRng2, addD_int, addD_str, addD_tup, addD_ref, subD_int, mulD_int, fdivD_int, modD_int, powD_int, ltD_int, ltD_str, leD_int, gtD_int, geD_int, isD_non, isNotD_non, truD_non, truD_bl, truD_int, truD_str, truD_tup, truD_lsv, slD_tup, slD_str, slD_ref, slD_lsv, ixD_tup, ixD_lsv, ixD_str, ixD_ref, lenD_tup, lenD_lsv, lenD_str, lenD_ref, absD_int, intD_int, max2D_int, min2D_int, listD_tup, listD_lsv, listD_ref, tupleD_tup, tupleD_ref, isNon, dstart, dYes,
  List.map_cons, List.map_nil, List.length_cons, List.length_nil, List.nil_append, List.cons_append, List.append_nil, List.set_cons_zero, List.set_cons_succ, List.getElem?_cons_zero, List.getElem?_cons_succ, Option.some.injEq, exists_eq_left', exists_eq_left, exists_eq_right, exists_eq, exists_eq', List.cons.injEq, and_true, true_and, D.int.injEq, D.str.injEq, D.bl.injEq, D.tup.injEq, D.ref.injEq, D.ty.injEq, forall_eq', forall_eq, imp_self, forall_const, exists_and_left, exists_const, isL, appendD, popD, updD_same, updD_updD, DO.lst.injEq, atI_0, atI_1, atI_2, atI_3, atI_4, sz1, sz2, sz3, sz4, sz5, sz6, eqD_int, neD_int, eqD_bl, neD_bl, cutD_1,
  decide_eq_true_eq, Bool.not_eq_true', decide_eq_false_iff_not, List.reduceReplicate, Nat.reduceAdd, Nat.reduceSub, Nat.reduceMul, Bool.false_eq_true, Bool.true_eq_false, if_false, if_true, reduceIte])
local macro_rules | `(tactic| walk_at "dz") => `(tactic| simp only [dIfS, dTru, dB, dNot, dAnd, dOr, dVar, dC, dOp, dCall, dCons, dNil, dRet, dRetN, dAsg, dgName, dNext, dDrop, dDNew, dDGet, dDGetF, dDIn, dDNotIn, dDPut, dDDel, dDGet1, dDGet2, dFld, dSetF, dMeth, dMake, indexD2, dCBK, dLstRevT, dCallN, gK, cond_true, cond_false, Option.toList_some, diItems, diKeys, diVals, diZip, diEnum, listKD, eqKD, dPairs, keyed, popAtD, insertD, reverseD, dRaise, dRetX, dAsgX, dDropX, dCallX, dPureX, dXf, List.zip_cons_cons, List.zip_nil_right, List.zip_nil_left, List.reverse_cons, List.reverse_nil, dCB, dBM, dTup, dLst, dSl, dPart, dNoPart, dNotV, dAndV, dOrV, dIf, dNeg, diTup, diLst, diSeq, seqI_tup, seqI_lsv, seqI_ref, diRng1, diRng2, addD_int, addD_str, addD_tup, addD_ref, subD_int, mulD_int, fdivD_int, modD_int, powD_int, ltD_int, ltD_str, leD_int, gtD_int, geD_int, isD_non, isNotD_non, truD_non, truD_bl, truD_int, truD_str, truD_tup, truD_lsv, slD_tup, slD_str, slD_ref, slD_lsv, ixD_tup, ixD_lsv, ixD_str, ixD_ref, lenD_tup, lenD_lsv, lenD_str, lenD_ref, absD_int, intD_int, max2D_int, min2D_int, listD_tup, listD_lsv, listD_ref, tupleD_tup, tupleD_ref, isNon, dstart, dYes,
  List.map_cons, List.map_nil, List.length_cons, List.length_nil, List.nil_append, List.cons_append, List.append_nil, List.set_cons_zero, List.set_cons_succ, List.getElem?_cons_zero, List.getElem?_cons_succ, Option.some.injEq, exists_eq_left', exists_eq_left, exists_eq_right, exists_eq, exists_eq', List.cons.injEq, and_true, true_and, D.int.injEq, D.str.injEq, D.bl.injEq, D.tup.injEq, D.ref.injEq, D.ty.injEq, forall_eq', forall_eq, imp_self, forall_const, exists_and_left, exists_const, isL, appendD, popD, updD_same, updD_updD, DO.lst.injEq, atI_0, atI_1, atI_2, atI_3, atI_4, sz1, sz2, sz3, sz4, sz5, sz6, eqD_int, neD_int, eqD_bl, neD_bl, cutD_1,
  decide_eq_true_eq, Bool.not_eq_true', decide_eq_false_iff_not, List.reduceReplicate, Nat.reduceAdd, Nat.reduceSub, Nat.reduceMul, Bool.false_eq_true, Bool.true_eq_false, if_false, if_true, reduceIte])
local macro_rules | `(tactic| walk_at "dw") => `(tactic| simp only [dIfS, dTru, dB, dNot, dAnd, dOr, dVar, dC, dOp, dCall, dCons, dNil, dRet, dRetN, dAsg, dgName, dNext, dDrop, dDNew, dDGet, dDGetF, dDIn, dDNotIn, dDPut, dDDel, dDGet1, dDGet2, dFld, dSetF, dMeth, dMake, indexD2, dCBK, dLstRevT, dCallN, gK, cond_true, cond_false, Option.toList_some, diItems, diKeys, diVals, diZip, diEnum, listKD, eqKD, dPairs, keyed, popAtD, insertD, reverseD, dRaise, dRetX, dAsgX, dDropX, dCallX, dPureX, dXf, List.zip_cons_cons, List.zip_nil_right, List.zip_nil_left, List.reverse_cons, List.reverse_nil, dCB, dBM, dTup, dLst, dSl, dPart, dNoPart, dNotV, dAndV, dOrV, dIf, dNeg, diTup, diLst, diSeq, seqI_tup, seqI_lsv, seqI_ref, diRng1, diRng2, addD_int, addD_str, addD_tup, addD_ref, subD_int, mulD_int, fdivD_int, modD_int, powD_int, ltD_int, ltD_str, leD_int, gtD_int, geD_int, isD_non, isNotD_non, truD_non, truD_bl, truD_int, truD_str, truD_tup, truD_lsv, slD_tup, slD_str, slD_ref, slD_lsv, ixD_tup, ixD_lsv, ixD_str, ixD_ref, lenD_tup, lenD_lsv, lenD_str, lenD_ref, absD_int, intD_int, max2D_int, min2D_int, listD_tup, listD_lsv, listD_ref, tupleD_tup, tupleD_ref, isNon, dstart, dYes,
  List.map_cons, List.map_nil, List.length_cons, List.length_nil, List.nil_append, List.cons_append, List.append_nil, List.set_cons_zero, List.set_cons_succ, List.getElem?_cons_zero, List.getElem?_cons_succ, Option.some.injEq, exists_eq_left', exists_eq_left, exists_eq_right, exists_eq, exists_eq', List.cons.injEq, and_true, true_and, D.int.injEq, D.str.injEq, D.bl.injEq, D.tup.injEq, D.ref.injEq, D.ty.injEq, forall_eq', forall_eq, imp_self, forall_const, exists_and_left, exists_const, isL, appendD, popD, updD_same, updD_updD, DO.lst.injEq, atI_0, atI_1, atI_2, atI_3, atI_4, sz1, sz2, sz3, sz4, sz5, sz6, eqD_int, neD_int, eqD_bl, neD_bl, cutD_1,
  decide_eq_true_eq, Bool.not_eq_true', decide_eq_false_iff_not, List.reduceReplicate, Nat.reduceAdd, Nat.reduceSub, Nat.reduceMul, Bool.false_eq_true, Bool.true_eq_false, if_false, if_true, reduceIte, dgSub, setD, ix4s, ix5s, atI_0, atI_1, atI_2, atI_3, atI_4, *])
local macro_rules | `(tactic| walk_at "dv") => `(tactic| simp only [dSeq, dIfS, dTru, dB, dNot, dAnd, dOr, dVar, dC, dOp, dCall, dCons, dNil, dRet, dRetN, dAsg, dgName, dNext, dDrop, dDNew, dDGet, dDGetF, dDIn, dDNotIn, dDPut, dDDel, dDGet1, dDGet2, dFld, dSetF, dMeth, dMake, indexD2, dCBK, dLstRevT, dCallN, gK, cond_true, cond_false, Option.toList_some, diItems, diKeys, diVals, diZip, diEnum, listKD, eqKD, dPairs, keyed, popAtD, insertD, reverseD, dRaise, dRetX, dAsgX, dDropX, dCallX, dPureX, dXf, List.zip_cons_cons, List.zip_nil_right, List.zip_nil_left, List.reverse_cons, List.reverse_nil, dCB, dBM, dTup, dLst, dSl, dPart, dNoPart, dNotV, dAndV, dOrV, dIf, dNeg, diTup, diLst, diSeq, seqI_tup, seqI_lsv, seqI_ref, diRng1, diRng2, addD_int, addD_str, addD_tup, addD_ref, subD_int, mulD_int, fdivD_int, modD_int, powD_int, ltD_int, ltD_str, leD_int, gtD_int, geD_int, isD_non, isNotD_non, truD_non, truD_bl, truD_int, truD_str, truD_tup, truD_lsv, slD_tup, slD_str, slD_ref, slD_lsv, ixD_tup, ixD_lsv, ixD_str, ixD_ref, lenD_tup, lenD_lsv, lenD_str, lenD_ref, absD_int, intD_int, max2D_int, min2D_int, listD_tup, listD_lsv, listD_ref, tupleD_tup, tupleD_ref, isNon, dstart, dYes,
  List.map_cons, List.map_nil, List.length_cons, List.length_nil, List.nil_append, List.cons_append, List.append_nil, List.set_cons_zero, List.set_cons_succ, List.getElem?_cons_zero, List.getElem?_cons_succ, Option.some.injEq, exists_eq_left', exists_eq_left, exists_eq_right, exists_eq, exists_eq', List.cons.injEq, and_true, true_and, D.int.injEq, D.str.injEq, D.bl.injEq, D.tup.injEq, D.ref.injEq, D.ty.injEq, forall_eq', forall_eq, imp_self, forall_const, exists_and_left, exists_const, isL, appendD, popD, updD_same, updD_updD, DO.lst.injEq, atI_0, atI_1, atI_2, atI_3, atI_4, sz1, sz2, sz3, sz4, sz5, sz6, eqD_int, neD_int, eqD_bl, neD_bl, cutD_1,
  decide_eq_true_eq, Bool.not_eq_true', decide_eq_false_iff_not, List.reduceReplicate, Nat.reduceAdd, Nat.reduceSub, Nat.reduceMul, Bool.false_eq_true, Bool.true_eq_false, if_false, if_true, reduceIte, dgSub, setD, ix4s, ix5s, atI_0, atI_1, atI_2, atI_3, atI_4, *])
def N_variables : List Str := [Str.ofString "term", Str.ofString "found", Str.ofString "argument", Str.ofString "variable"]
def t_variables (sp_is_variable sp_variables : SpD) : DTS := dSeq (dIfS (dTru (dCall sp_is_variable [] (dCons (dVar 0) (dNil)))) (dRet (dLst (dCons (dVar 0) (dNil)))) (dNext)) (dSeq (dAsg (dLst (dNil)) (dgName 1)) (dSeq (dFor (diTup (dSl (dVar 0) (dPart (dC (.int 1))) (dNoPart))) (dgName 2) (dFor (diLst (dCall sp_variables [] (dCons (dVar 2) (dNil)))) (dgName 3) (dIfS (dB (dOp notInD (dVar 3) (dVar 1))) (dDrop (dBM isL appendD (dVar 1) (dCons (dVar 3) dNil))) (dNext)))) (dRet (dVar 1))))
def N_occurs : List Str := [Str.ofString "variable", Str.ofString "term", Str.ofString "argument"]
def t_occurs (sp_is_variable sp_occurs : SpD) : DTS := dSeq (dIfS (dTru (dCall sp_is_variable [] (dCons (dVar 1) (dNil)))) (dRet (dOp eqD (dVar 1) (dVar 0))) (dNext)) (dSeq (dFor (diTup (dSl (dVar 1) (dPart (dC (.int 1))) (dNoPart))) (dgName 2) (dIfS (dTru (dCall sp_occurs [] (dCons (dVar 0) (dCons (dVar 2) (dNil))))) (dRet (dC (.bl true))) (dNext))) (dRet (dC (.bl false))))
def N_law_met_9244 : List Str := [Str.ofString "_law_term_here", Str.ofString "_law_found", Str.ofString "_law_argument", Str.ofString "_law_variable_here"]
def t_law_met_9244 (sp_law_met_9244 : SpD) : DTS := dSeq (dIfS (dNot (dTru (dCB isiD (dCons (dVar 0) (dCons (dC (.ty "tuple")) (dNil)))))) (dRet (dLst (dCons (dVar 0) (dNil)))) (dNext)) (dSeq (dAsg (dLst (dNil)) (dgName 1)) (dSeq (dFor (diTup (dSl (dVar 0) (dPart (dC (.int 1))) (dNoPart))) (dgName 2) (dFor (diLst (dCall sp_law_met_9244 [] (dCons (dVar 2) (dNil)))) (dgName 3) (dIfS (dB (dOp notInD (dVar 3) (dVar 1))) (dDrop (dBM isL appendD (dVar 1) (dCons (dVar 3) dNil))) (dNext)))) (dRet (dVar 1))))

/-! variables of a term -/
def insD (acc : List D) : List D → List D
  | [] => acc
  | x :: xs => insD (if hasD acc x then acc else acc ++ [x]) xs
mutual
def varD : D → List D
  | .tup ds => varT ds
  | d => [d]
def varT : List D → List D
  | [] => []
  | _ :: ds => vars [] ds
def vars (acc : List D) : List D → List D
  | [] => acc
  | d :: ds => vars (insD acc (varD d)) ds
end
mutual
/-- v is a variable of the term -/
def occD (v : D) : D → Bool
  | .tup ds => occT v ds
  | d => deq d v
def occT (v : D) : List D → Bool
  | [] => false
  | _ :: ds => occs v ds
def occs (v : D) : List D → Bool
  | [] => false
  | d :: ds => occD v d || occs v ds
end
theorem insD_append {acc xs ys : List D} : insD acc (xs ++ ys) = insD (insD acc xs) ys := by
  induction xs generalizing acc with
  | nil => rfl
  | cons x xs ih => simp only [List.cons_append, insD]; exact ih
theorem insD_take {acc xs : List D} {i : Nat} {d : D} (e : xs[i]? = some d) : insD acc (xs.take (i + 1)) = if hasD (insD acc (xs.take i)) d then insD acc (xs.take i) else insD acc (xs.take i) ++ [d] := by
  rw [List.take_succ, e, Option.toList_some, insD_append]
  simp [insD]
theorem vars_append {acc xs ys : List D} : vars acc (xs ++ ys) = vars (vars acc xs) ys := by
  induction xs generalizing acc with
  | nil => simp [vars]
  | cons x xs ih => simp only [List.cons_append, vars]; exact ih
theorem vars_take {acc xs : List D} {i : Nat} {d : D} (e : xs[i]? = some d) : vars acc (xs.take (i + 1)) = insD (vars acc (xs.take i)) (varD d) := by
  rw [List.take_succ, e, Option.toList_some, vars_append]
  simp [vars]
theorem varT_drop (ds : List D) : varT ds = vars [] (ds.drop 1) := by cases ds <;> simp [varT, vars]
theorem occT_drop (v : D) (ds : List D) : occT v ds = occs v (ds.drop 1) := by cases ds <;> simp [occT, occs]
theorem insD_nb {acc xs : List D} (ha : nbDs acc = true) (hx : nbDs xs = true) : nbDs (insD acc xs) = true := by
  induction xs generalizing acc with
  | nil => exact ha
  | cons x xs ih =>
    simp only [nbDs, Bool.and_eq_true] at hx
    simp only [insD]
    refine ih ?_ hx.2
    split
    · exact ha
    · exact nbs_all fun y hy => by
        rcases List.mem_append.mp hy with m | m
        · exact nbs_mem ha m
        · have : y = x := by simpa using m
          subst this; exact hx.1
mutual
theorem varD_nb : ∀ {d : D}, nbD d = true → nbDs (varD d) = true
  | .tup ds, h => by simp only [varD]; exact varT_nb (by simpa [nbD] using h)
  | .int i, h => by simp [varD, nbDs, nbD]
  | .str i, h => by simpa [varD, nbDs, nbD] using h
  | .non, h => by simp [nbD] at h
  | .bl _, h => by simp [nbD] at h
  | .lsv _, h => by simp [nbD] at h
  | .ref _, h => by simp [nbD] at h
  | .ty _, h => by simp [nbD] at h
theorem varT_nb : ∀ {ds : List D}, nbDs ds = true → nbDs (varT ds) = true
  | [], _ => rfl
  | d :: ds, h => by
    simp only [nbDs, Bool.and_eq_true] at h
    simp only [varT]
    exact vars_nb rfl h.2
theorem vars_nb : ∀ {ds acc : List D}, nbDs acc = true → nbDs ds = true → nbDs (vars acc ds) = true
  | [], acc, ha, _ => by simpa [vars] using ha
  | d :: ds, acc, ha, h => by
    simp only [nbDs, Bool.and_eq_true] at h
    simp only [vars]
    exact vars_nb (insD_nb ha (varD_nb h.1)) h.2
end
theorem insD_mem {acc xs : List D} {v : D} (ha : nbDs acc = true) (hx : nbDs xs = true) : v ∈ insD acc xs ↔ v ∈ acc ∨ v ∈ xs := by
  induction xs generalizing acc with
  | nil => simp [insD]
  | cons x xs ih =>
    simp only [nbDs, Bool.and_eq_true] at hx
    simp only [insD]
    by_cases c : hasD acc x = true
    · rw [if_pos c, ih ha hx.2]
      have := (hasD_iff ha hx.1).mp c
      simp only [List.mem_cons]
      constructor
      · rintro (m | m)
        · exact .inl m
        · exact .inr (.inr m)
      · rintro (m | m | m)
        · exact .inl m
        · subst m; exact .inl this
        · exact .inr m
    · rw [if_neg c, ih (nbs_all fun y hy => by
        rcases List.mem_append.mp hy with m | m
        · exact nbs_mem ha m
        · have : y = x := by simpa using m
          subst this; exact hx.1) hx.2]
      simp only [List.mem_append, List.mem_cons, List.not_mem_nil, or_false, or_assoc]
mutual
theorem occ_var : ∀ {d v : D}, nbD d = true → nbD v = true → (occD v d = true ↔ v ∈ varD d)
  | .tup ds, v, h, hv => by simp only [varD, occD]; exact occT_var (by simpa [nbD] using h) hv
  | .int i, v, h, hv => by simp only [varD, occD, List.mem_singleton]; rw [deq_nb h hv]; exact eq_comm
  | .str i, v, h, hv => by simp only [varD, occD, List.mem_singleton]; rw [deq_nb h hv]; exact eq_comm
  | .non, _, h, _ => by simp [nbD] at h
  | .bl _, _, h, _ => by simp [nbD] at h
  | .lsv _, _, h, _ => by simp [nbD] at h
  | .ref _, _, h, _ => by simp [nbD] at h
  | .ty _, _, h, _ => by simp [nbD] at h
theorem occT_var : ∀ {ds : List D} {v : D}, nbDs ds = true → nbD v = true → (occT v ds = true ↔ v ∈ varT ds)
  | [], v, _, _ => by simp [occT, varT]
  | d :: ds, v, h, hv => by
    simp only [nbDs, Bool.and_eq_true] at h
    simp only [occT, varT]
    rw [occs_var rfl h.2 hv]
    simp
theorem occs_var : ∀ {ds acc : List D} {v : D}, nbDs acc = true → nbDs ds = true → nbD v = true → (v ∈ vars acc ds ↔ v ∈ acc ∨ occs v ds = true)
  | [], acc, v, ha, _, _ => by simp [vars, occs]
  | d :: ds, acc, v, ha, h, hv => by
    simp only [nbDs, Bool.and_eq_true] at h
    simp only [vars, occs, Bool.or_eq_true]
    rw [occs_var (insD_nb ha (varD_nb h.1)) h.2 hv, insD_mem ha (varD_nb h.1), occ_var h.1 hv, or_assoc]
end
/-- the two loops of variables, of _law_met -/
def t_vloop (sp : SpD) : DTS := dSeq (dAsg (dLst (dNil)) (dgName 1)) (dSeq (dFor (diTup (dSl (dVar 0) (dPart (dC (.int 1))) (dNoPart))) (dgName 2) (dFor (diLst (dCall sp [] (dCons (dVar 2) (dNil)))) (dgName 3) (dIfS (dB (dOp notInD (dVar 3) (dVar 1))) (dDrop (dBM isL appendD (dVar 1) (dCons (dVar 3) dNil))) (dNext)))) (dRet (dVar 1)))
def sp_vars (n : Nat) : SpD := fun ds h Q _ => ∃ d, ds = [d] ∧ nbD d = true ∧ dep d < n ∧ dep d ≤ 60 ∧ szD d ≤ 1000000 ∧ ∀ p, h p = none → Q (.ref p) (updD h p (.lst (varD d)))
theorem ms_vars {n : Nat} : MonoSp (sp_vars n) := fun ds h Q Q' E k ⟨d, e, ok, l, l2, l3, q⟩ => ⟨d, e, ok, l, l2, l3, fun p n => k _ _ (q p n)⟩
theorem insD_len {acc xs : List D} : (insD acc xs).length ≤ acc.length + xs.length := by
  induction xs generalizing acc with
  | nil => simp [insD]
  | cons x xs ih =>
    simp only [insD, List.length_cons]
    refine Nat.le_trans ih ?_
    split <;> simp <;> omega
mutual
theorem varD_len : ∀ {d : D}, nbD d = true → (varD d).length ≤ szD d
  | .tup ds, h => by simp only [varD, szD]; exact varT_len (by simpa [nbD] using h)
  | .int i, h => by simp [varD, szD]
  | .str i, h => by simp [varD, szD]
  | .non, h => by simp [nbD] at h
  | .bl _, h => by simp [nbD] at h
  | .lsv _, h => by simp [nbD] at h
  | .ref _, h => by simp [nbD] at h
  | .ty _, h => by simp [nbD] at h
theorem varT_len : ∀ {ds : List D}, nbDs ds = true → (varT ds).length ≤ szT ds
  | [], _ => by simp [varT]
  | d :: ds, h => by
    simp only [nbDs, Bool.and_eq_true] at h
    have := vars_len (acc := []) h.2
    simp only [varT, szT]
    simp at this; omega
theorem vars_len : ∀ {ds acc : List D}, nbDs ds = true → (vars acc ds).length ≤ acc.length + szs ds
  | [], acc, _ => by simp [vars, szs]
  | d :: ds, acc, h => by
    simp only [nbDs, Bool.and_eq_true] at h
    simp only [vars, szs]
    have a := vars_len (acc := insD acc (varD d)) h.2
    have b := insD_len (acc := acc) (xs := varD d)
    have c := varD_len h.1
    omega
end
theorem szs_take_le {ds : List D} {i : Nat} : szs (ds.take i) ≤ szs ds := by
  induction ds generalizing i with
  | nil => simp [szs]
  | cons x xs ih =>
    cases i with
    | zero => simp [szs]
    | succ i => simp only [List.take_succ_cons, szs]; have := ih (i := i); omega
theorem sz_arg {ds : List D} {i : Nat} {d : D} (e : (ds.drop 1)[i]? = some d) : szD d + szs ((ds.drop 1).take i) < szD (.tup ds) := by
  have a := szs_take e
  have b := szs_take_le (ds := ds.drop 1) (i := i + 1)
  simp only [szD, szT_drop]; omega
theorem insD_in {acc xs : List D} {v : D} (h : v ∈ insD acc xs) : v ∈ acc ∨ v ∈ xs := by
  induction xs generalizing acc with
  | nil => exact .inl h
  | cons x xs ih =>
    simp only [insD] at h
    rcases ih h with m | m
    · split at m
      · exact .inl m
      · rcases List.mem_append.mp m with m | m
        · exact .inl m
        · have : v = x := by simpa using m
          subst this; exact .inr List.mem_cons_self
    · exact .inr (List.mem_cons_of_mem _ m)
mutual
theorem varD_sc : ∀ {d v : D}, nbD d = true → v ∈ varD d → dep v = 0
  | .tup ds, v, h, m => by
    simp only [varD] at m
    exact varT_sc (by simpa [nbD] using h) m
  | .int i, v, h, m => by simp [varD] at m; subst m; rfl
  | .str i, v, h, m => by simp [varD] at m; subst m; rfl
  | .non, _, h, _ => by simp [nbD] at h
  | .bl _, _, h, _ => by simp [nbD] at h
  | .lsv _, _, h, _ => by simp [nbD] at h
  | .ref _, _, h, _ => by simp [nbD] at h
  | .ty _, _, h, _ => by simp [nbD] at h
theorem varT_sc : ∀ {ds : List D} {v : D}, nbDs ds = true → v ∈ varT ds → dep v = 0
  | [], v, _, m => by simp [varT] at m
  | d :: ds, v, h, m => by
    simp only [nbDs, Bool.and_eq_true] at h
    simp only [varT] at m
    exact vars_sc (fun w hw => by simp at hw) h.2 m
theorem vars_sc : ∀ {ds acc : List D} {v : D}, (∀ w ∈ acc, dep w = 0) → nbDs ds = true → v ∈ vars acc ds → dep v = 0
  | [], acc, v, ha, _, m => by simp only [vars] at m; exact ha _ m
  | d :: ds, acc, v, ha, h, m => by
    simp only [nbDs, Bool.and_eq_true] at h
    simp only [vars] at m
    refine vars_sc (fun w hw => ?_) h.2 m
    rcases insD_in hw with mm | mm
    · exact ha _ mm
    · exact varD_sc h.1 mm
end
theorem r_vloop {n : Nat} {xs : List D} {h : DH} {Q : DK} {nx : DSt → DH → Prop} (up : Up Q) (ok : nbD (.tup xs) = true) (hd : dep (.tup xs) < n + 1) (hd2 : dep (.tup xs) ≤ 60) (hl : szD (.tup xs) ≤ 1000000) (q : ∀ p, h p = none → Q (.ref p) (updD h p (.lst (varD (.tup xs))))) :
    t_vloop (sp_vars n) { nx := nx, rt := Q } [some (.tup xs), none, none, none] h := by
  unfold t_vloop
  walk_at "dl"
  refine ⟨Nat.zero_le _, fun p np => ?_⟩
  have tl : vars [] (xs.drop 1) = varD (.tup xs) := by simp only [varD, varT_drop]
  refine dFor_of (items := xs.drop 1) (st := fun _ => True) (h1 := updD h p (.lst [])) (fun i τ h' => Off p (updD h p (.lst [])) h' ∧ h' p = some (.lst (vars [] ((xs.drop 1).take i))) ∧ ∃ x y, τ = [some (.tup xs), some (.ref p), x, y]) (fun R r => by walk_at "dl"; exact r) ⟨.refl _ _, by rw [updD_same]; simp [vars], _, _, rfl⟩ (fun _ _ _ _ => trivial) ?_ ?_
  · rintro i d τ h1 e ⟨of, ep, x, y, rfl⟩
    have nd := nb_arg ok e
    have vt : nbDs ((xs.drop 1).take i) = true := nbs_all fun y hy => by
      obtain ⟨j, hj⟩ := List.getElem?_of_mem (List.mem_of_mem_take hy)
      exact nb_arg ok hj
    have va : nbDs (vars [] ((xs.drop 1).take i)) = true := vars_nb rfl vt
    have sa := sz_arg e
    have ln : (vars [] ((xs.drop 1).take i)).length + (varD d).length ≤ 1000000 := by
      have := vars_len (acc := []) vt
      have := varD_len nd
      simp at *; omega
    have dd : dep d < n := dep_arg hd e
    have d6 : dep d < 60 := dep_arg (by omega) e
    unfold dFor
    walk_at "dl"
    refine fun _ => ⟨d, rfl, nd, dd, by omega, by omega, fun p1 np1 => .inr ⟨p1, rfl, _, updD_same, fun j τ h' => Off p (updD h p (.lst [])) h' ∧ h' p1 = some (.lst (varD d)) ∧ h' p = some (.lst (insD (vars [] ((xs.drop 1).take i)) ((varD d).take j))) ∧ ∃ y, τ = [some (.tup xs), some (.ref p), some d, y], ⟨of.new np1, updD_same, ?_, _, rfl⟩, fun _ _ _ q => q.2.1, ?_, ?_⟩⟩
    · rw [updD_ne (neD ep np1)]; simpa [insD] using ep
    · rintro j z τ h2 ez ⟨of2, e1, ep2, y2, rfl⟩
      have zn := nbs_get (varD_nb nd) ez
      have a2 : nbDs (insD (vars [] ((xs.drop 1).take i)) ((varD d).take j)) = true := insD_nb va (nbs_all fun y hy => nbs_mem (varD_nb nd) (List.mem_of_mem_take hy))
      have pp : p1 ≠ p := (neD ep np1).symm
      have lt := List.length_take_le' j (varD d)
      have le := insD_len (acc := vars [] ((xs.drop 1).take i)) (xs := (varD d).take j)
      walk_at "dl"
      refine nin_ref ep2 (nbs_ok a2) (nb_ok zn) (by rw [varD_sc nd (List.mem_of_getElem? ez)]; decide) ⟨_, rfl, ?_⟩
      rw [insD_take ez]
      cases c : hasD (insD (vars [] ((xs.drop 1).take i)) ((varD d).take j)) z with
      | true => exact ⟨of2, e1, by rw [if_pos rfl]; exact ep2⟩
      | false => exact ⟨⟨_, ep2⟩, _, ep2, by rw [sizeLine_eq]; omega, fun b o nb eb => by rw [updD_ne nb]; exact of2 b o nb eb, by rw [updD_ne pp]; exact e1, by rw [if_neg (by decide)]⟩
    · rintro τ h2 ⟨of2, e1, ep2, y2, rfl⟩
      rw [List.take_length] at ep2
      refine ⟨of2, ?_, _, _, rfl⟩
      rw [vars_take e]; exact ep2
  · rintro τ h1 ⟨of, ep, x, y, rfl⟩
    walk_at "dl"
    rw [List.take_length, tl] at ep
    refine up _ _ _ (Off.sub (of.trans (Off.refl _ _)) ep) ?_
    rw [updD_updD]
    exact q p np
theorem r_variables {n : Nat} (ds : List D) (h : DH) (Q : DK) (Ed : DXK) (up : Up Q) (q : sp_vars (n + 1) ds h Q Ed) : t_variables sp_is_variable (sp_vars n) { nx := fun _ h' => Q .non h', rt := Q } (dstart N_variables ds) h := by
  obtain ⟨d, rfl, ok, hd, hd2, hl, q⟩ := q
  refine dSeq_cut (fun τ h' => h = h' ∧ isTup d = true ∧ τ = [some d, none, none, none]) (fun nx hnx => ?_) ?_
  · unfold N_variables
    walk_at "dl"
    refine fun _ => ⟨d, rfl, nb_ok ok, ?_⟩
    walk_at "dl"
    cases d with
    | tup xs => simp only [isTup]; exact hnx _ _ ⟨rfl, rfl, rfl⟩
    | _ => simp only [isTup]; exact ⟨by rw [sizeLine_eq]; decide, q⟩
  · rintro τ _ ⟨rfl, it, rfl⟩
    obtain ⟨xs, rfl⟩ : ∃ xs, d = .tup xs := by cases d <;> first | exact ⟨_, rfl⟩ | (simp [isTup] at it)
    exact r_vloop up ok hd hd2 hl q
theorem r_met {n : Nat} (ds : List D) (h : DH) (Q : DK) (Ed : DXK) (up : Up Q) (q : sp_vars (n + 1) ds h Q Ed) : t_law_met_9244 (sp_vars n) { nx := fun _ h' => Q .non h', rt := Q } (dstart N_law_met_9244 ds) h := by
  obtain ⟨d, rfl, ok, hd, hd2, hl, q⟩ := q
  refine dSeq_cut (fun τ h' => h = h' ∧ isTup d = true ∧ τ = [some d, none, none, none]) (fun nx hnx => ?_) ?_
  · unfold N_law_met_9244
    walk_at "dl"
    rw [isi_tuple (nb_ok ok)]
    walk_at "dl"
    cases d with
    | tup xs => simp only [isTup]; exact hnx _ _ ⟨rfl, rfl, rfl⟩
    | _ => simp only [isTup]; exact ⟨by rw [sizeLine_eq]; decide, q⟩
  · rintro τ _ ⟨rfl, it, rfl⟩
    obtain ⟨xs, rfl⟩ : ∃ xs, d = .tup xs := by cases d <;> first | exact ⟨_, rfl⟩ | (simp [isTup] at it)
    exact r_vloop up ok hd hd2 hl q
/-! occurs -/
theorem occs_take {v : D} {ds : List D} {i : Nat} {d : D} (e : ds[i]? = some d) : occs v (ds.take (i + 1)) = (occs v (ds.take i) || occD v d) := by
  induction ds generalizing i with
  | nil => simp at e
  | cons x xs ih =>
    cases i with
    | zero => simp at e; subst e; simp [occs]
    | succ i => simp only [List.take_succ_cons, occs]; rw [ih (by simpa using e), Bool.or_assoc]
theorem occs_true {v : D} {ds : List D} {i : Nat} {d : D} (e : ds[i]? = some d) (o : occD v d = true) : occs v ds = true := by
  induction ds generalizing i with
  | nil => simp at e
  | cons x xs ih =>
    cases i with
    | zero => simp at e; subst e; simp [occs, o]
    | succ i => simp only [occs, Bool.or_eq_true]; exact .inr (ih (by simpa using e))
def sp_occurs (n : Nat) : SpD := fun ds h Q _ => ∃ v d, ds = [v, d] ∧ nbD v = true ∧ nbD d = true ∧ dep v = 0 ∧ dep d < n ∧ Q (.bl (occD v d)) h
theorem ms_occurs {n : Nat} : MonoSp (sp_occurs n) := fun ds h Q Q' E k ⟨v, d, e, a, ok, b, l, q⟩ => ⟨v, d, e, a, ok, b, l, k _ _ q⟩
theorem r_occurs {n : Nat} (ds : List D) (h : DH) (Q : DK) (Ed : DXK) (up : Up Q) (q : sp_occurs (n + 1) ds h Q Ed) : t_occurs sp_is_variable (sp_occurs n) { nx := fun _ h' => Q .non h', rt := Q } (dstart N_occurs ds) h := by
  obtain ⟨v, d, rfl, nv, ok, dv, hd, q⟩ := q
  unfold t_occurs N_occurs
  walk_at "dl"
  refine fun _ => ⟨d, rfl, nb_ok ok, ?_⟩
  walk_at "dl"
  cases d with
  | tup xs =>
    simp only [isTup, Bool.true_eq_false, if_false, Bool.not_true, Bool.false_eq_true]
    refine dFor_of (items := xs.drop 1) (st := fun _ => True) (h1 := h) (fun i τ h' => h = h' ∧ occs v ((xs.drop 1).take i) = false ∧ ∃ x, τ = [some v, some (.tup xs), x]) (fun R r => by walk_at "dl"; exact r) ⟨rfl, by simp [occs], _, rfl⟩ (fun _ _ _ _ => trivial) ?_ ?_
    · rintro i d τ _ e ⟨rfl, o, x, rfl⟩
      walk_at "dl"
      refine fun _ => ⟨v, d, rfl, nv, nb_arg ok e, dv, dep_arg hd e, ?_⟩
      walk_at "dl"
      cases c : occD v d with
      | true =>
        rw [if_pos rfl]
        rw [occD, occT_drop, occs_true e c] at q
        exact q
      | false => rw [if_neg (by decide), occs_take e, o, c]; rfl
    · rintro τ _ ⟨rfl, o, x, rfl⟩
      walk_at "dl"
      rw [List.take_length] at o
      rw [occD, occT_drop, o] at q
      exact q
  | _ =>
    simp only [isTup, Bool.not_false, if_true]
    rw [nb_eq ok nv (by rw [dv]; omega)]
    exact q

end DL

namespace DL
open PySem PySem.Spec PyProof.Rows L2
local macro_rules | `(tactic| walk_at "dl") => `(tactic| simp only [dSeq, dIfS, dTru, dB, dNot, dAnd, dOr, dVar, dC, dOp, dCall, dCons, dNil, dRet, dRetN, dAsg, dgName, dNext, dDrop, dDNew, dDGet, dDGetF, dDIn, dDNotIn, dDPut, dDDel, dDGet1, dDGet2, dFld, dSetF, dMeth, dMake, indexD2, dCBK, dLstRevT, dCallN, gK, cond_true, cond_false, Option.toList_some, diItems, diKeys, diVals, diZip, diEnum, listKD, eqKD, dPairs, keyed, popAtD, insertD, reverseD, dRaise, dRetX, dAsgX, dDropX, dCallX, dPureX, dXf, List.zip_cons_cons, List.zip_nil_right, List.zip_nil_left, List.reverse_cons, List.reverse_nil, dCB, dBM, dTup, dLst, dSl, dPart, dNoPart, dNotV, dAndV, dOrV, dIf, dNeg, diTup, diLst, diSeq, seqI_tup, seqI_lsv, seqI_ref, diRng1, diRng2, addD_int, addD_str, addD_tup, addD_ref, subD_int, mulD_int, fdivD_int, modD_int, powD_int, ltD_int, ltD_str, leD_int, gtD_int, geD_int, isD_non, isNotD_non, truD_non, truD_bl, truD_int, truD_str, truD_tup, truD_lsv, slD_tup, slD_str, slD_ref, slD_lsv, ixD_tup, ixD_lsv, ixD_str, ixD_ref, lenD_tup, lenD_lsv, lenD_str, lenD_ref, absD_int, intD_int, max2D_int, min2D_int, listD_tup, listD_lsv, listD_ref, tupleD_tup, tupleD_ref, isNon, dstart, dYes,
  List.map_cons, List.map_nil, List.length_cons, List.length_nil, List.nil_append, List.cons_append, List.append_nil, List.set_cons_zero, List.set_cons_succ, List.getElem?_cons_zero, List.getElem?_cons_succ, Option.some.injEq, exists_eq_left', exists_eq_left, exists_eq_right, exists_eq, exists_eq', List.cons.injEq, and_true, true_and, D.int.injEq, D.str.injEq, D.bl.injEq, D.tup.injEq, D.ref.injEq, D.ty.injEq, forall_eq', forall_eq, imp_self, forall_const, exists_and_left, exists_const, isL, appendD, popD, updD_same, updD_updD, DO.lst.injEq, eqD_int, neD_int, eqD_bl, neD_bl, cutD_1,
  decide_eq_true_eq, Bool.not_eq_true', decide_eq_false_iff_not, List.reduceReplicate, Nat.reduceAdd, Nat.reduceSub, Nat.reduceMul, Bool.false_eq_true, Bool.true_eq_false, if_false, if_true, reduceIte])
local macro_rules | `(tactic| walk_at "ds") => `(tactic| simp only [dIfS, dTru, dB, dNot, dAnd, dOr, dVar, dC, dOp, dCall, dCons, dNil, dRet, dRetN, dAsg, dgName, dNext, dDrop, dDNew, dDGet, dDGetF, dDIn, dDNotIn, dDPut, dDDel, dDGet1, dDGet2, dFld, dSetF, dMeth, dMake, indexD2, dCBK, dLstRevT, dCallN, gK, cond_true, cond_false, Option.toList_some, diItems, diKeys, diVals, diZip, diEnum, listKD, eqKD, dPairs, keyed, popAtD, insertD, reverseD, dRaise, dRetX, dAsgX, dDropX, dCallX, dPureX, dXf, List.zip_cons_cons, List.zip_nil_right, List.zip_nil_left, List.reverse_cons, List.reverse_nil, dCB, dBM, dTup, dLst, dSl, dPart, dNoPart, dNotV, dAndV, dOrV, dIf, dNeg, diTup, diLst, diSeq, seqI_tup, seqI_lsv, seqI_ref, diRng1, diRng2, addD_int, addD_str, addD_tup, addD_ref, subD_int, mulD_int, fdivD_int, modD_int, powD_int, ltD_int, ltD_str, leD_int, gtD_int, geD_int, isD_non, isNotD_non, truD_non, truD_bl, truD_int, truD_str, truD_tup, truD_lsv, slD_tup, slD_str, slD_ref, slD_lsv, ixD_tup, ixD_lsv, ixD_str, ixD_ref, lenD_tup, lenD_lsv, lenD_str, lenD_ref, absD_int, intD_int, max2D_int, min2D_int, listD_tup, listD_lsv, listD_ref, tupleD_tup, tupleD_ref, isNon, dstart, dYes,
  List.map_cons, List.map_nil, List.length_cons, List.length_nil, List.nil_append, List.cons_append, List.append_nil, List.set_cons_zero, List.set_cons_succ, List.getElem?_cons_zero, List.getElem?_cons_succ, Option.some.injEq, exists_eq_left', exists_eq_left, exists_eq_right, exists_eq, exists_eq', List.cons.injEq, and_true, true_and, D.int.injEq, D.str.injEq, D.bl.injEq, D.tup.injEq, D.ref.injEq, D.ty.injEq, forall_eq', forall_eq, imp_self, forall_const, exists_and_left, exists_const, isL, appendD, popD, updD_same, updD_updD, DO.lst.injEq, eqD_int, neD_int, eqD_bl, neD_bl, cutD_1,
  decide_eq_true_eq, Bool.not_eq_true', decide_eq_false_iff_not, List.reduceReplicate, Nat.reduceAdd, Nat.reduceSub, Nat.reduceMul, Bool.false_eq_true, Bool.true_eq_false, if_false, if_true, reduceIte])
local macro_rules | `(tactic| walk_at "da") => `(tactic| simp only [dSeq, dIfS, dTru, dB, dNot, dAnd, dOr, dVar, dC, dOp, dCall, dCons, dNil, dRet, dRetN, dAsg, dgName, dNext, dDrop, dDNew, dDGet, dDGetF, dDIn, dDNotIn, dDPut, dDDel, dDGet1, dDGet2, dFld, dSetF, dMeth, dMake, indexD2, dCBK, dLstRevT, dCallN, gK, cond_true, cond_false, Option.toList_some, diItems, diKeys, diVals, diZip, diEnum, listKD, eqKD, dPairs, keyed, popAtD, insertD, reverseD, dRaise, dRetX, dAsgX, dDropX, dCallX, dPureX, dXf, List.zip_cons_cons, List.zip_nil_right, List.zip_nil_left, List.reverse_cons, List.reverse_nil, dCB, dBM, dTup, dLst, dSl, dPart, dNoPart, dNotV, dAndV, dOrV, dIf, dNeg, diTup, diLst, diSeq, seqI_tup, seqI_lsv, seqI_ref, diRng1, diRng2, addD_int, addD_str, addD_tup, addD_ref, subD_int, mulD_int, fdivD_int, modD_int, powD_int, ltD_int, ltD_str, leD_int, gtD_int, geD_int, isD_non, isNotD_non, truD_non, truD_bl, truD_int, truD_str, truD_tup, truD_lsv, slD_tup, slD_str, slD_ref, slD_lsv, ixD_tup, ixD_lsv, ixD_str, ixD_ref, lenD_tup, lenD_lsv, lenD_str, lenD_ref, absD_int, intD_int, max2D_int, min2D_int, listD_tup, listD_lsv, listD_ref, tupleD_tup, tupleD_ref, isNon, dstart, dYes,
  List.map_cons, List.map_nil, List.length_cons, List.length_nil, List.nil_append, List.cons_append, List.append_nil, List.set_cons_zero, List.set_cons_succ, List.getElem?_cons_zero, List.getElem?_cons_succ, Option.some.injEq, exists_eq_left', exists_eq_left, exists_eq_right, exists_eq, exists_eq', List.cons.injEq, and_true, true_and, D.int.injEq, D.str.injEq, D.bl.injEq, D.tup.injEq, D.ref.injEq, D.ty.injEq, forall_eq', forall_eq, imp_self, forall_const, exists_and_left, exists_const, isL, appendD, popD, updD_same, updD_updD, DO.lst.injEq, atI_0, atI_1, atI_2, atI_3, atI_4, sz1, sz2, sz3, sz4, sz5, sz6, eqD_int, neD_int, eqD_bl, neD_bl, cutD_1,
  decide_eq_true_eq, Bool.not_eq_true', decide_eq_false_iff_not, List.reduceReplicate, Nat.reduceAdd, Nat.reduceSub, Nat.reduceMul, Bool.false_eq_true, Bool.true_eq_false, if_false, if_true, reduceIte])
local macro_rules | `(tactic| walk_at "dz") => `(tactic| simp only [dIfS, dTru, dB, dNot, dAnd, dOr, dVar, dC, dOp, dCall, dCons, dNil, dRet, dRetN, dAsg, dgName, dNext, dDrop, dDNew, dDGet, dDGetF, dDIn, dDNotIn, dDPut, dDDel, dDGet1, dDGet2, dFld, dSetF, dMeth, dMake, indexD2, dCBK, dLstRevT, dCallN, gK, cond_true, cond_false, Option.toList_some, diItems, diKeys, diVals, diZip, diEnum, listKD, eqKD, dPairs, keyed, popAtD, insertD, reverseD, dRaise, dRetX, dAsgX, dDropX, dCallX, dPureX, dXf, List.zip_cons_cons, List.zip_nil_right, List.zip_nil_left, List.reverse_cons, List.reverse_nil, dCB, dBM, dTup, dLst, dSl, dPart, dNoPart, dNotV, dAndV, dOrV, dIf, dNeg, diTup, diLst, diSeq, seqI_tup, seqI_lsv, seqI_ref, diRng1, diRng2, addD_int, addD_str, addD_tup, addD_ref, subD_int, mulD_int, fdivD_int, modD_int, powD_int, ltD_int, ltD_str, leD_int, gtD_int, geD_int, isD_non, isNotD_non, truD_non, truD_bl, truD_int, truD_str, truD_tup, truD_lsv, slD_tup, slD_str, slD_ref, slD_lsv, ixD_tup, ixD_lsv, ixD_str, ixD_ref, lenD_tup, lenD_lsv, lenD_str, lenD_ref, absD_int, intD_int, max2D_int, min2D_int, listD_tup, listD_lsv, listD_ref, tupleD_tup, tupleD_ref, isNon, dstart, dYes,
  List.map_cons, List.map_nil, List.length_cons, List.length_nil, List.nil_append, List.cons_append, List.append_nil, List.set_cons_zero, List.set_cons_succ, List.getElem?_cons_zero, List.getElem?_cons_succ, Option.some.injEq, exists_eq_left', exists_eq_left, exists_eq_right, exists_eq, exists_eq', List.cons.injEq, and_true, true_and, D.int.injEq, D.str.injEq, D.bl.injEq, D.tup.injEq, D.ref.injEq, D.ty.injEq, forall_eq', forall_eq, imp_self, forall_const, exists_and_left, exists_const, isL, appendD, popD, updD_same, updD_updD, DO.lst.injEq, atI_0, atI_1, atI_2, atI_3, atI_4, sz1, sz2, sz3, sz4, sz5, sz6, eqD_int, neD_int, eqD_bl, neD_bl, cutD_1,
  decide_eq_true_eq, Bool.not_eq_true', decide_eq_false_iff_not, List.reduceReplicate, Nat.reduceAdd, Nat.reduceSub, Nat.reduceMul, Bool.false_eq_true, Bool.true_eq_false, if_false, if_true, reduceIte])
local macro_rules | `(tactic| walk_at "dw") => `(tactic| simp only [dIfS, dTru, dB, dNot, dAnd, dOr, dVar, dC, dOp, dCall, dCons, dNil, dRet, dRetN, dAsg, dgName, dNext, dDrop, dDNew, dDGet, dDGetF, dDIn, dDNotIn, dDPut, dDDel, dDGet1, dDGet2, dFld, dSetF, dMeth, dMake, indexD2, dCBK, dLstRevT, dCallN, gK, cond_true, cond_false, Option.toList_some, diItems, diKeys, diVals, diZip, diEnum, listKD, eqKD, dPairs, keyed, popAtD, insertD, reverseD, dRaise, dRetX, dAsgX, dDropX, dCallX, dPureX, dXf, List.zip_cons_cons, List.zip_nil_right, List.zip_nil_left, List.reverse_cons, List.reverse_nil, dCB, dBM, dTup, dLst, dSl, dPart, dNoPart, dNotV, dAndV, dOrV, dIf, dNeg, diTup, diLst, diSeq, seqI_tup, seqI_lsv, seqI_ref, diRng1, diRng2, addD_int, addD_str, addD_tup, addD_ref, subD_int, mulD_int, fdivD_int, modD_int, powD_int, ltD_int, ltD_str, leD_int, gtD_int, geD_int, isD_non, isNotD_non, truD_non, truD_bl, truD_int, truD_str, truD_tup, truD_lsv, slD_tup, slD_str, slD_ref, slD_lsv, ixD_tup, ixD_lsv, ixD_str, ixD_ref, lenD_tup, lenD_lsv, lenD_str, lenD_ref, absD_int, intD_int, max2D_int, min2D_int, listD_tup, listD_lsv, listD_ref, tupleD_tup, tupleD_ref, isNon, dstart, dYes,
  List.map_cons, List.map_nil, List.length_cons, List.length_nil, List.nil_append, List.cons_append, List.append_nil, List.set_cons_zero, List.set_cons_succ, List.getElem?_cons_zero, List.getElem?_cons_succ, Option.some.injEq, exists_eq_left', exists_eq_left, exists_eq_right, exists_eq, exists_eq', List.cons.injEq, and_true, true_and, D.int.injEq, D.str.injEq, D.bl.injEq, D.tup.injEq, D.ref.injEq, D.ty.injEq, forall_eq', forall_eq, imp_self, forall_const, exists_and_left, exists_const, isL, appendD, popD, updD_same, updD_updD, DO.lst.injEq, atI_0, atI_1, atI_2, atI_3, atI_4, sz1, sz2, sz3, sz4, sz5, sz6, eqD_int, neD_int, eqD_bl, neD_bl, cutD_1,
  decide_eq_true_eq, Bool.not_eq_true', decide_eq_false_iff_not, List.reduceReplicate, Nat.reduceAdd, Nat.reduceSub, Nat.reduceMul, Bool.false_eq_true, Bool.true_eq_false, if_false, if_true, reduceIte, dgSub, setD, ix4s, ix5s, atI_0, atI_1, atI_2, atI_3, atI_4, *])
local macro_rules | `(tactic| walk_at "dv") => `(tactic| simp only [dSeq, dIfS, dTru, dB, dNot, dAnd, dOr, dVar, dC, dOp, dCall, dCons, dNil, dRet, dRetN, dAsg, dgName, dNext, dDrop, dDNew, dDGet, dDGetF, dDIn, dDNotIn, dDPut, dDDel, dDGet1, dDGet2, dFld, dSetF, dMeth, dMake, indexD2, dCBK, dLstRevT, dCallN, gK, cond_true, cond_false, Option.toList_some, diItems, diKeys, diVals, diZip, diEnum, listKD, eqKD, dPairs, keyed, popAtD, insertD, reverseD, dRaise, dRetX, dAsgX, dDropX, dCallX, dPureX, dXf, List.zip_cons_cons, List.zip_nil_right, List.zip_nil_left, List.reverse_cons, List.reverse_nil, dCB, dBM, dTup, dLst, dSl, dPart, dNoPart, dNotV, dAndV, dOrV, dIf, dNeg, diTup, diLst, diSeq, seqI_tup, seqI_lsv, seqI_ref, diRng1, diRng2, addD_int, addD_str, addD_tup, addD_ref, subD_int, mulD_int, fdivD_int, modD_int, powD_int, ltD_int, ltD_str, leD_int, gtD_int, geD_int, isD_non, isNotD_non, truD_non, truD_bl, truD_int, truD_str, truD_tup, truD_lsv, slD_tup, slD_str, slD_ref, slD_lsv, ixD_tup, ixD_lsv, ixD_str, ixD_ref, lenD_tup, lenD_lsv, lenD_str, lenD_ref, absD_int, intD_int, max2D_int, min2D_int, listD_tup, listD_lsv, listD_ref, tupleD_tup, tupleD_ref, isNon, dstart, dYes,
  List.map_cons, List.map_nil, List.length_cons, List.length_nil, List.nil_append, List.cons_append, List.append_nil, List.set_cons_zero, List.set_cons_succ, List.getElem?_cons_zero, List.getElem?_cons_succ, Option.some.injEq, exists_eq_left', exists_eq_left, exists_eq_right, exists_eq, exists_eq', List.cons.injEq, and_true, true_and, D.int.injEq, D.str.injEq, D.bl.injEq, D.tup.injEq, D.ref.injEq, D.ty.injEq, forall_eq', forall_eq, imp_self, forall_const, exists_and_left, exists_const, isL, appendD, popD, updD_same, updD_updD, DO.lst.injEq, atI_0, atI_1, atI_2, atI_3, atI_4, sz1, sz2, sz3, sz4, sz5, sz6, eqD_int, neD_int, eqD_bl, neD_bl, cutD_1,
  decide_eq_true_eq, Bool.not_eq_true', decide_eq_false_iff_not, List.reduceReplicate, Nat.reduceAdd, Nat.reduceSub, Nat.reduceMul, Bool.false_eq_true, Bool.true_eq_false, if_false, if_true, reduceIte, dgSub, setD, ix4s, ix5s, atI_0, atI_1, atI_2, atI_3, atI_4, *])
def N_alike : List Str := [Str.ofString "literal", Str.ofString "other"]
def t_alike : DTS := dSeq (dIfS (dB (dOp neD' (dOp ixD (dVar 0) (dC (.int 0))) (dOp ixD (dVar 1) (dC (.int 0))))) (dRet (dC (.bl false))) (dNext)) (dSeq (dIfS (dAnd (dB (dOp eqD (dOp ixD (dVar 0) (dC (.int 1))) (dOp ixD (dVar 1) (dC (.int 1))))) (dB (dOp eqD (dOp ixD (dVar 0) (dC (.int 2))) (dOp ixD (dVar 1) (dC (.int 2)))))) (dRet (dC (.bl true))) (dNext)) (dSeq (dIfS (dOr (dB (dOp eqD (dOp ixD (dVar 0) (dC (.int 2))) (dC c_TRUE))) (dB (dOp eqD (dOp ixD (dVar 1) (dC (.int 2))) (dC c_TRUE)))) (dRet (dC (.bl false))) (dNext)) (dRet (dAndV (dOp eqD (dOp ixD (dVar 0) (dC (.int 1))) (dOp ixD (dVar 1) (dC (.int 2)))) (dOp eqD (dOp ixD (dVar 0) (dC (.int 2))) (dOp ixD (dVar 1) (dC (.int 1))))))))
def N_opposite : List Str := [Str.ofString "literal", Str.ofString "other"]
def t_opposite (sp_alike : SpD) : DTS := dRet (dAndV (dOp neD' (dOp ixD (dVar 0) (dC (.int 0))) (dOp ixD (dVar 1) (dC (.int 0)))) (dCall sp_alike [] (dCons (dTup (dCons (dOp ixD (dVar 1) (dC (.int 0))) (dCons (dOp ixD (dVar 0) (dC (.int 1))) (dCons (dOp ixD (dVar 0) (dC (.int 2))) (dNil))))) (dCons (dVar 1) (dNil)))))
def N_is_tautology : List Str := [Str.ofString "clause", Str.ofString "index", Str.ofString "literal", Str.ofString "other"]
def t_is_tautology (sp_opposite : SpD) : DTS := dSeq (dFor (diRng1 (dCons (dCB lenD (dCons (dVar 0) (dNil))) (dNil))) (dgName 1) (dSeq (dAsg (dOp ixD (dVar 0) (dVar 1)) (dgName 2)) (dSeq (dIfS (dAnd (dTru (dOp ixD (dVar 2) (dC (.int 0)))) (dB (dOp eqD (dOp ixD (dVar 2) (dC (.int 1))) (dOp ixD (dVar 2) (dC (.int 2)))))) (dRet (dC (.bl true))) (dNext)) (dFor (diTup (dSl (dVar 0) (dPart (dOp addD (dVar 1) (dC (.int 1)))) (dNoPart))) (dgName 3) (dIfS (dTru (dCall sp_opposite [] (dCons (dVar 2) (dCons (dVar 3) (dNil))))) (dRet (dC (.bl true))) (dNext)))))) (dRet (dC (.bl false)))
def N_law_literal_9245 : List Str := [Str.ofString "_law_draws_here", Str.ofString "_law_words_here", Str.ofString "_law_positive", Str.ofString "_law_kind", Str.ofString "_law_arguments", Str.ofString "_law_k", Str.ofString "_law_left"]
def t_law_literal_9245 (sp_law_take sp_law_term_1b49 : SpD) : DTS := dSeq (dAsg (dOp eqD (dCall sp_law_take [] (dCons (dVar 0) (dCons (dC (.int 2)) (dNil)))) (dC (.int 1))) (dgName 2)) (dSeq (dAsg (dCall sp_law_take [] (dCons (dVar 0) (dCons (dC (.int 8)) (dNil)))) (dgName 3)) (dSeq (dIfS (dB (dOp ltD (dVar 3) (dC (.int 3)))) (dSeq (dAsg (dLc (diRng1 (dCons (dVar 3) (dNil))) (dgName 5) (dYes) (dCall sp_law_term_1b49 [] (dCons (dVar 0) (dCons (dVar 1) (dCons (dC (.int 2)) (dNil))))) [5]) (dgName 4)) (dRet (dTup (dCons (dVar 2) (dCons (dOp addD (dTup (dCons (dOp ixD (dVar 1) (dOp addD (dC (.int 6)) (dVar 3))) (dNil))) (dCB tupleD (dCons (dVar 4) (dNil)))) (dCons (dTup (dCons (dC (.str "true")) (dNil))) (dNil))))))) (dNext)) (dSeq (dIfS (dAnd (dB (dOp eqD (dVar 3) (dC (.int 3)))) (dB (dOp eqD (dCall sp_law_take [] (dCons (dVar 0) (dCons (dC (.int 4)) (dNil)))) (dC (.int 0))))) (dRet (dTup (dCons (dVar 2) (dCons (dTup (dCons (dC (.str "true")) (dNil))) (dCons (dTup (dCons (dC (.str "true")) (dNil))) (dNil)))))) (dNext)) (dSeq (dAsg (dCall sp_law_term_1b49 [] (dCons (dVar 0) (dCons (dVar 1) (dCons (dC (.int 2)) (dNil))))) (dgName 6)) (dRet (dTup (dCons (dVar 2) (dCons (dVar 6) (dCons (dCall sp_law_term_1b49 [] (dCons (dVar 0) (dCons (dVar 1) (dCons (dC (.int 2)) (dNil))))) (dNil))))))))))
def N_law_clause_7bab : List Str := [Str.ofString "_law_draws_here", Str.ofString "_law_words_here", Str.ofString "_law_most", Str.ofString "_law_k"]
def t_law_clause_7bab (sp_law_take sp_law_literal_9245 : SpD) : DTS := dRet (dCB tupleD (dCons (dLc (diRng1 (dCons (dCall sp_law_take [] (dCons (dVar 0) (dCons (dOp addD (dVar 2) (dC (.int 1))) (dNil)))) (dNil))) (dgName 3) (dYes) (dCall sp_law_literal_9245 [] (dCons (dVar 0) (dCons (dVar 1) (dNil)))) [3]) (dNil)))
def N_law_alike_c8d2 : List Str := [Str.ofString "_law_literal_here", Str.ofString "_law_other"]
def t_law_alike_c8d2 : DTS := dSeq (dIfS (dB (dOp neD' (dOp ixD (dVar 0) (dC (.int 0))) (dOp ixD (dVar 1) (dC (.int 0))))) (dRet (dC (.bl false))) (dNext)) (dSeq (dIfS (dAnd (dB (dOp eqD (dOp ixD (dVar 0) (dC (.int 1))) (dOp ixD (dVar 1) (dC (.int 1))))) (dB (dOp eqD (dOp ixD (dVar 0) (dC (.int 2))) (dOp ixD (dVar 1) (dC (.int 2)))))) (dRet (dC (.bl true))) (dNext)) (dSeq (dIfS (dOr (dB (dOp eqD (dOp ixD (dVar 0) (dC (.int 2))) (dTup (dCons (dC (.str "true")) (dNil))))) (dB (dOp eqD (dOp ixD (dVar 1) (dC (.int 2))) (dTup (dCons (dC (.str "true")) (dNil)))))) (dRet (dC (.bl false))) (dNext)) (dRet (dAndV (dOp eqD (dOp ixD (dVar 0) (dC (.int 1))) (dOp ixD (dVar 1) (dC (.int 2)))) (dOp eqD (dOp ixD (dVar 0) (dC (.int 2))) (dOp ixD (dVar 1) (dC (.int 1))))))))
def N_law_turned : List Str := [Str.ofString "_law_draws_here", Str.ofString "_law_literal_here"]
def t_law_turned (sp_law_take : SpD) : DTS := dSeq (dIfS (dAnd (dB (dOp neD' (dOp ixD (dVar 1) (dC (.int 2))) (dTup (dCons (dC (.str "true")) (dNil))))) (dB (dOp eqD (dCall sp_law_take [] (dCons (dVar 0) (dCons (dC (.int 2)) (dNil)))) (dC (.int 1))))) (dRet (dTup (dCons (dOp ixD (dVar 1) (dC (.int 0))) (dCons (dOp ixD (dVar 1) (dC (.int 2))) (dCons (dOp ixD (dVar 1) (dC (.int 1))) (dNil)))))) (dNext)) (dRet (dVar 1))
def N_law_tautology : List Str := [Str.ofString "_law_clause_here", Str.ofString "_law_k", Str.ofString "_law_other"]
def t_law_tautology (sp_law_alike_c8d2 : SpD) : DTS := dSeq (dFor (diRng1 (dCons (dCB lenD (dCons (dVar 0) (dNil))) (dNil))) (dgName 1) (dSeq (dIfS (dAnd (dTru (dOp ixD (dOp ixD (dVar 0) (dVar 1)) (dC (.int 0)))) (dB (dOp eqD (dOp ixD (dOp ixD (dVar 0) (dVar 1)) (dC (.int 1))) (dOp ixD (dOp ixD (dVar 0) (dVar 1)) (dC (.int 2)))))) (dRet (dC (.bl true))) (dNext)) (dFor (diTup (dSl (dVar 0) (dPart (dOp addD (dVar 1) (dC (.int 1)))) (dNoPart))) (dgName 2) (dIfS (dTru (dCall sp_law_alike_c8d2 [] (dCons (dTup (dCons (dNotV (dOp ixD (dOp ixD (dVar 0) (dVar 1)) (dC (.int 0)))) (dCons (dOp ixD (dOp ixD (dVar 0) (dVar 1)) (dC (.int 1))) (dCons (dOp ixD (dOp ixD (dVar 0) (dVar 1)) (dC (.int 2))) (dNil))))) (dCons (dVar 2) (dNil))))) (dRet (dC (.bl true))) (dNext))))) (dRet (dC (.bl false)))

/-! literals, clauses -/
structure LitOk (l : D) : Prop where
  ex : ∃ b t u, l = .tup [.bl b, t, u] ∧ nbD t = true ∧ nbD u = true ∧ dep t ≤ 10 ∧ dep u ≤ 10
def lB : D → Bool
  | .tup (.bl b :: _) => b
  | _ => false
def lL : D → D
  | .tup (_ :: t :: _) => t
  | _ => .non
def lR : D → D
  | .tup (_ :: _ :: t :: _) => t
  | _ => .non
/-- alike but for the sign -/
def coreD (l o : D) : Bool := (deq (lL l) (lL o) && deq (lR l) (lR o)) || (!(deq (lR l) c_TRUE || deq (lR o) c_TRUE) && (deq (lL l) (lR o) && deq (lR l) (lL o)))
def alkD (l o : D) : Bool := (lB l == lB o) && coreD l o
def oppD (l o : D) : Bool := (lB l != lB o) && coreD l o
def tauL : List D → Bool
  | [] => false
  | l :: ls => ((lB l && deq (lL l) (lR l)) || ls.any (oppD l)) || tauL ls
theorem true_nb : nbD c_TRUE = true := by decide +kernel
theorem true_dep : dep c_TRUE = 1 := by decide +kernel
def sp_alike : SpD := fun ds h Q _ => ∃ l o, ds = [l, o] ∧ LitOk l ∧ LitOk o ∧ Q (.bl (alkD l o)) h
theorem ms_alike : MonoSp sp_alike := fun ds h Q Q' E k ⟨l, o, e, a, b, q⟩ => ⟨l, o, e, a, b, k _ _ q⟩
theorem r_alike (ds : List D) (h : DH) (Q : DK) (Ed : DXK) (up : Up Q) (q : sp_alike ds h Q Ed) : t_alike { nx := fun _ h' => Q .non h', rt := Q } (dstart N_alike ds) h := by
  obtain ⟨l, o, rfl, ⟨b, t, u, rfl, n1, n2, d1, d2⟩, ⟨c, v, w, rfl, n3, n4, d3, d4⟩, q⟩ := q
  have tr := true_nb
  have td := true_dep
  unfold t_alike N_alike
  walk_at "da"
  simp only [nb_eq n1 n3 (by omega), nb_eq n2 n4 (by omega), nb_eq n2 tr (by omega), nb_eq n4 tr (by omega), nb_eq n1 n4 (by omega), nb_eq n2 n3 (by omega)]
  walk_at "da"
  simp only [alkD, coreD, lB, lL, lR] at q
  cases b <;> cases c <;> (simp at q ⊢; repeat' split) <;> simp_all
theorem r_law_alike (ds : List D) (h : DH) (Q : DK) (Ed : DXK) (up : Up Q) (q : sp_alike ds h Q Ed) : t_law_alike_c8d2 { nx := fun _ h' => Q .non h', rt := Q } (dstart N_law_alike_c8d2 ds) h := by
  obtain ⟨l, o, rfl, ⟨b, t, u, rfl, n1, n2, d1, d2⟩, ⟨c, v, w, rfl, n3, n4, d3, d4⟩, q⟩ := q
  have tr := true_nb
  have td := true_dep
  unfold t_law_alike_c8d2 N_law_alike_c8d2
  walk_at "da"
  simp only [show D.tup [D.str (Str.ofString "true")] = c_TRUE from rfl, nb_eq n1 n3 (by omega), nb_eq n2 n4 (by omega), nb_eq n2 tr (by omega), nb_eq n4 tr (by omega), nb_eq n1 n4 (by omega), nb_eq n2 n3 (by omega)]
  walk_at "da"
  simp only [alkD, coreD, lB, lL, lR] at q
  cases b <;> cases c <;> (simp at q ⊢; repeat' split) <;> simp_all
def sp_opposite : SpD := fun ds h Q _ => ∃ l o, ds = [l, o] ∧ LitOk l ∧ LitOk o ∧ Q (.bl (oppD l o)) h
theorem ms_opposite : MonoSp sp_opposite := fun ds h Q Q' E k ⟨l, o, e, a, b, q⟩ => ⟨l, o, e, a, b, k _ _ q⟩
theorem r_opposite (ds : List D) (h : DH) (Q : DK) (Ed : DXK) (up : Up Q) (q : sp_opposite ds h Q Ed) : t_opposite sp_alike { nx := fun _ h' => Q .non h', rt := Q } (dstart N_opposite ds) h := by
  obtain ⟨l, o, rfl, ⟨b, t, u, rfl, n1, n2, d1, d2⟩, ⟨c, v, w, rfl, n3, n4, d3, d4⟩, q⟩ := q
  unfold t_opposite N_opposite
  walk_at "da"
  split
  · refine fun _ => ⟨_, _, rfl, ⟨c, t, u, rfl, n1, n2, d1, d2⟩, ⟨c, v, w, rfl, n3, n4, d3, d4⟩, ?_⟩
    simp only [alkD, oppD, coreD, lB, lL, lR] at q ⊢
    cases b <;> cases c <;> simp_all
  · simp only [oppD, lB] at q
    cases b <;> cases c <;> simp_all
/-! tautologies -/
def sp_taut : SpD := fun ds h Q _ => ∃ ls, ds = [.tup ls] ∧ (∀ l ∈ ls, LitOk l) ∧ Q (.bl (tauL ls)) h
theorem ms_taut : MonoSp sp_taut := fun ds h Q Q' E k ⟨l, e, a, q⟩ => ⟨l, e, a, k _ _ q⟩
theorem tauL_true {ls : List D} {i : Nat} {l : D} (e : ls[i]? = some l) (c : ((lB l && deq (lL l) (lR l)) || (ls.drop (i + 1)).any (oppD l)) = true) : tauL ls = true := by
  induction ls generalizing i with
  | nil => simp at e
  | cons x xs ih =>
    cases i with
    | zero =>
      simp at e; subst e
      simp only [tauL, Bool.or_eq_true] at *
      exact .inl (by simpa using c)
    | succ i => simp only [tauL, Bool.or_eq_true]; exact .inr (ih (by simpa using e) (by simpa using c))
theorem tauL_false {ls : List D} (c : ∀ (i : Nat) l, ls[i]? = some l → ((lB l && deq (lL l) (lR l)) || (ls.drop (i + 1)).any (oppD l)) = false) : tauL ls = false := by
  induction ls with
  | nil => rfl
  | cons x xs ih =>
    have a := c 0 x rfl
    have b := ih fun i l e => by simpa using c (i + 1) l (by simpa using e)
    simp only [tauL, Bool.or_eq_false_iff] at *
    exact ⟨by simpa using a, b⟩
theorem r_is_tautology (ds : List D) (h : DH) (Q : DK) (Ed : DXK) (up : Up Q) (q : sp_taut ds h Q Ed) : t_is_tautology sp_opposite { nx := fun _ h' => Q .non h', rt := Q } (dstart N_is_tautology ds) h := by
  obtain ⟨ls, rfl, ok, q⟩ := q
  unfold t_is_tautology N_is_tautology
  refine dSeq_cut (fun τ h' => h = h' ∧ ∀ (i : Nat) l, ls[i]? = some l → ((lB l && deq (lL l) (lR l)) || (ls.drop (i + 1)).any (oppD l)) = false) (fun nx hnx => ?_) ?_
  · refine dFor_of (items := rangeD 0 ls.length) (st := fun _ => True) (h1 := h) (fun i τ h' => h = h' ∧ (∀ (j : Nat) l, j < i → ls[j]? = some l → ((lB l && deq (lL l) (lR l)) || (ls.drop (j + 1)).any (oppD l)) = false) ∧ ∃ x y z, τ = [some (.tup ls), x, y, z]) (fun R r => ?_) ⟨rfl, fun j l z => absurd z (Nat.not_lt_zero _), _, _, _, rfl⟩ (fun _ _ _ _ => trivial) ?_ ?_
    · walk_at "dl"
      exact fun l => ⟨(line62 l).1, (line62 l).2, r⟩
    · rintro i d τ _ ei ⟨rfl, ih, x, y, z, rfl⟩
      obtain ⟨hi, rfl⟩ := rangeD_get ei
      have el : ls[i]? = some ls[i] := List.getElem?_eq_getElem hi
      generalize ls[i] = l at el
      have lo := ok l (List.mem_of_getElem? el)
      obtain ⟨b, t, u, rfl, n1, n2, d1, d2⟩ := lo
      have lo : LitOk (.tup [.bl b, t, u]) := ⟨b, t, u, rfl, n1, n2, d1, d2⟩
      refine dSeq_go ?_
      walk_at "ds"
      refine ⟨_, by rw [show (0 : Int) + (i : Nat) = (i : Nat) by omega]; exact atI_nat el, ?_⟩
      refine dSeq_cut (fun τ h' => h = h' ∧ (b && deq t u) = false ∧ τ = [some (.tup ls), some (.int (0 + (i : Nat))), some (.tup [.bl b, t, u]), z]) (fun nx2 hnx2 => ?_) ?_
      · walk_at "da"
        simp only [nb_eq n1 n2 (by omega)]
        walk_at "da"
        have q2 : (b && deq t u) = true → Q (.bl true) h := fun z => by
          rw [tauL_true el (by simp only [lB, lL, lR, z, Bool.true_or])] at q
          exact q
        cases b with
        | false => exact hnx2 _ _ ⟨rfl, rfl, rfl⟩
        | true =>
          cases c : deq t u with
          | true => rw [if_pos rfl, if_pos rfl]; exact q2 (by rw [c]; rfl)
          | false => exact hnx2 _ _ ⟨rfl, by rw [c]; rfl, rfl⟩
      · rintro τ _ ⟨rfl, b0, rfl⟩
        refine dFor_of (items := ls.drop (i + 1)) (st := fun _ => True) (h1 := h) (fun j τ h' => h = h' ∧ ((ls.drop (i + 1)).take j).any (oppD (.tup [.bl b, t, u])) = false ∧ ∃ z, τ = [some (.tup ls), some (.int (0 + (i : Nat))), some (.tup [.bl b, t, u]), z]) (fun R r => ?_) ⟨rfl, by simp, _, rfl⟩ (fun _ _ _ _ => trivial) ?_ ?_
        · walk_at "dl"
          rw [show (0 : Int) + (i : Nat) + 1 = ((i + 1 : Nat) : Int) by omega, cutD_nat]
          exact r
        · rintro j o τ _ ej ⟨rfl, an, z, rfl⟩
          have oo : LitOk o := ok o (List.mem_of_mem_drop (List.mem_of_getElem? ej))
          walk_at "dl"
          refine fun _ => ⟨_, o, rfl, lo, oo, ?_⟩
          walk_at "dl"
          cases c : oppD (.tup [.bl b, t, u]) o with
          | true =>
            rw [if_pos rfl]
            rw [tauL_true el (by
              rw [Bool.or_eq_true]
              right
              rw [List.any_eq_true]
              exact ⟨o, List.mem_of_getElem? ej, c⟩)] at q
            exact q
          | false =>
            rw [if_neg (by decide), List.take_succ, ej, List.any_append, an]
            simp [c]
        · rintro τ _ ⟨rfl, an, z, rfl⟩
          rw [List.take_length] at an
          refine ⟨rfl, fun j l2 lj e2 => ?_, _, _, _, rfl⟩
          by_cases ji : j = i
          · subst ji
            rw [el] at e2
            cases e2
            simp only [lB, lL, lR]
            rw [b0, an]; rfl
          · exact ih j l2 (by omega) e2
    · rintro τ _ ⟨rfl, ih, x, y, z, rfl⟩
      rw [rangeD_length] at ih
      exact hnx _ _ ⟨rfl, fun i l e => ih i l (List.getElem?_eq_some_iff.mp e).1 e⟩
  · rintro τ _ ⟨rfl, ih⟩
    walk_at "dl"
    rw [tauL_false ih] at q
    exact q
/-! _law_tautology -/
theorem opp_alk {b c : Bool} {t u v w : D} : alkD (.tup [.bl (!b), t, u]) (.tup [.bl c, v, w]) = oppD (.tup [.bl b, t, u]) (.tup [.bl c, v, w]) := by
  unfold alkD oppD coreD lB lL lR
  cases b <;> cases c <;> rfl
theorem LitOk.sign {b c : Bool} {t u : D} (h : LitOk (.tup [.bl b, t, u])) : LitOk (.tup [.bl c, t, u]) := by
  obtain ⟨b', t', u', e, n1, n2, d1, d2⟩ := h
  cases e
  exact ⟨c, t, u, rfl, n1, n2, d1, d2⟩
theorem r_law_tautology (ds : List D) (h : DH) (Q : DK) (Ed : DXK) (up : Up Q) (q : sp_taut ds h Q Ed) : t_law_tautology sp_alike { nx := fun _ h' => Q .non h', rt := Q } (dstart N_law_tautology ds) h := by
  obtain ⟨ls, rfl, ok, q⟩ := q
  unfold t_law_tautology N_law_tautology
  refine dSeq_cut (fun τ h' => h = h' ∧ ∀ (i : Nat) l, ls[i]? = some l → ((lB l && deq (lL l) (lR l)) || (ls.drop (i + 1)).any (oppD l)) = false) (fun nx hnx => ?_) ?_
  · refine dFor_of (items := rangeD 0 ls.length) (st := fun _ => True) (h1 := h) (fun i τ h' => h = h' ∧ (∀ (j : Nat) l, j < i → ls[j]? = some l → ((lB l && deq (lL l) (lR l)) || (ls.drop (j + 1)).any (oppD l)) = false) ∧ ∃ x y, τ = [some (.tup ls), x, y]) (fun R r => ?_) ⟨rfl, fun j l z => absurd z (Nat.not_lt_zero _), _, _, rfl⟩ (fun _ _ _ _ => trivial) ?_ ?_
    · walk_at "dl"
      exact fun l => ⟨(line62 l).1, (line62 l).2, r⟩
    · rintro i d τ _ ei ⟨rfl, ih, x, y, rfl⟩
      obtain ⟨hi, rfl⟩ := rangeD_get ei
      have el : ls[i]? = some ls[i] := List.getElem?_eq_getElem hi
      generalize ls[i] = l at el
      have lo := ok l (List.mem_of_getElem? el)
      obtain ⟨b, t, u, rfl, n1, n2, d1, d2⟩ := lo
      have lo : LitOk (.tup [.bl b, t, u]) := ⟨b, t, u, rfl, n1, n2, d1, d2⟩
      have ai : atI ls (0 + (i : Nat)) = some (.tup [.bl b, t, u]) := by rw [show (0 : Int) + (i : Nat) = (i : Nat) by omega]; exact atI_nat el
      refine dSeq_cut (fun τ h' => h = h' ∧ (b && deq t u) = false ∧ τ = [some (.tup ls), some (.int (0 + (i : Nat))), y]) (fun nx2 hnx2 => ?_) ?_
      · walk_at "da"
        simp only [ai, Option.some.injEq, exists_eq_left']
        walk_at "da"
        simp only [nb_eq n1 n2 (by omega)]
        walk_at "da"
        have q2 : (b && deq t u) = true → Q (.bl true) h := fun z => by
          rw [tauL_true el (by simp only [lB, lL, lR, z, Bool.true_or])] at q
          exact q
        cases b with
        | false => exact hnx2 _ _ ⟨rfl, rfl, rfl⟩
        | true =>
          cases c : deq t u with
          | true => rw [if_pos rfl, if_pos rfl]; exact q2 (by rw [c]; rfl)
          | false => exact hnx2 _ _ ⟨rfl, by rw [c]; rfl, rfl⟩
      · rintro τ _ ⟨rfl, b0, rfl⟩
        refine dFor_of (items := ls.drop (i + 1)) (st := fun _ => True) (h1 := h) (fun j τ h' => h = h' ∧ ((ls.drop (i + 1)).take j).any (oppD (.tup [.bl b, t, u])) = false ∧ ∃ z, τ = [some (.tup ls), some (.int (0 + (i : Nat))), z]) (fun R r => ?_) ⟨rfl, by simp, _, rfl⟩ (fun _ _ _ _ => trivial) ?_ ?_
        · walk_at "dl"
          rw [show (0 : Int) + (i : Nat) + 1 = ((i + 1 : Nat) : Int) by omega, cutD_nat]
          exact r
        · rintro j o τ _ ej ⟨rfl, an, z, rfl⟩
          have oo : LitOk o := ok o (List.mem_of_mem_drop (List.mem_of_getElem? ej))
          walk_at "da"
          simp only [ai, Option.some.injEq, exists_eq_left']
          walk_at "da"
          obtain ⟨c, v, w, rfl, _⟩ := oo.ex
          refine fun _ => ⟨_, _, rfl, lo.sign, oo, ?_⟩
          rw [opp_alk]
          walk_at "dl"
          cases c : oppD (.tup [.bl b, t, u]) (.tup [.bl c, v, w]) with
          | true =>
            rw [if_pos rfl]
            rw [tauL_true el (by
              rw [Bool.or_eq_true]
              right
              rw [List.any_eq_true]
              exact ⟨_, List.mem_of_getElem? ej, c⟩)] at q
            exact q
          | false =>
            rw [if_neg (by decide), List.take_succ, ej, List.any_append, an]
            simp [c]
        · rintro τ _ ⟨rfl, an, z, rfl⟩
          rw [List.take_length] at an
          refine ⟨rfl, fun j l2 lj e2 => ?_, _, _, rfl⟩
          by_cases ji : j = i
          · subst ji
            rw [el] at e2
            cases e2
            simp only [lB, lL, lR]
            rw [b0, an]; rfl
          · exact ih j l2 (by omega) e2
    · rintro τ _ ⟨rfl, ih, x, y, rfl⟩
      rw [rangeD_length] at ih
      exact hnx _ _ ⟨rfl, fun i l e => ih i l (List.getElem?_eq_some_iff.mp e).1 e⟩
  · rintro τ _ ⟨rfl, ih⟩
    walk_at "dl"
    rw [tauL_false ih] at q
    exact q
/-! drawn literals -/
def sp_turned : SpD := fun ds h Q _ => ∃ a l, ds = [.ref a, l] ∧ IsDeck h a ∧ LitOk l ∧ ∀ l' h', LitOk l' → Dq a h h' → Q l' h'
theorem ms_turned : MonoSp sp_turned := fun ds h Q Q' E k ⟨a, l, e, d, o, q⟩ => ⟨a, l, e, d, o, fun l' h' x y => k _ _ (q l' h' x y)⟩
theorem r_turned (ds : List D) (h : DH) (Q : DK) (Ed : DXK) (up : Up Q) (q : sp_turned ds h Q Ed) : t_law_turned sp_take { nx := fun _ h' => Q .non h', rt := Q } (dstart N_law_turned ds) h := by
  obtain ⟨a, l, rfl, hd, lo, q⟩ := q
  obtain ⟨b, t, u, rfl, n1, n2, d1, d2⟩ := lo
  have tr := true_nb
  have td := true_dep
  unfold t_law_turned N_law_turned
  walk_at "da"
  simp only [show D.tup [D.str (Str.ofString "true")] = c_TRUE from rfl, nb_ne n2 tr (by omega)]
  walk_at "da"
  have k0 : LitOk (.tup [.bl b, t, u]) := ⟨b, t, u, rfl, n1, n2, d1, d2⟩
  have k1 : LitOk (.tup [.bl b, u, t]) := ⟨b, u, t, rfl, n2, n1, d2, d1⟩
  split
  · refine fun _ => ⟨a, 2, rfl, hd, by decide, fun v h1 v0 v1 dk => ?_⟩
    walk_at "da"
    split
    · exact q _ _ k1 dk.dq
    · exact q _ _ k0 dk.dq
  · exact q _ _ k0 (.refl hd)
def sp_literal : SpD := fun ds h Q _ => ∃ a b ws, ds = [.ref a, .ref b] ∧ IsDeck h a ∧ h b = some (.lst (List.map D.str ws)) ∧ 9 ≤ ws.length ∧ (∀ w ∈ ws, PyData.strOk w = true) ∧ ∀ l h', LitOk l → Dq a h h' → Q l h'
theorem ms_literal : MonoSp sp_literal := fun ds h Q Q' E k ⟨a, b, ws, e, d, f, l, g, q⟩ => ⟨a, b, ws, e, d, f, l, g, fun t h' x y => k _ _ (q t h' x y)⟩
theorem tm_lit {ws : List Str} {n : Nat} {t : D} (okw : ∀ w ∈ ws, PyData.strOk w = true) (h : TmW Vi ws n t) (l : n ≤ 9) : nbD t = true ∧ dep t ≤ 9 := ⟨h.nb (fun _ => Vi.nb) okw, Nat.le_trans (h.dep fun _ => Vi.dep) l⟩
theorem r_literal (ds : List D) (h : DH) (Q : DK) (Ed : DXK) (up : Up Q) (q : sp_literal ds h Q Ed) : t_law_literal_9245 sp_take (sp_term 10) { nx := fun _ h' => Q .non h', rt := Q } (dstart N_law_literal_9245 ds) h := by
  obtain ⟨a, b, ws, rfl, hd, hb, hl, okw, q⟩ := q
  have ba := words_ne hd hb (by omega)
  have tr := true_nb
  have td := true_dep
  have td2 : dep (D.tup [D.str (Str.ofString "true")]) ≤ 10 := by decide +kernel
  unfold t_law_literal_9245 N_law_literal_9245
  refine dSeq_go ?_
  walk_at "ds"
  refine fun _ => ⟨a, 2, rfl, hd, by decide, fun v h1 v0 v1 k1 => ?_⟩
  walk_at "ds"
  refine dSeq_go ?_
  walk_at "ds"
  refine fun _ => ⟨a, 8, rfl, k1.deck, by decide, fun kd h2 kd0 kd1 k2 => ?_⟩
  have d2 := k1.dq.trans k2.dq
  refine dSeq_cut (fun τ h' => h2 = h' ∧ 3 ≤ kd ∧ τ = [some (.ref a), some (.ref b), some (.bl (decide (v = 1))), some (.int kd), none, none, none]) (fun nx hnx => ?_) ?_
  · refine dIfS_ev (decide (kd < 3)) (fun Q q => ?_) (fun lt => ?_) (fun ge => hnx _ _ ⟨rfl, by simpa using ge, rfl⟩)
    · walk_at "dl"
      exact q
    · have lt : kd < 3 := by simpa using lt
      refine dSeq_go ?_
      simp only [dAsg]
      refine dLc_any (items := rangeD 0 kd.toNat) (st := fun _ => True) (h1 := h2) (fun p i h' => ∃ acc, acc.length = i ∧ (∀ x ∈ acc, nbD x = true ∧ dep x ≤ 9) ∧ Dq a h h' ∧ h' p = some (.lst acc))
        (fun R r => by walk_at "dl"; exact ⟨by omega, by omega, r⟩) (fun _ _ _ _ => trivial) (fun p n => ⟨[], rfl, by simp, d2.new n, updD_same⟩) ?_ ?_
      · rintro p pn i d h3 ei ⟨acc, l, ok, dq, ep⟩
        have hi := (rangeD_get ei).1
        simp only [wipeD]
        walk_at "dl"
        refine fun _ => ⟨a, b, 2, ws, rfl, dq.deck, dq.at ba hb, by omega, by decide, by decide, fun t h4 tm q4 => ?_⟩
        have pa := deck_ne k2.deck pn
        have hp : h p = none := by
          cases e : h p with
          | none => rfl
          | some o => rw [d2.at pa e] at pn; cases pn
        refine ⟨acc, q4.at pa ep, by rw [sizeLine_eq]; omega, acc ++ [t], by simp [l], ?_, (dq.trans q4).mut hp pa, rfl⟩
        intro x hx
        rcases List.mem_append.mp hx with hx | hx
        · exact ok x hx
        · have : x = t := by simpa using hx
          subst this
          exact tm_lit okw tm (by decide)
      · rintro p pn h3 ⟨acc, l, ok, dq, ep⟩
        rw [rangeD_length] at l
        walk_at "da"
        obtain ⟨w, mw, _, aw⟩ := atI_strs (ws := ws) (i := 6 + kd) (by omega) (by omega)
        refine ⟨_, dq.at ba hb, .str w, aw, acc, ep, by rw [sizeLine_eq]; omega, ?_⟩
        refine q _ _ ⟨_, _, _, rfl, ?_, tr, ?_, td2⟩ dq
        · simp only [nbD, nbDs, Bool.and_eq_true]
          exact ⟨okw _ mw, nbs_all fun x hx => (ok x hx).1⟩
        · have := deps_all (n := 9) fun x hx => (ok x hx).2
          simp only [dep, deps]; omega
  · rintro τ _ ⟨rfl, ge, rfl⟩
    refine dSeq_cut (fun τ h' => Dq a h h' ∧ τ = [some (.ref a), some (.ref b), some (.bl (decide (v = 1))), some (.int kd), none, none, none]) (fun nx hnx => ?_) ?_
    · walk_at "da"
      have rest : ∀ h', Dq a h h' → nx [some (.ref a), some (.ref b), some (.bl (decide (v = 1))), some (.int kd), none, none, none] h' := fun h' z => hnx _ _ ⟨z, rfl⟩
      split
      · refine fun _ => ⟨a, 4, rfl, k2.deck, by decide, fun w h3 w0 w1 k3 => ?_⟩
        walk_at "da"
        split
        · exact q _ _ ⟨_, _, _, rfl, tr, tr, td2, td2⟩ (d2.trans k3.dq)
        · exact rest _ (d2.trans k3.dq)
      · exact rest _ d2
    · rintro τ h3 ⟨d3, rfl⟩
      walk_at "da"
      refine fun _ => ⟨a, b, 2, ws, rfl, d3.deck, d3.at ba hb, by omega, by decide, by decide, fun t h4 tm q4 => ?_⟩
      have d4 := d3.trans q4
      walk_at "da"
      refine fun _ => ⟨a, b, 2, ws, rfl, d4.deck, d4.at ba hb, by omega, by decide, by decide, fun u h5 um q5 => ?_⟩
      have a1 := tm_lit okw tm (by decide)
      have a2 := tm_lit okw um (by decide)
      exact q _ _ ⟨_, _, _, rfl, a1.1, a2.1, by omega, by omega⟩ (d4.trans q5)
def sp_clause : SpD := fun ds h Q _ => ∃ a b m ws, ds = [.ref a, .ref b, .int m] ∧ IsDeck h a ∧ h b = some (.lst (List.map D.str ws)) ∧ 9 ≤ ws.length ∧ (∀ w ∈ ws, PyData.strOk w = true) ∧ 0 ≤ m ∧ m ≤ 1000 ∧ ∀ ls h', (ls.length : Int) ≤ m → (∀ l ∈ ls, LitOk l) → Dq a h h' → Q (.tup ls) h'
theorem ms_clause : MonoSp sp_clause := fun ds h Q Q' E k ⟨a, b, m, ws, e, d, f, l, g, m0, m1, q⟩ => ⟨a, b, m, ws, e, d, f, l, g, m0, m1, fun t h' x y z => k _ _ (q t h' x y z)⟩
theorem r_clause (ds : List D) (h : DH) (Q : DK) (Ed : DXK) (up : Up Q) (q : sp_clause ds h Q Ed) : t_law_clause_7bab sp_take sp_literal { nx := fun _ h' => Q .non h', rt := Q } (dstart N_law_clause_7bab ds) h := by
  obtain ⟨a, b, m, ws, rfl, hd, hb, hl, okw, m0, m1, q⟩ := q
  have ba := words_ne hd hb (by omega)
  unfold t_law_clause_7bab N_law_clause_7bab dLc
  walk_at "da"
  refine fun _ => ⟨a, m + 1, rfl, hd, by omega, fun v h1 v0 v1 k1 => ⟨_, rfl, by omega, by omega, fun p np => ?_⟩⟩
  refine ⟨fun i h' => ∃ acc, acc.length = i ∧ (∀ x ∈ acc, LitOk x) ∧ Dq a h h' ∧ h' p = some (.lst acc), ⟨[], rfl, by simp, k1.dq.new np, updD_same⟩, fun _ _ _ => trivial, ?_, ?_⟩
  · rintro i d h2 ei ⟨acc, l, ok, dq, ep⟩
    have hi := (rangeD_get ei).1
    have pa := deck_ne k1.deck np
    have hp := k1.dq.none pa np
    simp only [wipeD]
    walk_at "da"
    refine fun _ => ⟨a, b, ws, rfl, dq.deck, dq.at ba hb, hl, okw, fun t h4 lt q4 => ?_⟩
    refine ⟨acc, q4.at pa ep, by rw [sizeLine_eq]; omega, acc ++ [t], by simp [l], ?_, (dq.trans q4).mut hp pa, rfl⟩
    intro x hx
    rcases List.mem_append.mp hx with hx | hx
    · exact ok x hx
    · have : x = t := by simpa using hx
      subst this
      exact lt
  · rintro h2 ⟨acc, l, ok, dq, ep⟩
    rw [rangeD_length] at l
    exact ⟨_, ep, q _ _ (by omega) ok dq⟩

end DL

namespace DL
open PySem PySem.Spec PyProof.Rows L2
local macro_rules | `(tactic| walk_at "dl") => `(tactic| simp only [dSeq, dIfS, dTru, dB, dNot, dAnd, dOr, dVar, dC, dOp, dCall, dCons, dNil, dRet, dRetN, dAsg, dgName, dNext, dDrop, dDNew, dDGet, dDGetF, dDIn, dDNotIn, dDPut, dDDel, dDGet1, dDGet2, dFld, dSetF, dMeth, dMake, indexD2, dCBK, dLstRevT, dCallN, gK, cond_true, cond_false, Option.toList_some, diItems, diKeys, diVals, diZip, diEnum, listKD, eqKD, dPairs, keyed, popAtD, insertD, reverseD, dRaise, dRetX, dAsgX, dDropX, dCallX, dPureX, dXf, List.zip_cons_cons, List.zip_nil_right, List.zip_nil_left, List.reverse_cons, List.reverse_nil, dCB, dBM, dTup, dLst, dSl, dPart, dNoPart, dNotV, dAndV, dOrV, dIf, dNeg, diTup, diLst, diSeq, seqI_tup, seqI_lsv, seqI_ref, diRng1, diRng2, addD_int, addD_str, addD_tup, addD_ref, subD_int, mulD_int, fdivD_int, modD_int, powD_int, ltD_int, ltD_str, leD_int, gtD_int, geD_int, isD_non, isNotD_non, truD_non, truD_bl, truD_int, truD_str, truD_tup, truD_lsv, slD_tup, slD_str, slD_ref, slD_lsv, ixD_tup, ixD_lsv, ixD_str, ixD_ref, lenD_tup, lenD_lsv, lenD_str, lenD_ref, absD_int, intD_int, max2D_int, min2D_int, listD_tup, listD_lsv, listD_ref, tupleD_tup, tupleD_ref, isNon, dstart, dYes, lenOD, inOD, dMethX, dIxX, dLstX, dConsX, dNilX, lenKD,
  List.map_cons, List.map_nil, List.length_cons, List.length_nil, List.nil_append, List.cons_append, List.append_nil, List.set_cons_zero, List.set_cons_succ, List.getElem?_cons_zero, List.getElem?_cons_succ, Option.some.injEq, exists_eq_left', exists_eq_left, exists_eq_right, exists_eq, exists_eq', List.cons.injEq, and_true, true_and, D.int.injEq, D.str.injEq, D.bl.injEq, D.tup.injEq, D.ref.injEq, D.ty.injEq, forall_eq', forall_eq, imp_self, forall_const, exists_and_left, exists_const, isL, appendD, popD, updD_same, updD_updD, DO.lst.injEq, eqD_int, neD_int, eqD_bl, neD_bl, cutD_1,
  decide_eq_true_eq, Bool.not_eq_true', decide_eq_false_iff_not, List.reduceReplicate, Nat.reduceAdd, Nat.reduceSub, Nat.reduceMul, Bool.false_eq_true, Bool.true_eq_false, if_false, if_true, reduceIte])
local macro_rules | `(tactic| walk_at "ds") => `(tactic| simp only [dIfS, dTru, dB, dNot, dAnd, dOr, dVar, dC, dOp, dCall, dCons, dNil, dRet, dRetN, dAsg, dgName, dNext, dDrop, dDNew, dDGet, dDGetF, dDIn, dDNotIn, dDPut, dDDel, dDGet1, dDGet2, dFld, dSetF, dMeth, dMake, indexD2, dCBK, dLstRevT, dCallN, gK, cond_true, cond_false, Option.toList_some, diItems, diKeys, diVals, diZip, diEnum, listKD, eqKD, dPairs, keyed, popAtD, insertD, reverseD, dRaise, dRetX, dAsgX, dDropX, dCallX, dPureX, dXf, List.zip_cons_cons, List.zip_nil_right, List.zip_nil_left, List.reverse_cons, List.reverse_nil, dCB, dBM, dTup, dLst, dSl, dPart, dNoPart, dNotV, dAndV, dOrV, dIf, dNeg, diTup, diLst, diSeq, seqI_tup, seqI_lsv, seqI_ref, diRng1, diRng2, addD_int, addD_str, addD_tup, addD_ref, subD_int, mulD_int, fdivD_int, modD_int, powD_int, ltD_int, ltD_str, leD_int, gtD_int, geD_int, isD_non, isNotD_non, truD_non, truD_bl, truD_int, truD_str, truD_tup, truD_lsv, slD_tup, slD_str, slD_ref, slD_lsv, ixD_tup, ixD_lsv, ixD_str, ixD_ref, lenD_tup, lenD_lsv, lenD_str, lenD_ref, absD_int, intD_int, max2D_int, min2D_int, listD_tup, listD_lsv, listD_ref, tupleD_tup, tupleD_ref, isNon, dstart, dYes, lenOD, inOD, dMethX, dIxX, dLstX, dConsX, dNilX, lenKD,
  List.map_cons, List.map_nil, List.length_cons, List.length_nil, List.nil_append, List.cons_append, List.append_nil, List.set_cons_zero, List.set_cons_succ, List.getElem?_cons_zero, List.getElem?_cons_succ, Option.some.injEq, exists_eq_left', exists_eq_left, exists_eq_right, exists_eq, exists_eq', List.cons.injEq, and_true, true_and, D.int.injEq, D.str.injEq, D.bl.injEq, D.tup.injEq, D.ref.injEq, D.ty.injEq, forall_eq', forall_eq, imp_self, forall_const, exists_and_left, exists_const, isL, appendD, popD, updD_same, updD_updD, DO.lst.injEq, eqD_int, neD_int, eqD_bl, neD_bl, cutD_1,
  decide_eq_true_eq, Bool.not_eq_true', decide_eq_false_iff_not, List.reduceReplicate, Nat.reduceAdd, Nat.reduceSub, Nat.reduceMul, Bool.false_eq_true, Bool.true_eq_false, if_false, if_true, reduceIte])
local macro_rules | `(tactic| walk_at "da") => `(tactic| simp only [dSeq, dIfS, dTru, dB, dNot, dAnd, dOr, dVar, dC, dOp, dCall, dCons, dNil, dRet, dRetN, dAsg, dgName, dNext, dDrop, dDNew, dDGet, dDGetF, dDIn, dDNotIn, dDPut, dDDel, dDGet1, dDGet2, dFld, dSetF, dMeth, dMake, indexD2, dCBK, dLstRevT, dCallN, gK, cond_true, cond_false, Option.toList_some, diItems, diKeys, diVals, diZip, diEnum, listKD, eqKD, dPairs, keyed, popAtD, insertD, reverseD, dRaise, dRetX, dAsgX, dDropX, dCallX, dPureX, dXf, List.zip_cons_cons, List.zip_nil_right, List.zip_nil_left, List.reverse_cons, List.reverse_nil, dCB, dBM, dTup, dLst, dSl, dPart, dNoPart, dNotV, dAndV, dOrV, dIf, dNeg, diTup, diLst, diSeq, seqI_tup, seqI_lsv, seqI_ref, diRng1, diRng2, addD_int, addD_str, addD_tup, addD_ref, subD_int, mulD_int, fdivD_int, modD_int, powD_int, ltD_int, ltD_str, leD_int, gtD_int, geD_int, isD_non, isNotD_non, truD_non, truD_bl, truD_int, truD_str, truD_tup, truD_lsv, slD_tup, slD_str, slD_ref, slD_lsv, ixD_tup, ixD_lsv, ixD_str, ixD_ref, lenD_tup, lenD_lsv, lenD_str, lenD_ref, absD_int, intD_int, max2D_int, min2D_int, listD_tup, listD_lsv, listD_ref, tupleD_tup, tupleD_ref, isNon, dstart, dYes, lenOD, inOD, dMethX, dIxX, dLstX, dConsX, dNilX, lenKD,
  List.map_cons, List.map_nil, List.length_cons, List.length_nil, List.nil_append, List.cons_append, List.append_nil, List.set_cons_zero, List.set_cons_succ, List.getElem?_cons_zero, List.getElem?_cons_succ, Option.some.injEq, exists_eq_left', exists_eq_left, exists_eq_right, exists_eq, exists_eq', List.cons.injEq, and_true, true_and, D.int.injEq, D.str.injEq, D.bl.injEq, D.tup.injEq, D.ref.injEq, D.ty.injEq, forall_eq', forall_eq, imp_self, forall_const, exists_and_left, exists_const, isL, appendD, popD, updD_same, updD_updD, DO.lst.injEq, atI_0, atI_1, atI_2, atI_3, atI_4, sz1, sz2, sz3, sz4, sz5, sz6, eqD_int, neD_int, eqD_bl, neD_bl, cutD_1,
  decide_eq_true_eq, Bool.not_eq_true', decide_eq_false_iff_not, List.reduceReplicate, Nat.reduceAdd, Nat.reduceSub, Nat.reduceMul, Bool.false_eq_true, Bool.true_eq_false, if_false, if_true, reduceIte])
local macro_rules | `(tactic| walk_at "dz") => `(tactic| simp only [dIfS, dTru, dB, dNot, dAnd, dOr, dVar, dC, dOp, dCall, dCons, dNil, dRet, dRetN, dAsg, dgName, dNext, dDrop, dDNew, dDGet, dDGetF, dDIn, dDNotIn, dDPut, dDDel, dDGet1, dDGet2, dFld, dSetF, dMeth, dMake, indexD2, dCBK, dLstRevT, dCallN, gK, cond_true, cond_false, Option.toList_some, diItems, diKeys, diVals, diZip, diEnum, listKD, eqKD, dPairs, keyed, popAtD, insertD, reverseD, dRaise, dRetX, dAsgX, dDropX, dCallX, dPureX, dXf, List.zip_cons_cons, List.zip_nil_right, List.zip_nil_left, List.reverse_cons, List.reverse_nil, dCB, dBM, dTup, dLst, dSl, dPart, dNoPart, dNotV, dAndV, dOrV, dIf, dNeg, diTup, diLst, diSeq, seqI_tup, seqI_lsv, seqI_ref, diRng1, diRng2, addD_int, addD_str, addD_tup, addD_ref, subD_int, mulD_int, fdivD_int, modD_int, powD_int, ltD_int, ltD_str, leD_int, gtD_int, geD_int, isD_non, isNotD_non, truD_non, truD_bl, truD_int, truD_str, truD_tup, truD_lsv, slD_tup, slD_str, slD_ref, slD_lsv, ixD_tup, ixD_lsv, ixD_str, ixD_ref, lenD_tup, lenD_lsv, lenD_str, lenD_ref, absD_int, intD_int, max2D_int, min2D_int, listD_tup, listD_lsv, listD_ref, tupleD_tup, tupleD_ref, isNon, dstart, dYes, lenOD, inOD, dMethX, dIxX, dLstX, dConsX, dNilX, lenKD,
  List.map_cons, List.map_nil, List.length_cons, List.length_nil, List.nil_append, List.cons_append, List.append_nil, List.set_cons_zero, List.set_cons_succ, List.getElem?_cons_zero, List.getElem?_cons_succ, Option.some.injEq, exists_eq_left', exists_eq_left, exists_eq_right, exists_eq, exists_eq', List.cons.injEq, and_true, true_and, D.int.injEq, D.str.injEq, D.bl.injEq, D.tup.injEq, D.ref.injEq, D.ty.injEq, forall_eq', forall_eq, imp_self, forall_const, exists_and_left, exists_const, isL, appendD, popD, updD_same, updD_updD, DO.lst.injEq, atI_0, atI_1, atI_2, atI_3, atI_4, sz1, sz2, sz3, sz4, sz5, sz6, eqD_int, neD_int, eqD_bl, neD_bl, cutD_1,
  decide_eq_true_eq, Bool.not_eq_true', decide_eq_false_iff_not, List.reduceReplicate, Nat.reduceAdd, Nat.reduceSub, Nat.reduceMul, Bool.false_eq_true, Bool.true_eq_false, if_false, if_true, reduceIte])
local macro_rules | `(tactic| walk_at "dw") => `(tactic| simp only [dIfS, dTru, dB, dNot, dAnd, dOr, dVar, dC, dOp, dCall, dCons, dNil, dRet, dRetN, dAsg, dgName, dNext, dDrop, dDNew, dDGet, dDGetF, dDIn, dDNotIn, dDPut, dDDel, dDGet1, dDGet2, dFld, dSetF, dMeth, dMake, indexD2, dCBK, dLstRevT, dCallN, gK, cond_true, cond_false, Option.toList_some, diItems, diKeys, diVals, diZip, diEnum, listKD, eqKD, dPairs, keyed, popAtD, insertD, reverseD, dRaise, dRetX, dAsgX, dDropX, dCallX, dPureX, dXf, List.zip_cons_cons, List.zip_nil_right, List.zip_nil_left, List.reverse_cons, List.reverse_nil, dCB, dBM, dTup, dLst, dSl, dPart, dNoPart, dNotV, dAndV, dOrV, dIf, dNeg, diTup, diLst, diSeq, seqI_tup, seqI_lsv, seqI_ref, diRng1, diRng2, addD_int, addD_str, addD_tup, addD_ref, subD_int, mulD_int, fdivD_int, modD_int, powD_int, ltD_int, ltD_str, leD_int, gtD_int, geD_int, isD_non, isNotD_non, truD_non, truD_bl, truD_int, truD_str, truD_tup, truD_lsv, slD_tup, slD_str, slD_ref, slD_lsv, ixD_tup, ixD_lsv, ixD_str, ixD_ref, lenD_tup, lenD_lsv, lenD_str, lenD_ref, absD_int, intD_int, max2D_int, min2D_int, listD_tup, listD_lsv, listD_ref, tupleD_tup, tupleD_ref, isNon, dstart, dYes, lenOD, inOD, dMethX, dIxX, dLstX, dConsX, dNilX, lenKD,
  List.map_cons, List.map_nil, List.length_cons, List.length_nil, List.nil_append, List.cons_append, List.append_nil, List.set_cons_zero, List.set_cons_succ, List.getElem?_cons_zero, List.getElem?_cons_succ, Option.some.injEq, exists_eq_left', exists_eq_left, exists_eq_right, exists_eq, exists_eq', List.cons.injEq, and_true, true_and, D.int.injEq, D.str.injEq, D.bl.injEq, D.tup.injEq, D.ref.injEq, D.ty.injEq, forall_eq', forall_eq, imp_self, forall_const, exists_and_left, exists_const, isL, appendD, popD, updD_same, updD_updD, DO.lst.injEq, atI_0, atI_1, atI_2, atI_3, atI_4, sz1, sz2, sz3, sz4, sz5, sz6, eqD_int, neD_int, eqD_bl, neD_bl, cutD_1,
  decide_eq_true_eq, Bool.not_eq_true', decide_eq_false_iff_not, List.reduceReplicate, Nat.reduceAdd, Nat.reduceSub, Nat.reduceMul, Bool.false_eq_true, Bool.true_eq_false, if_false, if_true, reduceIte, dgSub, setD, ix4s, ix5s, atI_0, atI_1, atI_2, atI_3, atI_4, *])
local macro_rules | `(tactic| walk_at "dv") => `(tactic| simp only [dSeq, dIfS, dTru, dB, dNot, dAnd, dOr, dVar, dC, dOp, dCall, dCons, dNil, dRet, dRetN, dAsg, dgName, dNext, dDrop, dDNew, dDGet, dDGetF, dDIn, dDNotIn, dDPut, dDDel, dDGet1, dDGet2, dFld, dSetF, dMeth, dMake, indexD2, dCBK, dLstRevT, dCallN, gK, cond_true, cond_false, Option.toList_some, diItems, diKeys, diVals, diZip, diEnum, listKD, eqKD, dPairs, keyed, popAtD, insertD, reverseD, dRaise, dRetX, dAsgX, dDropX, dCallX, dPureX, dXf, List.zip_cons_cons, List.zip_nil_right, List.zip_nil_left, List.reverse_cons, List.reverse_nil, dCB, dBM, dTup, dLst, dSl, dPart, dNoPart, dNotV, dAndV, dOrV, dIf, dNeg, diTup, diLst, diSeq, seqI_tup, seqI_lsv, seqI_ref, diRng1, diRng2, addD_int, addD_str, addD_tup, addD_ref, subD_int, mulD_int, fdivD_int, modD_int, powD_int, ltD_int, ltD_str, leD_int, gtD_int, geD_int, isD_non, isNotD_non, truD_non, truD_bl, truD_int, truD_str, truD_tup, truD_lsv, slD_tup, slD_str, slD_ref, slD_lsv, ixD_tup, ixD_lsv, ixD_str, ixD_ref, lenD_tup, lenD_lsv, lenD_str, lenD_ref, absD_int, intD_int, max2D_int, min2D_int, listD_tup, listD_lsv, listD_ref, tupleD_tup, tupleD_ref, isNon, dstart, dYes, lenOD, inOD, dMethX, dIxX, dLstX, dConsX, dNilX, lenKD,
  List.map_cons, List.map_nil, List.length_cons, List.length_nil, List.nil_append, List.cons_append, List.append_nil, List.set_cons_zero, List.set_cons_succ, List.getElem?_cons_zero, List.getElem?_cons_succ, Option.some.injEq, exists_eq_left', exists_eq_left, exists_eq_right, exists_eq, exists_eq', List.cons.injEq, and_true, true_and, D.int.injEq, D.str.injEq, D.bl.injEq, D.tup.injEq, D.ref.injEq, D.ty.injEq, forall_eq', forall_eq, imp_self, forall_const, exists_and_left, exists_const, isL, appendD, popD, updD_same, updD_updD, DO.lst.injEq, atI_0, atI_1, atI_2, atI_3, atI_4, sz1, sz2, sz3, sz4, sz5, sz6, eqD_int, neD_int, eqD_bl, neD_bl, cutD_1,
  decide_eq_true_eq, Bool.not_eq_true', decide_eq_false_iff_not, List.reduceReplicate, Nat.reduceAdd, Nat.reduceSub, Nat.reduceMul, Bool.false_eq_true, Bool.true_eq_false, if_false, if_true, reduceIte, dgSub, setD, ix4s, ix5s, atI_0, atI_1, atI_2, atI_3, atI_4, *])
def N_Signature_init__ : List Str := [Str.ofString "self"]
def t_Signature_init__ : DTS := dSetF "Signature" "_known" (dVar 0) (dDNew)
def N_Signature_add : List Str := [Str.ofString "self", Str.ofString "symbol", Str.ofString "predicate", Str.ofString "arity", Str.ofString "known_predicate", Str.ofString "known_arity"]
def t_Signature_add : DTS := dSeq (dIfS (dB (dOp gtD (dVar 3) (dC c_MAX_ARITY))) (dRaise "TooLarge" ["limit"] (dCons (dC (.str "arity")) (dNil))) (dNext)) (dSeq (dIfS (dTru (dDNotIn (dVar 1) (dFld "Signature" "_known" (dVar 0)))) (dSeq (dDPut (dFld "Signature" "_known" (dVar 0)) (dVar 1) (dTup (dCons (dVar 2) (dCons (dVar 3) (dNil))))) (dRetN)) (dNext)) (dSeq (dAsg (dDGet (dFld "Signature" "_known" (dVar 0)) (dVar 1)) (dgTup 2 (dgCons (dgName 4) (dgCons (dgName 5) (dgNil))))) (dSeq (dIfS (dB (dOp neD' (dVar 4) (dVar 2))) (dRaise "KindError" ["symbol"] (dCons (dVar 1) (dNil))) (dNext)) (dIfS (dB (dOp neD' (dVar 5) (dVar 3))) (dRaise "ArityError" ["symbol", "expected", "found"] (dCons (dVar 1) (dCons (dVar 5) (dCons (dVar 3) (dNil))))) (dNext)))))
def N_Signature_add_function : List Str := [Str.ofString "self", Str.ofString "symbol", Str.ofString "arity"]
def t_Signature_add_function (sp_Signature_add : SpD) : DTS := dDropX (dMethX "Signature" "_add" sp_Signature_add (dVar 0) (dCons (dVar 1) (dCons (dC (.bl false)) (dCons (dVar 2) (dNil)))))
def N_Signature_add_predicate : List Str := [Str.ofString "self", Str.ofString "symbol", Str.ofString "arity"]
def t_Signature_add_predicate (sp_Signature_add : SpD) : DTS := dDropX (dMethX "Signature" "_add" sp_Signature_add (dVar 0) (dCons (dVar 1) (dCons (dC (.bl true)) (dCons (dVar 2) (dNil)))))
def N_Signature_functions : List Str := [Str.ofString "self", Str.ofString "symbol", Str.ofString "known"]
def t_Signature_functions : DTS := dRet (dLockE (dLc (diItems (dFld "Signature" "_known" (dVar 0))) (dgTup 2 (dgCons (dgName 1) (dgCons (dgName 2) (dgNil)))) (dNot (dTru (dOp ixD (dVar 2) (dC (.int 0))))) (dTup (dCons (dVar 1) (dCons (dOp ixD (dVar 2) (dC (.int 1))) (dNil)))) [1, 2]))
def N_Signature_predicates : List Str := [Str.ofString "self", Str.ofString "symbol", Str.ofString "known"]
def t_Signature_predicates : DTS := dRet (dLockE (dLc (diItems (dFld "Signature" "_known" (dVar 0))) (dgTup 2 (dgCons (dgName 1) (dgCons (dgName 2) (dgNil)))) (dTru (dOp ixD (dVar 2) (dC (.int 0)))) (dTup (dCons (dVar 1) (dCons (dOp ixD (dVar 2) (dC (.int 1))) (dNil)))) [1, 2]))
def N_Signature_entry : List Str := [Str.ofString "self", Str.ofString "symbol"]
def t_Signature_entry : DTS := dSeq (dIfS (dTru (dDNotIn (dVar 1) (dFld "Signature" "_known" (dVar 0)))) (dRaise "UnknownSymbol" ["symbol"] (dCons (dVar 1) (dNil))) (dNext)) (dRet (dDGet (dFld "Signature" "_known" (dVar 0)) (dVar 1)))
def N_Signature_arity : List Str := [Str.ofString "self", Str.ofString "symbol"]
def t_Signature_arity (sp_Signature_entry : SpD) : DTS := dRetX (dIxX (dMethX "Signature" "_entry" sp_Signature_entry (dVar 0) (dCons (dVar 1) (dNil))) (dC (.int 1)))
def N_Signature_is_predicate_1a94 : List Str := [Str.ofString "self", Str.ofString "symbol"]
def t_Signature_is_predicate_1a94 (sp_Signature_entry : SpD) : DTS := dRetX (dIxX (dMethX "Signature" "_entry" sp_Signature_entry (dVar 0) (dCons (dVar 1) (dNil))) (dC (.int 0)))
def N_Signature_contains__ : List Str := [Str.ofString "self", Str.ofString "symbol"]
def t_Signature_contains__ : DTS := dRet (dDIn (dVar 1) (dFld "Signature" "_known" (dVar 0)))
def N_Signature_len__ : List Str := [Str.ofString "self"]
def t_Signature_len__ : DTS := dRet (dCB lenKD (dCons (dFld "Signature" "_known" (dVar 0)) (dNil)))

abbrev SgE := Str × Bool × Int
def kvS (es : List SgE) : List (Key × D) := es.map fun e => (Sum.inr e.1, .tup [.bl e.2.1, .int e.2.2])
def lkS (es : List SgE) (s : Str) : Option (Bool × Int) := (es.find? fun e => decide (e.1 = s)).map (·.2)
theorem kvS_get {es : List SgE} {s : Str} : getK (kvS es) (.inr s) = (lkS es s).map fun p => .tup [.bl p.1, .int p.2] := by
  induction es with
  | nil => rfl
  | cons e es ih =>
    unfold getK kvS lkS at ih ⊢
    rw [List.map_cons, List.find?_cons, List.find?_cons]
    by_cases z : e.1 = s
    · simp [z]
    · have z' : (Sum.inr e.1 : Key) ≠ Sum.inr s := fun w => z (Sum.inr.inj w)
      simp only [z, z', decide_false]
      exact ih
theorem kvS_some {es : List SgE} {s : Str} : (getK (kvS es) (.inr s)).isSome = (lkS es s).isSome := by rw [kvS_get]; cases lkS es s <;> rfl
theorem lkS_none {es : List SgE} {s : Str} (h : lkS es s = none) : ∀ e ∈ es, e.1 ≠ s := by
  unfold lkS at h
  rw [Option.map_eq_none_iff, List.find?_eq_none] at h
  intro e m
  simpa using h e m
theorem kvS_set {es : List SgE} {s : Str} {b : Bool} {n : Int} (h : lkS es s = none) : setK (kvS es) (.inr s) (.tup [.bl b, .int n]) = kvS (es ++ [(s, b, n)]) := by
  have no := lkS_none h
  have e : ((kvS es).any fun kv => decide (kv.1 = Sum.inr s)) = false := by
    rw [List.any_eq_false]
    intro kv m
    obtain ⟨x, mx, rfl⟩ := List.mem_map.mp m
    simp only [decide_eq_true_eq]
    exact fun e => no x mx (Sum.inr.inj e)
  unfold setK
  rw [e, if_neg (by decide)]
  simp [kvS]
theorem kvS_len {es : List SgE} : (kvS es).length = es.length := by unfold kvS; rw [List.length_map]
/-- what a deed meets -/
inductive Dd where
  | large | kind | ari (m : Int) | new | same
def ddS (es : List SgE) (s : Str) (b : Bool) (n : Int) : Dd :=
  if 8 < n then .large else match lkS es s with
  | none => .new
  | some (b', m) => if b' ≠ b then .kind else if m ≠ n then .ari m else .same
structure Sg (a d : Addr) (es : List SgE) (h : DH) : Prop where
  ea : h a = some (.ins "Signature" [("_known", .ref d)])
  ed : h d = some (.dK (kvS es))
theorem Sg.sub {a d : Addr} {es : List SgE} {h h' : DH} (x : Sg a d es h) (s : Sub h h') : Sg a d es h' := ⟨s _ _ x.ea, s _ _ x.ed⟩
theorem Sg.nda {a d : Addr} {es : List SgE} {h : DH} (x : Sg a d es h) : d ≠ a := fun e => by have := x.ed; rw [e, x.ea] at this; cases this
def sp_sgi : SpD := fun ds h Q _ => ∃ a, ds = [.ref a] ∧ h a = some (.ins "Signature" []) ∧ ∀ d h', Sg a d [] h' → Off a h h' → h d = none → Q .non h'
theorem ms_sgi : MonoSp sp_sgi := fun ds h Q Q' E k ⟨a, e, ea, q⟩ => ⟨a, e, ea, fun d h' x1 x2 x3 => k _ _ (q d h' x1 x2 x3)⟩
theorem r_sgi (ds : List D) (h : DH) (Q : DK) (Ed : DXK) (up : Up Q) (q : sp_sgi ds h Q Ed) : t_Signature_init__ { nx := fun _ h' => Q .non h', rt := Q } (dstart N_Signature_init__ ds) h := by
  obtain ⟨a, rfl, ea, q⟩ := q
  unfold t_Signature_init__ N_Signature_init__
  walk_at "ds"
  refine fun d nd => ?_
  have nda : d ≠ a := (neD ea nd).symm
  refine ⟨_, by rw [updD_ne nda.symm]; exact ea, by decide, q d _ ⟨updD_same, by rw [updD_ne nda, updD_same]; rfl⟩ (fun b o z e => by rw [updD_ne z, updD_ne (neD e nd)]; exact e) nd⟩
/-- an exception of the class C with these fields goes out -/
def outX (C : Str) (fs : List (Str × D)) (h : DH) (E : DXK) : Prop := ∀ dd, h dd = none → E C (some dd) (updD h dd (.xd fs))
theorem outX_mono {C : Str} {fs : List (Str × D)} {h : DH} {E E' : DXK} (k : ∀ C d h, E C d h → E' C d h) (q : outX C fs h E) : outX C fs h E' := fun dd n => k _ _ _ (q dd n)
def addR (a d : Addr) (es : List SgE) (s : Str) (b : Bool) (n : Int) (h : DH) (Q : DK) (E : DXK) : Dd → Prop
  | .large => outX "TooLarge" [("limit", .str "arity")] h E
  | .kind => outX "KindError" [("symbol", .str s)] h E
  | .ari m => outX "ArityError" [("found", .int n), ("expected", .int m), ("symbol", .str s)] h E
  | .new => ∀ h', Sg a d (es ++ [(s, b, n)]) h' → Off d h h' → Q .non h'
  | .same => Q .non h
def addQ (a d : Addr) (es : List SgE) (s : Str) (b : Bool) (n : Int) (h : DH) (Q : DK) (E : DXK) : Prop := addR a d es s b n h Q E (ddS es s b n)
theorem addQ_ms {a d : Addr} {es : List SgE} {s : Str} {b : Bool} {n : Int} {h : DH} {Q Q' : DK} {E : DXK} (k : ∀ x h, Q x h → Q' x h) (q : addQ a d es s b n h Q E) : addQ a d es s b n h Q' E := by
  unfold addQ at q ⊢
  revert q
  generalize ddS es s b n = z
  intro q
  cases z <;> first | exact q | exact fun h' x1 x2 => k _ _ (q h' x1 x2) | exact k _ _ q
theorem addQ_mx {a d : Addr} {es : List SgE} {s : Str} {b : Bool} {n : Int} {h : DH} {Q : DK} {E E' : DXK} (k : ∀ C d h, E C d h → E' C d h) (q : addQ a d es s b n h Q E) : addQ a d es s b n h Q E' := by
  unfold addQ at q ⊢
  revert q
  generalize ddS es s b n = z
  intro q
  cases z <;> first | exact q | exact outX_mono k q
def sp_sga : SpD := fun ds h Q E => ∃ a d es s b n, ds = [.ref a, .str s, .bl b, .int n] ∧ Sg a d es h ∧ es.length < 1000 ∧ addQ a d es s b n h Q E
theorem ms_sga : MonoSp sp_sga := fun ds h Q Q' E k ⟨a, d, es, s, b, n, e, x, l, q⟩ => ⟨a, d, es, s, b, n, e, x, l, addQ_ms k q⟩
theorem mx_sga : MonoX sp_sga := fun ds h Q E E' k ⟨a, d, es, s, b, n, e, x, l, q⟩ => ⟨a, d, es, s, b, n, e, x, l, addQ_mx k q⟩
theorem r_sga (ds : List D) (h : DH) (Q : DK) (Ed : DXK) (up : Up Q) (q : sp_sga ds h Q Ed) : t_Signature_add { nx := fun _ h' => Q .non h', rt := Q, ex := fun _ => Ed } (dstart N_Signature_add ds) h := by
  obtain ⟨a, d, es, s, b, n, rfl, x, l, q⟩ := q
  unfold t_Signature_add N_Signature_add
  unfold addQ ddS at q
  refine dSeq_go ?_
  walk_at "ds"
  simp only [c_MAX_ARITY, gtD_int]
  refine ⟨_, rfl, ?_⟩
  by_cases c1 : 8 < n
  · rw [if_pos (decide_eq_true c1)]
    rw [if_pos c1] at q
    exact fun dd nd => q dd nd
  rw [if_neg (by simpa using c1)]
  rw [if_neg c1] at q
  refine dSeq_go ?_
  walk_at "ds"
  refine ⟨_, x.ea, _, rfl, d, rfl, _, x.ed, _, rfl, ?_⟩
  rw [kvS_some]
  cases lk : lkS es s with
  | none =>
    simp only [lk] at q
    rw [if_pos (by rfl)]
    refine dSeq_go ?_
    walk_at "ds"
    refine ⟨by rw [sizeLine_eq]; decide, _, x.ea, _, rfl, d, rfl, _, x.ed, _, rfl, by rw [kvS_len, sizeLine_eq]; omega, ?_⟩
    rw [kvS_set lk]
    exact q _ ⟨by rw [updD_ne x.nda.symm]; exact x.ea, updD_same⟩ (fun b o z e => by rw [updD_ne z]; exact e)
  | some p =>
    obtain ⟨b', m⟩ := p
    simp only [lk] at q
    rw [if_neg (by simp)]
    refine dSeq_go ?_
    walk_at "ds"
    refine ⟨_, x.ea, _, rfl, d, rfl, _, x.ed, _, rfl, _, by rw [kvS_get, lk]; rfl, ?_⟩
    simp only [dgTup, dgCons, dgNil, dgName]
    refine ⟨_, rfl, rfl, _, _, rfl, _, _, rfl, rfl, ?_⟩
    simp only [List.set_cons_succ, List.set_cons_zero]
    refine dSeq_go ?_
    walk_at "ds"
    by_cases c2 : b' = b
    · rw [if_neg (by simpa using c2)] at q
      rw [if_neg (by simpa using c2)]
      by_cases c3 : m = n
      · rw [if_neg (by simpa using c3)] at q
        rw [if_neg (by simpa using c3)]
        exact q
      · rw [if_pos (by simpa using c3)] at q
        rw [if_pos (by simpa using c3)]
        exact fun dd nd => q dd nd
    · rw [if_pos (by simpa using c2)] at q
      rw [if_pos (by simpa using c2)]
      exact fun dd nd => q dd nd
def sp_sgf : SpD := fun ds h Q E => ∃ a d es s n, ds = [.ref a, .str s, .int n] ∧ Sg a d es h ∧ es.length < 1000 ∧ addQ a d es s false n h Q E
theorem ms_sgf : MonoSp sp_sgf := fun ds h Q Q' E k ⟨a, d, es, s, n, e, x, l, q⟩ => ⟨a, d, es, s, n, e, x, l, addQ_ms k q⟩
theorem mx_sgf : MonoX sp_sgf := fun ds h Q E E' k ⟨a, d, es, s, n, e, x, l, q⟩ => ⟨a, d, es, s, n, e, x, l, addQ_mx k q⟩
theorem r_sgf (ds : List D) (h : DH) (Q : DK) (Ed : DXK) (up : Up Q) (q : sp_sgf ds h Q Ed) : t_Signature_add_function sp_sga { nx := fun _ h' => Q .non h', rt := Q, ex := fun _ => Ed } (dstart N_Signature_add_function ds) h := by
  obtain ⟨a, d, es, s, n, rfl, x, l, q⟩ := q
  unfold t_Signature_add_function N_Signature_add_function
  walk_at "ds"
  exact ⟨_, x.ea, rfl, a, d, es, s, _, n, rfl, x, l, q⟩
def sp_sgp : SpD := fun ds h Q E => ∃ a d es s n, ds = [.ref a, .str s, .int n] ∧ Sg a d es h ∧ es.length < 1000 ∧ addQ a d es s true n h Q E
theorem ms_sgp : MonoSp sp_sgp := fun ds h Q Q' E k ⟨a, d, es, s, n, e, x, l, q⟩ => ⟨a, d, es, s, n, e, x, l, addQ_ms k q⟩
theorem mx_sgp : MonoX sp_sgp := fun ds h Q E E' k ⟨a, d, es, s, n, e, x, l, q⟩ => ⟨a, d, es, s, n, e, x, l, addQ_mx k q⟩
theorem r_sgp (ds : List D) (h : DH) (Q : DK) (Ed : DXK) (up : Up Q) (q : sp_sgp ds h Q Ed) : t_Signature_add_predicate sp_sga { nx := fun _ h' => Q .non h', rt := Q, ex := fun _ => Ed } (dstart N_Signature_add_predicate ds) h := by
  obtain ⟨a, d, es, s, n, rfl, x, l, q⟩ := q
  unfold t_Signature_add_predicate N_Signature_add_predicate
  walk_at "ds"
  exact ⟨_, x.ea, rfl, a, d, es, s, _, n, rfl, x, l, q⟩
/-- the pairs of one kind -/
def prS (b : Bool) (es : List SgE) : List D := (es.filter fun e => e.2.1 == b).map fun e => .tup [.str e.1, .int e.2.2]
theorem prS_snoc (b : Bool) {es : List SgE} {i : Nat} {e : SgE} (h : es[i]? = some e) : prS b (es.take (i + 1)) = if e.2.1 == b then prS b (es.take i) ++ [.tup [.str e.1, .int e.2.2]] else prS b (es.take i) := by
  unfold prS
  rw [List.take_succ, h, Option.toList_some, List.filter_append]
  by_cases z : (e.2.1 == b) = true
  · rw [if_pos z, List.map_append, List.filter_cons_of_pos (p := fun e : SgE => e.2.1 == b) z]; rfl
  · rw [if_neg z, List.filter_cons_of_neg (p := fun e : SgE => e.2.1 == b) z]; simp
def sp_sgl (b : Bool) : SpD := fun ds h Q _ => ∃ a d es, ds = [.ref a] ∧ Sg a d es h ∧ es.length < 1000 ∧ ∀ p, h p = none → Q (.ref p) (updD h p (.lst (prS b es)))
theorem ms_sgl {b : Bool} : MonoSp (sp_sgl b) := fun ds h Q Q' E k ⟨a, d, es, e, x, l, q⟩ => ⟨a, d, es, e, x, l, fun p n => k _ _ (q p n)⟩
theorem r_sgl0 (ds : List D) (h : DH) (Q : DK) (Ed : DXK) (up : Up Q) (q : sp_sgl false ds h Q Ed) : t_Signature_functions { nx := fun _ h' => Q .non h', rt := Q } (dstart N_Signature_functions ds) h := by
  obtain ⟨a, d, es, rfl, x, l, q⟩ := q
  unfold t_Signature_functions N_Signature_functions dRet
  refine ⟨d, _, x.ed, ?_⟩
  have ea2 : updD h d (.fdK (kvS es)) a = some (.ins "Signature" [("_known", .ref d)]) := by rw [updD_ne x.nda.symm]; exact x.ea
  refine dLc_flt (items := itemsK (kvS es)) (st := fun _ => True) (h1 := updD h d (.fdK (kvS es))) (fun p i h' => h p = none ∧ p ≠ d ∧ h' = updD (updD h d (.fdK (kvS es))) p (.lst (prS false (es.take i)))) (fun R r => ?_) (fun _ _ _ _ => trivial) (fun p np => ?_) ?_ ?_
  · walk_at "dl"
    exact ⟨_, ea2, _, rfl, d, rfl, _, updD_same, r⟩
  · have npd : p ≠ d := fun e => by rw [e, updD_same] at np; cases np
    rw [updD_ne npd] at np
    exact ⟨np, npd, rfl⟩
  · rintro p np i y h2 nx ei ⟨np0, npd, rfl⟩ hnx
    unfold itemsK kvS at ei
    rw [List.map_map, List.getElem?_map] at ei
    obtain ⟨e, ee, rfl⟩ := Option.map_eq_some_iff.mp ei
    obtain ⟨s, b, n⟩ := e
    simp only [Function.comp, kD, dgTup, dgCons, dgNil, dgName]
    refine ⟨_, rfl, rfl, _, _, rfl, _, _, rfl, rfl, ?_⟩
    have tk := prS_snoc false ee
    have lim : (prS false (es.take i)).length < sizeLine := by unfold prS; have := List.length_filter_le (fun e : SgE => e.2.1 == false) (es.take i); rw [List.length_map, sizeLine_eq]; rw [List.length_take] at this; omega
    walk_at "dl"
    refine ⟨_, rfl, ?_⟩
    simp only [ixD_tup, atI_0, atI_1, Option.some.injEq, exists_eq_left', truD_bl]
    dsimp only at tk
    cases b
    · rw [if_pos rfl]
      refine ⟨_, rfl, _, rfl, ?_⟩
      simp only [ixD_tup, atI_0, atI_1, Option.some.injEq, exists_eq_left']
      refine ⟨by rw [sizeLine_eq]; decide, _, updD_same, lim, hnx _ ⟨np0, npd, ?_⟩⟩
      rw [updD_updD, tk]; rfl
    · rw [if_neg (by decide)]
      refine hnx _ ⟨np0, npd, ?_⟩
      rw [tk]; rfl
  · rintro p np h2 ⟨np0, npd, rfl⟩
    refine ⟨by rw [updD_ne npd.symm, updD_same], ?_⟩
    have e1 : (itemsK (kvS es)).length = es.length := by simp [itemsK, kvS]
    rw [e1, List.take_length, updD_comm npd.symm, updD_updD, updD_comm npd, updD_self x.ed]
    exact q p np0
theorem r_sgl1 (ds : List D) (h : DH) (Q : DK) (Ed : DXK) (up : Up Q) (q : sp_sgl true ds h Q Ed) : t_Signature_predicates { nx := fun _ h' => Q .non h', rt := Q } (dstart N_Signature_predicates ds) h := by
  obtain ⟨a, d, es, rfl, x, l, q⟩ := q
  unfold t_Signature_predicates N_Signature_predicates dRet
  refine ⟨d, _, x.ed, ?_⟩
  have ea2 : updD h d (.fdK (kvS es)) a = some (.ins "Signature" [("_known", .ref d)]) := by rw [updD_ne x.nda.symm]; exact x.ea
  refine dLc_flt (items := itemsK (kvS es)) (st := fun _ => True) (h1 := updD h d (.fdK (kvS es))) (fun p i h' => h p = none ∧ p ≠ d ∧ h' = updD (updD h d (.fdK (kvS es))) p (.lst (prS true (es.take i)))) (fun R r => ?_) (fun _ _ _ _ => trivial) (fun p np => ?_) ?_ ?_
  · walk_at "dl"
    exact ⟨_, ea2, _, rfl, d, rfl, _, updD_same, r⟩
  · have npd : p ≠ d := fun e => by rw [e, updD_same] at np; cases np
    rw [updD_ne npd] at np
    exact ⟨np, npd, rfl⟩
  · rintro p np i y h2 nx ei ⟨np0, npd, rfl⟩ hnx
    unfold itemsK kvS at ei
    rw [List.map_map, List.getElem?_map] at ei
    obtain ⟨e, ee, rfl⟩ := Option.map_eq_some_iff.mp ei
    obtain ⟨s, b, n⟩ := e
    simp only [Function.comp, kD, dgTup, dgCons, dgNil, dgName]
    refine ⟨_, rfl, rfl, _, _, rfl, _, _, rfl, rfl, ?_⟩
    have tk := prS_snoc true ee
    have lim : (prS true (es.take i)).length < sizeLine := by unfold prS; have := List.length_filter_le (fun e : SgE => e.2.1 == true) (es.take i); rw [List.length_map, sizeLine_eq]; rw [List.length_take] at this; omega
    walk_at "dl"
    refine ⟨_, rfl, ?_⟩
    simp only [ixD_tup, atI_0, atI_1, Option.some.injEq, exists_eq_left', truD_bl]
    dsimp only at tk
    cases b
    · rw [if_neg (by decide)]
      refine hnx _ ⟨np0, npd, ?_⟩
      rw [tk]; rfl
    · rw [if_pos rfl]
      refine ⟨_, rfl, _, rfl, ?_⟩
      simp only [ixD_tup, atI_0, atI_1, Option.some.injEq, exists_eq_left']
      refine ⟨by rw [sizeLine_eq]; decide, _, updD_same, lim, hnx _ ⟨np0, npd, ?_⟩⟩
      rw [updD_updD, tk]; rfl
  · rintro p np h2 ⟨np0, npd, rfl⟩
    refine ⟨by rw [updD_ne npd.symm, updD_same], ?_⟩
    have e1 : (itemsK (kvS es)).length = es.length := by simp [itemsK, kvS]
    rw [e1, List.take_length, updD_comm npd.symm, updD_updD, updD_comm npd, updD_self x.ed]
    exact q p np0
/-- what stands of a symbol -/
def sp_sge : SpD := fun ds h Q E => ∃ a d es s, ds = [.ref a, .str s] ∧ Sg a d es h ∧ (lkS es s = none → outX "UnknownSymbol" [("symbol", .str s)] h E) ∧ ∀ b n, lkS es s = some (b, n) → Q (.tup [.bl b, .int n]) h
theorem ms_sge : MonoSp sp_sge := fun ds h Q Q' E k ⟨a, d, es, s, e, x, y, q⟩ => ⟨a, d, es, s, e, x, y, fun b n z => k _ _ (q b n z)⟩
theorem mx_sge : MonoX sp_sge := fun ds h Q E E' k ⟨a, d, es, s, e, x, y, q⟩ => ⟨a, d, es, s, e, x, fun z => outX_mono k (y z), q⟩
theorem r_sge (ds : List D) (h : DH) (Q : DK) (Ed : DXK) (up : Up Q) (q : sp_sge ds h Q Ed) : t_Signature_entry { nx := fun _ h' => Q .non h', rt := Q, ex := fun _ => Ed } (dstart N_Signature_entry ds) h := by
  obtain ⟨a, d, es, s, rfl, x, y, q⟩ := q
  unfold t_Signature_entry N_Signature_entry
  refine dSeq_go ?_
  walk_at "ds"
  refine ⟨_, x.ea, _, rfl, d, rfl, _, x.ed, _, rfl, ?_⟩
  rw [kvS_some]
  cases lk : lkS es s with
  | none =>
    rw [if_pos (by rfl)]
    exact y lk
  | some p =>
    obtain ⟨b, n⟩ := p
    rw [if_neg (by simp)]
    exact ⟨_, x.ea, _, rfl, d, rfl, _, x.ed, _, rfl, _, by rw [kvS_get, lk]; rfl, q b n lk⟩
def sp_sgr : SpD := fun ds h Q E => ∃ a d es s, ds = [.ref a, .str s] ∧ Sg a d es h ∧ (lkS es s = none → outX "UnknownSymbol" [("symbol", .str s)] h E) ∧ ∀ b n, lkS es s = some (b, n) → Q (.int n) h
theorem ms_sgr : MonoSp sp_sgr := fun ds h Q Q' E k ⟨a, d, es, s, e, x, y, q⟩ => ⟨a, d, es, s, e, x, y, fun b n z => k _ _ (q b n z)⟩
theorem mx_sgr : MonoX sp_sgr := fun ds h Q E E' k ⟨a, d, es, s, e, x, y, q⟩ => ⟨a, d, es, s, e, x, fun z => outX_mono k (y z), q⟩
theorem r_sgr (ds : List D) (h : DH) (Q : DK) (Ed : DXK) (up : Up Q) (q : sp_sgr ds h Q Ed) : t_Signature_arity sp_sge { nx := fun _ h' => Q .non h', rt := Q, ex := fun _ => Ed } (dstart N_Signature_arity ds) h := by
  obtain ⟨a, d, es, s, rfl, x, y, q⟩ := q
  unfold t_Signature_arity N_Signature_arity
  walk_at "ds"
  exact ⟨_, x.ea, rfl, a, d, es, s, rfl, x, y, fun b n z => by simp only [ixD_tup, atI_0, atI_1]; exact ⟨_, rfl, q b n z⟩⟩
def sp_sgk : SpD := fun ds h Q E => ∃ a d es s, ds = [.ref a, .str s] ∧ Sg a d es h ∧ (lkS es s = none → outX "UnknownSymbol" [("symbol", .str s)] h E) ∧ ∀ b n, lkS es s = some (b, n) → Q (.bl b) h
theorem ms_sgk : MonoSp sp_sgk := fun ds h Q Q' E k ⟨a, d, es, s, e, x, y, q⟩ => ⟨a, d, es, s, e, x, y, fun b n z => k _ _ (q b n z)⟩
theorem mx_sgk : MonoX sp_sgk := fun ds h Q E E' k ⟨a, d, es, s, e, x, y, q⟩ => ⟨a, d, es, s, e, x, fun z => outX_mono k (y z), q⟩
theorem r_sgk (ds : List D) (h : DH) (Q : DK) (Ed : DXK) (up : Up Q) (q : sp_sgk ds h Q Ed) : t_Signature_is_predicate_1a94 sp_sge { nx := fun _ h' => Q .non h', rt := Q, ex := fun _ => Ed } (dstart N_Signature_is_predicate_1a94 ds) h := by
  obtain ⟨a, d, es, s, rfl, x, y, q⟩ := q
  unfold t_Signature_is_predicate_1a94 N_Signature_is_predicate_1a94
  walk_at "ds"
  exact ⟨_, x.ea, rfl, a, d, es, s, rfl, x, y, fun b n z => by simp only [ixD_tup, atI_0, atI_1]; exact ⟨_, rfl, q b n z⟩⟩
def sp_sgc : SpD := fun ds h Q _ => ∃ a d es s, ds = [.ref a, .str s] ∧ Sg a d es h ∧ Q (.bl (lkS es s).isSome) h
theorem ms_sgc : MonoSp sp_sgc := fun ds h Q Q' E k ⟨a, d, es, s, e, x, q⟩ => ⟨a, d, es, s, e, x, k _ _ q⟩
theorem r_sgc (ds : List D) (h : DH) (Q : DK) (Ed : DXK) (up : Up Q) (q : sp_sgc ds h Q Ed) : t_Signature_contains__ { nx := fun _ h' => Q .non h', rt := Q } (dstart N_Signature_contains__ ds) h := by
  obtain ⟨a, d, es, s, rfl, x, q⟩ := q
  unfold t_Signature_contains__ N_Signature_contains__
  walk_at "ds"
  refine ⟨_, x.ea, _, rfl, d, rfl, _, x.ed, _, rfl, ?_⟩
  rw [kvS_some]
  exact q
def sp_sgn : SpD := fun ds h Q _ => ∃ a d es, ds = [.ref a] ∧ Sg a d es h ∧ es.length < 1000 ∧ Q (.int es.length) h
theorem ms_sgn : MonoSp sp_sgn := fun ds h Q Q' E k ⟨a, d, es, e, x, l, q⟩ => ⟨a, d, es, e, x, l, k _ _ q⟩
theorem r_sgn (ds : List D) (h : DH) (Q : DK) (Ed : DXK) (up : Up Q) (q : sp_sgn ds h Q Ed) : t_Signature_len__ { nx := fun _ h' => Q .non h', rt := Q } (dstart N_Signature_len__ ds) h := by
  obtain ⟨a, d, es, rfl, x, l, q⟩ := q
  unfold t_Signature_len__ N_Signature_len__
  walk_at "ds"
  refine ⟨_, x.ea, _, rfl, ?_⟩
  refine ⟨_, x.ed, ?_⟩
  rw [kvS_len]
  exact q

end DL

namespace DL
open PySem PySem.Spec PyProof.Rows L2
local macro_rules | `(tactic| walk_at "dl") => `(tactic| simp only [dSeq, dIfS, dTru, dB, dNot, dAnd, dOr, dVar, dC, dOp, dCall, dCons, dNil, dRet, dRetN, dAsg, dgName, dNext, dDrop, dDNew, dDGet, dDGetF, dDIn, dDNotIn, dDPut, dDDel, dDGet1, dDGet2, dFld, dSetF, dMeth, dMake, indexD2, dCBK, dLstRevT, dCallN, gK, cond_true, cond_false, Option.toList_some, diItems, diKeys, diVals, diZip, diEnum, listKD, eqKD, dPairs, keyed, popAtD, insertD, reverseD, dRaise, dRetX, dAsgX, dDropX, dCallX, dPureX, dXf, List.zip_cons_cons, List.zip_nil_right, List.zip_nil_left, List.reverse_cons, List.reverse_nil, dCB, dBM, dTup, dLst, dSl, dPart, dNoPart, dNotV, dAndV, dOrV, dIf, dNeg, diTup, diLst, diSeq, seqI_tup, seqI_lsv, seqI_ref, diRng1, diRng2, addD_int, addD_str, addD_tup, addD_ref, subD_int, mulD_int, fdivD_int, modD_int, powD_int, ltD_int, ltD_str, leD_int, gtD_int, geD_int, isD_non, isNotD_non, truD_non, truD_bl, truD_int, truD_str, truD_tup, truD_lsv, slD_tup, slD_str, slD_ref, slD_lsv, ixD_tup, ixD_lsv, ixD_str, ixD_ref, lenD_tup, lenD_lsv, lenD_str, lenD_ref, absD_int, intD_int, max2D_int, min2D_int, listD_tup, listD_lsv, listD_ref, tupleD_tup, tupleD_ref, isNon, dstart, dYes, lenOD, inOD, dMethX, dIxX, dLstX, dConsX, dNilX, lenKD,
  List.map_cons, List.map_nil, List.length_cons, List.length_nil, List.nil_append, List.cons_append, List.append_nil, List.set_cons_zero, List.set_cons_succ, List.getElem?_cons_zero, List.getElem?_cons_succ, Option.some.injEq, exists_eq_left', exists_eq_left, exists_eq_right, exists_eq, exists_eq', List.cons.injEq, and_true, true_and, D.int.injEq, D.str.injEq, D.bl.injEq, D.tup.injEq, D.ref.injEq, D.ty.injEq, forall_eq', forall_eq, imp_self, forall_const, exists_and_left, exists_const, isL, appendD, popD, updD_same, updD_updD, DO.lst.injEq, eqD_int, neD_int, eqD_bl, neD_bl, cutD_1,
  decide_eq_true_eq, Bool.not_eq_true', decide_eq_false_iff_not, List.reduceReplicate, Nat.reduceAdd, Nat.reduceSub, Nat.reduceMul, Bool.false_eq_true, Bool.true_eq_false, if_false, if_true, reduceIte])
local macro_rules | `(tactic| walk_at "ds") => `(tactic| simp only [dIfS, dTru, dB, dNot, dAnd, dOr, dVar, dC, dOp, dCall, dCons, dNil, dRet, dRetN, dAsg, dgName, dNext, dDrop, dDNew, dDGet, dDGetF, dDIn, dDNotIn, dDPut, dDDel, dDGet1, dDGet2, dFld, dSetF, dMeth, dMake, indexD2, dCBK, dLstRevT, dCallN, gK, cond_true, cond_false, Option.toList_some, diItems, diKeys, diVals, diZip, diEnum, listKD, eqKD, dPairs, keyed, popAtD, insertD, reverseD, dRaise, dRetX, dAsgX, dDropX, dCallX, dPureX, dXf, List.zip_cons_cons, List.zip_nil_right, List.zip_nil_left, List.reverse_cons, List.reverse_nil, dCB, dBM, dTup, dLst, dSl, dPart, dNoPart, dNotV, dAndV, dOrV, dIf, dNeg, diTup, diLst, diSeq, seqI_tup, seqI_lsv, seqI_ref, diRng1, diRng2, addD_int, addD_str, addD_tup, addD_ref, subD_int, mulD_int, fdivD_int, modD_int, powD_int, ltD_int, ltD_str, leD_int, gtD_int, geD_int, isD_non, isNotD_non, truD_non, truD_bl, truD_int, truD_str, truD_tup, truD_lsv, slD_tup, slD_str, slD_ref, slD_lsv, ixD_tup, ixD_lsv, ixD_str, ixD_ref, lenD_tup, lenD_lsv, lenD_str, lenD_ref, absD_int, intD_int, max2D_int, min2D_int, listD_tup, listD_lsv, listD_ref, tupleD_tup, tupleD_ref, isNon, dstart, dYes, lenOD, inOD, dMethX, dIxX, dLstX, dConsX, dNilX, lenKD,
  List.map_cons, List.map_nil, List.length_cons, List.length_nil, List.nil_append, List.cons_append, List.append_nil, List.set_cons_zero, List.set_cons_succ, List.getElem?_cons_zero, List.getElem?_cons_succ, Option.some.injEq, exists_eq_left', exists_eq_left, exists_eq_right, exists_eq, exists_eq', List.cons.injEq, and_true, true_and, D.int.injEq, D.str.injEq, D.bl.injEq, D.tup.injEq, D.ref.injEq, D.ty.injEq, forall_eq', forall_eq, imp_self, forall_const, exists_and_left, exists_const, isL, appendD, popD, updD_same, updD_updD, DO.lst.injEq, eqD_int, neD_int, eqD_bl, neD_bl, cutD_1,
  decide_eq_true_eq, Bool.not_eq_true', decide_eq_false_iff_not, List.reduceReplicate, Nat.reduceAdd, Nat.reduceSub, Nat.reduceMul, Bool.false_eq_true, Bool.true_eq_false, if_false, if_true, reduceIte])
local macro_rules | `(tactic| walk_at "da") => `(tactic| simp only [dSeq, dIfS, dTru, dB, dNot, dAnd, dOr, dVar, dC, dOp, dCall, dCons, dNil, dRet, dRetN, dAsg, dgName, dNext, dDrop, dDNew, dDGet, dDGetF, dDIn, dDNotIn, dDPut, dDDel, dDGet1, dDGet2, dFld, dSetF, dMeth, dMake, indexD2, dCBK, dLstRevT, dCallN, gK, cond_true, cond_false, Option.toList_some, diItems, diKeys, diVals, diZip, diEnum, listKD, eqKD, dPairs, keyed, popAtD, insertD, reverseD, dRaise, dRetX, dAsgX, dDropX, dCallX, dPureX, dXf, List.zip_cons_cons, List.zip_nil_right, List.zip_nil_left, List.reverse_cons, List.reverse_nil, dCB, dBM, dTup, dLst, dSl, dPart, dNoPart, dNotV, dAndV, dOrV, dIf, dNeg, diTup, diLst, diSeq, seqI_tup, seqI_lsv, seqI_ref, diRng1, diRng2, addD_int, addD_str, addD_tup, addD_ref, subD_int, mulD_int, fdivD_int, modD_int, powD_int, ltD_int, ltD_str, leD_int, gtD_int, geD_int, isD_non, isNotD_non, truD_non, truD_bl, truD_int, truD_str, truD_tup, truD_lsv, slD_tup, slD_str, slD_ref, slD_lsv, ixD_tup, ixD_lsv, ixD_str, ixD_ref, lenD_tup, lenD_lsv, lenD_str, lenD_ref, absD_int, intD_int, max2D_int, min2D_int, listD_tup, listD_lsv, listD_ref, tupleD_tup, tupleD_ref, isNon, dstart, dYes, lenOD, inOD, dMethX, dIxX, dLstX, dConsX, dNilX, lenKD,
  List.map_cons, List.map_nil, List.length_cons, List.length_nil, List.nil_append, List.cons_append, List.append_nil, List.set_cons_zero, List.set_cons_succ, List.getElem?_cons_zero, List.getElem?_cons_succ, Option.some.injEq, exists_eq_left', exists_eq_left, exists_eq_right, exists_eq, exists_eq', List.cons.injEq, and_true, true_and, D.int.injEq, D.str.injEq, D.bl.injEq, D.tup.injEq, D.ref.injEq, D.ty.injEq, forall_eq', forall_eq, imp_self, forall_const, exists_and_left, exists_const, isL, appendD, popD, updD_same, updD_updD, DO.lst.injEq, atI_0, atI_1, atI_2, atI_3, atI_4, sz1, sz2, sz3, sz4, sz5, sz6, eqD_int, neD_int, eqD_bl, neD_bl, cutD_1,
  decide_eq_true_eq, Bool.not_eq_true', decide_eq_false_iff_not, List.reduceReplicate, Nat.reduceAdd, Nat.reduceSub, Nat.reduceMul, Bool.false_eq_true, Bool.true_eq_false, if_false, if_true, reduceIte])
local macro_rules | `(tactic| walk_at "dz") => `(tactic| simp only [dIfS, dTru, dB, dNot, dAnd, dOr, dVar, dC, dOp, dCall, dCons, dNil, dRet, dRetN, dAsg, dgName, dNext, dDrop, dDNew, dDGet, dDGetF, dDIn, dDNotIn, dDPut, dDDel, dDGet1, dDGet2, dFld, dSetF, dMeth, dMake, indexD2, dCBK, dLstRevT, dCallN, gK, cond_true, cond_false, Option.toList_some, diItems, diKeys, diVals, diZip, diEnum, listKD, eqKD, dPairs, keyed, popAtD, insertD, reverseD, dRaise, dRetX, dAsgX, dDropX, dCallX, dPureX, dXf, List.zip_cons_cons, List.zip_nil_right, List.zip_nil_left, List.reverse_cons, List.reverse_nil, dCB, dBM, dTup, dLst, dSl, dPart, dNoPart, dNotV, dAndV, dOrV, dIf, dNeg, diTup, diLst, diSeq, seqI_tup, seqI_lsv, seqI_ref, diRng1, diRng2, addD_int, addD_str, addD_tup, addD_ref, subD_int, mulD_int, fdivD_int, modD_int, powD_int, ltD_int, ltD_str, leD_int, gtD_int, geD_int, isD_non, isNotD_non, truD_non, truD_bl, truD_int, truD_str, truD_tup, truD_lsv, slD_tup, slD_str, slD_ref, slD_lsv, ixD_tup, ixD_lsv, ixD_str, ixD_ref, lenD_tup, lenD_lsv, lenD_str, lenD_ref, absD_int, intD_int, max2D_int, min2D_int, listD_tup, listD_lsv, listD_ref, tupleD_tup, tupleD_ref, isNon, dstart, dYes, lenOD, inOD, dMethX, dIxX, dLstX, dConsX, dNilX, lenKD,
  List.map_cons, List.map_nil, List.length_cons, List.length_nil, List.nil_append, List.cons_append, List.append_nil, List.set_cons_zero, List.set_cons_succ, List.getElem?_cons_zero, List.getElem?_cons_succ, Option.some.injEq, exists_eq_left', exists_eq_left, exists_eq_right, exists_eq, exists_eq', List.cons.injEq, and_true, true_and, D.int.injEq, D.str.injEq, D.bl.injEq, D.tup.injEq, D.ref.injEq, D.ty.injEq, forall_eq', forall_eq, imp_self, forall_const, exists_and_left, exists_const, isL, appendD, popD, updD_same, updD_updD, DO.lst.injEq, atI_0, atI_1, atI_2, atI_3, atI_4, sz1, sz2, sz3, sz4, sz5, sz6, eqD_int, neD_int, eqD_bl, neD_bl, cutD_1,
  decide_eq_true_eq, Bool.not_eq_true', decide_eq_false_iff_not, List.reduceReplicate, Nat.reduceAdd, Nat.reduceSub, Nat.reduceMul, Bool.false_eq_true, Bool.true_eq_false, if_false, if_true, reduceIte])
local macro_rules | `(tactic| walk_at "dw") => `(tactic| simp only [dIfS, dTru, dB, dNot, dAnd, dOr, dVar, dC, dOp, dCall, dCons, dNil, dRet, dRetN, dAsg, dgName, dNext, dDrop, dDNew, dDGet, dDGetF, dDIn, dDNotIn, dDPut, dDDel, dDGet1, dDGet2, dFld, dSetF, dMeth, dMake, indexD2, dCBK, dLstRevT, dCallN, gK, cond_true, cond_false, Option.toList_some, diItems, diKeys, diVals, diZip, diEnum, listKD, eqKD, dPairs, keyed, popAtD, insertD, reverseD, dRaise, dRetX, dAsgX, dDropX, dCallX, dPureX, dXf, List.zip_cons_cons, List.zip_nil_right, List.zip_nil_left, List.reverse_cons, List.reverse_nil, dCB, dBM, dTup, dLst, dSl, dPart, dNoPart, dNotV, dAndV, dOrV, dIf, dNeg, diTup, diLst, diSeq, seqI_tup, seqI_lsv, seqI_ref, diRng1, diRng2, addD_int, addD_str, addD_tup, addD_ref, subD_int, mulD_int, fdivD_int, modD_int, powD_int, ltD_int, ltD_str, leD_int, gtD_int, geD_int, isD_non, isNotD_non, truD_non, truD_bl, truD_int, truD_str, truD_tup, truD_lsv, slD_tup, slD_str, slD_ref, slD_lsv, ixD_tup, ixD_lsv, ixD_str, ixD_ref, lenD_tup, lenD_lsv, lenD_str, lenD_ref, absD_int, intD_int, max2D_int, min2D_int, listD_tup, listD_lsv, listD_ref, tupleD_tup, tupleD_ref, isNon, dstart, dYes, lenOD, inOD, dMethX, dIxX, dLstX, dConsX, dNilX, lenKD,
  List.map_cons, List.map_nil, List.length_cons, List.length_nil, List.nil_append, List.cons_append, List.append_nil, List.set_cons_zero, List.set_cons_succ, List.getElem?_cons_zero, List.getElem?_cons_succ, Option.some.injEq, exists_eq_left', exists_eq_left, exists_eq_right, exists_eq, exists_eq', List.cons.injEq, and_true, true_and, D.int.injEq, D.str.injEq, D.bl.injEq, D.tup.injEq, D.ref.injEq, D.ty.injEq, forall_eq', forall_eq, imp_self, forall_const, exists_and_left, exists_const, isL, appendD, popD, updD_same, updD_updD, DO.lst.injEq, atI_0, atI_1, atI_2, atI_3, atI_4, sz1, sz2, sz3, sz4, sz5, sz6, eqD_int, neD_int, eqD_bl, neD_bl, cutD_1,
  decide_eq_true_eq, Bool.not_eq_true', decide_eq_false_iff_not, List.reduceReplicate, Nat.reduceAdd, Nat.reduceSub, Nat.reduceMul, Bool.false_eq_true, Bool.true_eq_false, if_false, if_true, reduceIte, dgSub, setD, ix4s, ix5s, atI_0, atI_1, atI_2, atI_3, atI_4, *])
local macro_rules | `(tactic| walk_at "dv") => `(tactic| simp only [dSeq, dIfS, dTru, dB, dNot, dAnd, dOr, dVar, dC, dOp, dCall, dCons, dNil, dRet, dRetN, dAsg, dgName, dNext, dDrop, dDNew, dDGet, dDGetF, dDIn, dDNotIn, dDPut, dDDel, dDGet1, dDGet2, dFld, dSetF, dMeth, dMake, indexD2, dCBK, dLstRevT, dCallN, gK, cond_true, cond_false, Option.toList_some, diItems, diKeys, diVals, diZip, diEnum, listKD, eqKD, dPairs, keyed, popAtD, insertD, reverseD, dRaise, dRetX, dAsgX, dDropX, dCallX, dPureX, dXf, List.zip_cons_cons, List.zip_nil_right, List.zip_nil_left, List.reverse_cons, List.reverse_nil, dCB, dBM, dTup, dLst, dSl, dPart, dNoPart, dNotV, dAndV, dOrV, dIf, dNeg, diTup, diLst, diSeq, seqI_tup, seqI_lsv, seqI_ref, diRng1, diRng2, addD_int, addD_str, addD_tup, addD_ref, subD_int, mulD_int, fdivD_int, modD_int, powD_int, ltD_int, ltD_str, leD_int, gtD_int, geD_int, isD_non, isNotD_non, truD_non, truD_bl, truD_int, truD_str, truD_tup, truD_lsv, slD_tup, slD_str, slD_ref, slD_lsv, ixD_tup, ixD_lsv, ixD_str, ixD_ref, lenD_tup, lenD_lsv, lenD_str, lenD_ref, absD_int, intD_int, max2D_int, min2D_int, listD_tup, listD_lsv, listD_ref, tupleD_tup, tupleD_ref, isNon, dstart, dYes, lenOD, inOD, dMethX, dIxX, dLstX, dConsX, dNilX, lenKD,
  List.map_cons, List.map_nil, List.length_cons, List.length_nil, List.nil_append, List.cons_append, List.append_nil, List.set_cons_zero, List.set_cons_succ, List.getElem?_cons_zero, List.getElem?_cons_succ, Option.some.injEq, exists_eq_left', exists_eq_left, exists_eq_right, exists_eq, exists_eq', List.cons.injEq, and_true, true_and, D.int.injEq, D.str.injEq, D.bl.injEq, D.tup.injEq, D.ref.injEq, D.ty.injEq, forall_eq', forall_eq, imp_self, forall_const, exists_and_left, exists_const, isL, appendD, popD, updD_same, updD_updD, DO.lst.injEq, atI_0, atI_1, atI_2, atI_3, atI_4, sz1, sz2, sz3, sz4, sz5, sz6, eqD_int, neD_int, eqD_bl, neD_bl, cutD_1,
  decide_eq_true_eq, Bool.not_eq_true', decide_eq_false_iff_not, List.reduceReplicate, Nat.reduceAdd, Nat.reduceSub, Nat.reduceMul, Bool.false_eq_true, Bool.true_eq_false, if_false, if_true, reduceIte, dgSub, setD, ix4s, ix5s, atI_0, atI_1, atI_2, atI_3, atI_4, *])
def N_law_same_1a08 : List Str := [Str.ofString "_law_value", Str.ofString "_law_due_here", Str.ofString "_law_k"]
def t_law_same_1a08 (sp_law_same_1a08 : SpD) : DTS := dSeq (dIfS (dOr (dTru (dCB isiD (dCons (dVar 1) (dCons (dC (.ty "tuple")) (dNil))))) (dTru (dCB isiD (dCons (dVar 1) (dCons (dC (.ty "list")) (dNil)))))) (dSeq (dIfS (dOr (dB (dOp neD' (dCB isiD (dCons (dVar 1) (dCons (dC (.ty "tuple")) (dNil)))) (dCB isiD (dCons (dVar 0) (dCons (dC (.ty "tuple")) (dNil)))))) (dB (dOp neD' (dCB isiD (dCons (dVar 1) (dCons (dC (.ty "list")) (dNil)))) (dCB isiD (dCons (dVar 0) (dCons (dC (.ty "list")) (dNil))))))) (dRet (dC (.bl false))) (dNext)) (dSeq (dIfS (dB (dOp neD' (dCB lenD (dCons (dVar 0) (dNil))) (dCB lenD (dCons (dVar 1) (dNil))))) (dRet (dC (.bl false))) (dNext)) (dSeq (dFor (diRng1 (dCons (dCB lenD (dCons (dVar 1) (dNil))) (dNil))) (dgName 2) (dIfS (dNot (dTru (dCall sp_law_same_1a08 [] (dCons (dOp ixD (dVar 0) (dVar 2)) (dCons (dOp ixD (dVar 1) (dVar 2)) (dNil)))))) (dRet (dC (.bl false))) (dNext))) (dRet (dC (.bl true)))))) (dNext)) (dSeq (dIfS (dB (dOp neD' (dCB isiD (dCons (dVar 1) (dCons (dC (.ty "bool")) (dNil)))) (dCB isiD (dCons (dVar 0) (dCons (dC (.ty "bool")) (dNil)))))) (dRet (dC (.bl false))) (dNext)) (dSeq (dIfS (dOr (dB (dOp neD' (dCB isiD (dCons (dVar 1) (dCons (dC (.ty "int")) (dNil)))) (dCB isiD (dCons (dVar 0) (dCons (dC (.ty "int")) (dNil)))))) (dB (dOp neD' (dCB isiD (dCons (dVar 1) (dCons (dC (.ty "str")) (dNil)))) (dCB isiD (dCons (dVar 0) (dCons (dC (.ty "str")) (dNil))))))) (dRet (dC (.bl false))) (dNext)) (dRet (dOp eqD (dVar 0) (dVar 1)))))
def N_law_add : List Str := [Str.ofString "_law_signature", Str.ofString "_law_symbol", Str.ofString "_law_predicate", Str.ofString "_law_arity", Str.ofString "e"]
def t_law_add (sp_Signature_add_predicate sp_Signature_add_function : SpD) : DTS := dSeq (dTryMix (([("TooLarge", true), ("KindError", false), ("ArityError", false), ("UnknownSymbol", false)], some 4, fun xa xc xd => dRet (dLst (dCons (dC (.str "large")) (dNil)))) :: ([("TooLarge", false), ("KindError", true), ("ArityError", false), ("UnknownSymbol", false)], some 4, fun xa xc xd => dRet (dLst (dCons (dC (.str "kind")) (dCons (dXf xa xd "symbol" (dVar 4)) (dNil))))) :: ([("TooLarge", false), ("KindError", false), ("ArityError", true), ("UnknownSymbol", false)], some 4, fun xa xc xd => dRet (dLst (dCons (dC (.str "arity")) (dCons (dXf xa xd "symbol" (dVar 4)) (dCons (dXf xa xd "expected" (dVar 4)) (dCons (dXf xa xd "found" (dVar 4)) (dNil))))))) :: []) (dIfS (dTru (dVar 2)) (dDropX (dMethX "Signature" "add_predicate" sp_Signature_add_predicate (dVar 0) (dCons (dVar 1) (dCons (dVar 3) (dNil))))) (dDropX (dMethX "Signature" "add_function" sp_Signature_add_function (dVar 0) (dCons (dVar 1) (dCons (dVar 3) (dNil))))))) (dRet (dLst (dNil)))
def N_law_ask_f35a : List Str := [Str.ofString "_law_signature", Str.ofString "_law_symbol", Str.ofString "e"]
def t_law_ask_f35a (sp_Signature_is_predicate_1a94 sp_Signature_arity : SpD) : DTS := dTryAs [("TooLarge", false), ("KindError", false), ("ArityError", false), ("UnknownSymbol", true)] 2 (dRetX (dLstX (dConsX (dMethX "Signature" "arity" sp_Signature_arity (dVar 0) (dCons (dVar 1) (dNil))) (dConsX (dMethX "Signature" "is_predicate" sp_Signature_is_predicate_1a94 (dVar 0) (dCons (dVar 1) (dNil))) (dNilX))))) (fun xa xc xd => dRet (dLst (dCons (dXf xa xd "symbol" (dVar 2)) (dNil))))
def N_law_kind_ef40 : List Str := [Str.ofString "_law_signature", Str.ofString "_law_symbol", Str.ofString "e"]
def t_law_kind_ef40 (sp_Signature_is_predicate_1a94 : SpD) : DTS := dTryAs [("TooLarge", false), ("KindError", false), ("ArityError", false), ("UnknownSymbol", true)] 2 (dRetX (dLstX (dConsX (dMethX "Signature" "is_predicate" sp_Signature_is_predicate_1a94 (dVar 0) (dCons (dVar 1) (dNil))) (dNilX)))) (fun xa xc xd => dRet (dLst (dCons (dXf xa xd "symbol" (dVar 2)) (dNil))))
def N_law_due_2e6d : List Str := [Str.ofString "_law_known", Str.ofString "_law_symbol", Str.ofString "_law_predicate", Str.ofString "_law_arity", Str.ofString "_law_row"]
def t_law_due_2e6d : DTS := dSeq (dIfS (dB (dOp gtD (dVar 3) (dC (.int 8)))) (dRet (dLst (dCons (dC (.str "large")) (dNil)))) (dNext)) (dSeq (dFor (diSeq (dVar 0)) (dgName 4) (dSeq (dIfS (dAnd (dB (dOp eqD (dOp ixD (dVar 4) (dC (.int 0))) (dVar 1))) (dB (dOp neD' (dOp ixD (dVar 4) (dC (.int 1))) (dVar 2)))) (dRet (dLst (dCons (dC (.str "kind")) (dCons (dVar 1) (dNil))))) (dNext)) (dIfS (dAnd (dB (dOp eqD (dOp ixD (dVar 4) (dC (.int 0))) (dVar 1))) (dB (dOp neD' (dOp ixD (dVar 4) (dC (.int 2))) (dVar 3)))) (dRet (dLst (dCons (dC (.str "arity")) (dCons (dVar 1) (dCons (dOp ixD (dVar 4) (dC (.int 2))) (dCons (dVar 3) (dNil))))))) (dNext)))) (dRet (dLst (dNil))))

/-! the law's side of a signature -/
theorem r_same14 {n : Nat} (ds : List D) (h : DH) (Q : DK) (Ed : DXK) (up : Up Q) (q : sp_same (n + 1) ds h Q Ed) : t_law_same_1a08 (sp_same n) { nx := fun _ h' => Q .non h', rt := Q } (dstart N_law_same_1a08 ds) h := by
  exact r_same (n := n) ds h Q Ed up q
/-- the law's rows: the list at kl, a list for each row -/
structure Rw (kl : Addr) (rs : List Addr) (es : List SgE) (h : DH) : Prop where
  ek : h kl = some (.lst (rs.map .ref))
  len : rs.length = es.length
  row : ∀ (i : Nat) r e, rs[i]? = some r → es[i]? = some e → h r = some (.lst [.str e.1, .bl e.2.1, .int e.2.2])
structure EsOk (es : List SgE) : Prop where
  nd : (es.map (·.1)).Nodup
  ok : ∀ e ∈ es, PyData.strOk e.1 = true
theorem Rw.sub {kl : Addr} {rs : List Addr} {es : List SgE} {h h' : DH} (x : Rw kl rs es h) (s : Sub h h') : Rw kl rs es h' := ⟨s _ _ x.ek, x.len, fun i r e a b => s _ _ (x.row i r e a b)⟩
theorem Rw.at_ {kl : Addr} {rs : List Addr} {es : List SgE} {h : DH} (x : Rw kl rs es h) {i : Nat} {r : D} (e : (rs.map D.ref)[i]? = some r) : ∃ a y, r = .ref a ∧ rs[i]? = some a ∧ es[i]? = some y ∧ h a = some (.lst [.str y.1, .bl y.2.1, .int y.2.2]) := by
  rw [List.getElem?_map] at e
  obtain ⟨a, ea, rfl⟩ := Option.map_eq_some_iff.mp e
  have hi : i < es.length := by rw [← x.len]; exact (List.getElem?_eq_some_iff.mp ea).1
  exact ⟨a, es[i], rfl, ea, List.getElem?_eq_getElem hi, x.row i a _ ea (List.getElem?_eq_getElem hi)⟩
theorem lkS_at {es : List SgE} (nd : (es.map (·.1)).Nodup) {i : Nat} {e : SgE} (h : es[i]? = some e) : lkS es e.1 = some e.2 := by
  induction es generalizing i with
  | nil => simp at h
  | cons x xs ih =>
    unfold lkS at ih ⊢
    rw [List.find?_cons]
    rw [List.map_cons, List.nodup_cons] at nd
    cases i with
    | zero =>
      have : x = e := by simpa using h
      simp [this]
    | succ i =>
      have h' : xs[i]? = some e := by simpa using h
      have ne : x.1 ≠ e.1 := fun z => nd.1 (List.mem_map.mpr ⟨e, List.mem_of_getElem? h', z.symm⟩)
      simp only [ne, decide_false]
      exact ih nd.2 h'
theorem lkS_mem {es : List SgE} {s : Str} {p : Bool × Int} (h : lkS es s = some p) : (s, p) ∈ es := by
  unfold lkS at h
  obtain ⟨e, he, rfl⟩ := Option.map_eq_some_iff.mp h
  have a := List.mem_of_find?_eq_some he
  have b := List.find?_some he
  simp only [decide_eq_true_eq] at b
  rw [← b]
  exact a
def dueL (s : Str) (n : Int) : Dd → List D
  | .large => [.str "large"]
  | .kind => [.str "kind", .str s]
  | .ari m => [.str "arity", .str s, .int m, .int n]
  | .new => []
  | .same => []
def sp_due14 : SpD := fun ds h Q _ => ∃ kl rs es s b n, ds = [.ref kl, .str s, .bl b, .int n] ∧ Rw kl rs es h ∧ EsOk es ∧ PyData.strOk s = true ∧ ∀ p, h p = none → Q (.ref p) (updD h p (.lst (dueL s n (ddS es s b n))))
theorem ms_due14 : MonoSp sp_due14 := fun ds h Q Q' E k ⟨kl, rs, es, s, b, n, e, x1, x2, x3, q⟩ => ⟨kl, rs, es, s, b, n, e, x1, x2, x3, fun p z => k _ _ (q p z)⟩
theorem r_due14 (ds : List D) (h : DH) (Q : DK) (Ed : DXK) (up : Up Q) (q : sp_due14 ds h Q Ed) : t_law_due_2e6d { nx := fun _ h' => Q .non h', rt := Q } (dstart N_law_due_2e6d ds) h := by
  obtain ⟨kl, rs, es, s, b, n, rfl, x, ok, so, q⟩ := q
  unfold t_law_due_2e6d N_law_due_2e6d
  unfold ddS at q
  refine dSeq_go ?_
  walk_at "ds"
  by_cases c1 : 8 < n
  · rw [if_pos c1]
    rw [if_pos c1] at q
    exact ⟨by rw [sizeLine_eq]; decide, fun p np => q p np⟩
  rw [if_neg c1]
  rw [if_neg c1] at q
  refine dSeq_cut (fun τ h' => h = h' ∧ (∀ e ∈ es, e.1 = s → e.2 = (b, n))) (fun nx hnx => ?_) ?_
  · refine dFor_ab (items := rs.map D.ref) (st := fun h' => h' kl = some (.lst (rs.map D.ref))) (h1 := h) (fun i τ h' => h = h' ∧ (∀ e ∈ es.take i, e.1 = s → e.2 = (b, n)) ∧ ∃ z, τ = [some (.ref kl), some (.str s), some (.bl b), some (.int n), z]) (fun R r => by walk_at "dl"; exact ⟨_, x.ek, r⟩) ⟨rfl, by simp, _, rfl⟩ (fun i τ h' e => e.1 ▸ x.ek) ?_ ?_
    · rintro i d τ h' nx2 ei ⟨rfl, al, z, rfl⟩ hnx2
      obtain ⟨r, y, rfl, er, ey, hr⟩ := x.at_ ei
      have lk := lkS_at ok.nd ey
      have oy := ok.ok y (List.mem_of_getElem? ey)
      obtain ⟨s', b', m⟩ := y
      dsimp only at lk oy hr
      have tk : es.take (i + 1) = es.take i ++ [(s', b', m)] := by rw [List.take_succ, ey, Option.toList_some]
      simp only [dgName, List.set_cons_zero, List.set_cons_succ]
      refine dSeq_go ?_
      walk_at "ds"
      refine ⟨_, hr, _, rfl, ?_⟩
      rw [eqD_str oy so]
      refine ⟨_, rfl, ?_⟩
      by_cases c2 : s' = s
      · subst c2
        rw [if_pos (by simp)]
        simp only [lk] at q
        refine ⟨_, hr, _, rfl, ?_⟩
        rw [neD_bl]
        refine ⟨_, rfl, ?_⟩
        by_cases c3 : b' = b
        · subst c3
          rw [if_neg (by simp)]
          rw [if_neg (by simp)] at q
          refine ⟨_, hr, _, rfl, ?_⟩
          rw [eqD_str oy so]
          refine ⟨_, rfl, ?_⟩
          rw [if_pos (by simp)]
          refine ⟨_, hr, _, rfl, ?_⟩
          rw [neD_int]
          refine ⟨_, rfl, ?_⟩
          by_cases c4 : m = n
          · subst c4
            rw [if_neg (by simp)]
            exact hnx2 _ _ ⟨rfl, fun e me he => by rw [tk] at me; rcases List.mem_append.mp me with w | w; exact al e w he; rw [List.mem_singleton.mp w], _, rfl⟩
          · rw [if_pos (by simpa using c4)]
            rw [if_pos c4] at q
            refine ⟨_, hr, _, rfl, ?_⟩
            exact ⟨by rw [sizeLine_eq]; decide, fun p np => q p np⟩
        · rw [if_pos (by simpa using c3)]
          rw [if_pos c3] at q
          exact ⟨by rw [sizeLine_eq]; decide, fun p np => q p np⟩
      · rw [if_neg (by simpa using c2)]
        refine ⟨_, hr, _, rfl, ?_⟩
        rw [eqD_str oy so]
        refine ⟨_, rfl, ?_⟩
        rw [if_neg (by simpa using c2)]
        exact hnx2 _ _ ⟨rfl, fun e me he => by rw [tk] at me; rcases List.mem_append.mp me with w | w; exact al e w he; rw [List.mem_singleton.mp w] at he; exact absurd he c2, _, rfl⟩
    · rintro τ _ ⟨rfl, al, z, rfl⟩
      rw [List.length_map, x.len, List.take_length] at al
      exact hnx _ _ ⟨rfl, al⟩
  · rintro τ _ ⟨rfl, al⟩
    walk_at "dl"
    refine ⟨Nat.zero_le _, fun p np => ?_⟩
    have q := q p np
    cases lk : lkS es s with
    | none => simp only [lk] at q; exact q
    | some p =>
      have := al _ (lkS_mem lk) rfl
      dsimp only at this
      subst this
      simp only [lk] at q
      simpa [dueL] using q
def sp_add14 : SpD := fun ds h Q _ => ∃ a d es s b n, ds = [.ref a, .str s, .bl b, .int n] ∧ Sg a d es h ∧ es.length < 1000 ∧ PyData.strOk s = true ∧
  ∀ p h', h p = none → h' p = some (.lst (dueL s n (ddS es s b n))) → (ddS es s b n = .new → Sg a d (es ++ [(s, b, n)]) h' ∧ Off d h h') → (ddS es s b n ≠ .new → Sub h h') → Q (.ref p) h'
theorem ms_add14 : MonoSp sp_add14 := fun ds h Q Q' E k ⟨a, d, es, s, b, n, e, x1, x2, x3, q⟩ => ⟨a, d, es, s, b, n, e, x1, x2, x3, fun p h' z1 z2 z3 z4 => k _ _ (q p h' z1 z2 z3 z4)⟩
theorem r_add14 (ds : List D) (h : DH) (Q : DK) (Ed : DXK) (up : Up Q) (q : sp_add14 ds h Q Ed) : t_law_add sp_sgp sp_sgf { nx := fun _ h' => Q .non h', rt := Q } (dstart N_law_add ds) h := by
  obtain ⟨a, d, es, s, b, n, rfl, x, l, so, q⟩ := q
  unfold t_law_add N_law_add
  refine dSeq_go ?_
  unfold dTryMix
  have two : ∀ {dd p : Addr} {o : DO}, h dd = none → updD h dd o p = none → h p = none ∧ p ≠ dd := fun {dd p o} nd np => by
    have : p ≠ dd := fun e => by rw [e, updD_same] at np; cases np
    rw [updD_ne this] at np
    exact ⟨np, this⟩
  have fin : ∀ {fs : List (Str × D)} {dd p : Addr} {L : List D}, h dd = none → updD h dd (.xd fs) p = none → L = dueL s n (ddS es s b n) → ddS es s b n ≠ .new → Q (.ref p) (updD (updD h dd (.xd fs)) p (.lst L)) := fun {fs dd p L} nd np e ne => by
    obtain ⟨np0, npd⟩ := two nd np
    exact q p _ np0 (by rw [updD_same, e]) (fun z => absurd z ne) fun _ => (Sub.new nd).trans (Sub.new np)
  have all : ∀ z, z = ddS es s b n → addR a d es s b n h (fun _ h1 => dRet (dLst dNil) { nx := fun x h' => Q .non h', rt := Q } [some (.ref a), some (.str s), some (.bl b), some (.int n), none] h1)
      (mixD { nx := dRet (dLst dNil) { nx := fun x h' => Q .non h', rt := Q }, rt := Q } [([("TooLarge", true), ("KindError", false), ("ArityError", false), ("UnknownSymbol", false)], some 4, fun xa xc xd => dRet (dLst (dCons (dC (.str "large")) (dNil)))), ([("TooLarge", false), ("KindError", true), ("ArityError", false), ("UnknownSymbol", false)], some 4, fun xa xc xd => dRet (dLst (dCons (dC (.str "kind")) (dCons (dXf xa xd "symbol" (dVar 4)) (dNil))))), ([("TooLarge", false), ("KindError", false), ("ArityError", true), ("UnknownSymbol", false)], some 4, fun xa xc xd => dRet (dLst (dCons (dC (.str "arity")) (dCons (dXf xa xd "symbol" (dVar 4)) (dCons (dXf xa xd "expected" (dVar 4)) (dCons (dXf xa xd "found" (dVar 4)) (dNil)))))))]
        [some (.ref a), some (.str s), some (.bl b), some (.int n), none]) z := by
    intro z ez
    cases z with
    | large =>
      intro dd nd
      refine ⟨true, by decide +kernel, fun _ a' na => ?_, fun z => by cases z⟩
      simp only [asSD, asDD]
      walk_at "ds"
      exact ⟨by rw [sizeLine_eq]; decide, fun p np => fin nd np (by rw [← ez]; rfl) (by rw [← ez]; exact fun z => by cases z)⟩
    | kind =>
      intro dd nd
      refine ⟨false, by decide +kernel, (fun z => by cases z), fun _ => ⟨true, by decide +kernel, fun _ a' na => ?_, fun z => by cases z⟩⟩
      simp only [asSD, asDD]
      walk_at "ds"
      refine ⟨_, rfl, _, rfl, by rw [sizeLine_eq]; decide, fun p np => fin nd np (by rw [← ez]; rfl) (by rw [← ez]; exact fun z => by cases z)⟩
    | ari m =>
      intro dd nd
      refine ⟨false, by decide +kernel, (fun z => by cases z), fun _ => ⟨false, by decide +kernel, (fun z => by cases z), fun _ => ⟨true, by decide +kernel, fun _ a' na => ?_, fun z => by cases z⟩⟩⟩
      simp only [asSD, asDD]
      walk_at "ds"
      exact ⟨_, rfl, _, rfl, _, rfl, _, rfl, _, rfl, _, rfl, by rw [sizeLine_eq]; decide, fun p np => fin nd np (by rw [← ez]; rfl) (by rw [← ez]; exact fun z => by cases z)⟩
    | new =>
      intro h' sg o
      walk_at "ds"
      refine ⟨Nat.zero_le _, fun p np => ?_⟩
      have np0 : h p = none := by
        cases e : h p with
        | none => rfl
        | some u =>
          by_cases z : p = d
          · rw [z, sg.ed] at np; cases np
          · rw [o _ _ z e] at np; cases np
      exact q p _ np0 (by rw [updD_same, ← ez]; rfl) (fun _ => ⟨sg.sub (Sub.new np), fun b u z e => Sub.new np _ _ (o _ _ z e)⟩) fun w => absurd ez.symm w
    | same =>
      show dRet (dLst dNil) _ _ h
      walk_at "ds"
      refine ⟨Nat.zero_le _, fun p np => q p _ np (by rw [updD_same, ← ez]; rfl) (fun z => by rw [← ez] at z; cases z) fun _ => Sub.new np⟩
  cases b
  · walk_at "ds"
    exact ⟨_, x.ea, rfl, a, d, es, s, n, rfl, x, l, all _ rfl⟩
  · walk_at "ds"
    exact ⟨_, x.ea, rfl, a, d, es, s, n, rfl, x, l, all _ rfl⟩
def askL (s : Str) : Option (Bool × Int) → List D
  | none => [.str s]
  | some (b, n) => [.int n, .bl b]
def sp_ask14 : SpD := fun ds h Q _ => ∃ a d es s, ds = [.ref a, .str s] ∧ Sg a d es h ∧ ∀ p h', Sub h h' → h' p = some (.lst (askL s (lkS es s))) → h p = none → Q (.ref p) h'
theorem ms_ask14 : MonoSp sp_ask14 := fun ds h Q Q' E k ⟨a, d, es, s, e, x1, q⟩ => ⟨a, d, es, s, e, x1, fun p h' z1 z2 z3 => k _ _ (q p h' z1 z2 z3)⟩
theorem r_ask14 (ds : List D) (h : DH) (Q : DK) (Ed : DXK) (up : Up Q) (q : sp_ask14 ds h Q Ed) : t_law_ask_f35a sp_sgk sp_sgr { nx := fun _ h' => Q .non h', rt := Q } (dstart N_law_ask_f35a ds) h := by
  obtain ⟨a, d, es, s, rfl, x, q⟩ := q
  unfold t_law_ask_f35a N_law_ask_f35a dTryAs
  walk_at "ds"
  refine ⟨_, x.ea, rfl, a, d, es, s, rfl, x, fun z => ?_, fun b n z => ⟨_, x.ea, rfl, a, d, es, s, rfl, x, (fun w => by rw [w] at z; cases z), fun b2 n2 z2 => ⟨by rw [sizeLine_eq]; decide, fun p np => ?_⟩⟩⟩
  · intro dd nd
    refine ⟨true, by decide +kernel, fun _ a' na => ⟨dd, rfl, _, updD_same, _, rfl, by rw [sizeLine_eq]; decide, fun p np => ?_⟩, fun z => by cases z⟩
    have npd : p ≠ dd := fun e => by rw [e, updD_same] at np; cases np
    refine q p _ ((Sub.new nd).trans (Sub.new np)) (by rw [updD_same, z]; rfl) (by rw [updD_ne npd] at np; exact np)
  · rw [z2] at z
    cases z
    exact q p _ (Sub.new np) (by rw [updD_same, z2]; rfl) np
def kndL (s : Str) : Option (Bool × Int) → List D
  | none => [.str s]
  | some (b, n) => [.bl b]
def sp_knd14 : SpD := fun ds h Q _ => ∃ a d es s, ds = [.ref a, .str s] ∧ Sg a d es h ∧ ∀ p h', Sub h h' → h' p = some (.lst (kndL s (lkS es s))) → h p = none → Q (.ref p) h'
theorem ms_knd14 : MonoSp sp_knd14 := fun ds h Q Q' E k ⟨a, d, es, s, e, x1, q⟩ => ⟨a, d, es, s, e, x1, fun p h' z1 z2 z3 => k _ _ (q p h' z1 z2 z3)⟩
theorem r_knd14 (ds : List D) (h : DH) (Q : DK) (Ed : DXK) (up : Up Q) (q : sp_knd14 ds h Q Ed) : t_law_kind_ef40 sp_sgk { nx := fun _ h' => Q .non h', rt := Q } (dstart N_law_kind_ef40 ds) h := by
  obtain ⟨a, d, es, s, rfl, x, q⟩ := q
  unfold t_law_kind_ef40 N_law_kind_ef40 dTryAs
  walk_at "ds"
  refine ⟨_, x.ea, rfl, a, d, es, s, rfl, x, fun z => ?_, fun b n z => ⟨by rw [sizeLine_eq]; decide, fun p np => ?_⟩⟩
  · intro dd nd
    refine ⟨true, by decide +kernel, fun _ a' na => ⟨dd, rfl, _, updD_same, _, rfl, by rw [sizeLine_eq]; decide, fun p np => ?_⟩, fun z => by cases z⟩
    have npd : p ≠ dd := fun e => by rw [e, updD_same] at np; cases np
    refine q p _ ((Sub.new nd).trans (Sub.new np)) (by rw [updD_same, z]; rfl) (by rw [updD_ne npd] at np; exact np)
  · exact q p _ (Sub.new np) (by rw [updD_same, z]; rfl) np

end DL

namespace DL
open PySem PySem.Spec PyProof.Rows L2
local macro_rules | `(tactic| walk_at "dl") => `(tactic| simp only [dSeq, dIfS, dTru, dB, dNot, dAnd, dOr, dVar, dC, dOp, dCall, dCons, dNil, dRet, dRetN, dAsg, dgName, dNext, dDrop, dDNew, dDGet, dDGetF, dDIn, dDNotIn, dDPut, dDDel, dDGet1, dDGet2, dFld, dSetF, dMeth, dMake, indexD2, dCBK, dLstRevT, dCallN, gK, cond_true, cond_false, Option.toList_some, diItems, diKeys, diVals, diZip, diEnum, listKD, eqKD, dPairs, keyed, popAtD, insertD, reverseD, dRaise, dRetX, dAsgX, dDropX, dCallX, dPureX, dXf, List.zip_cons_cons, List.zip_nil_right, List.zip_nil_left, List.reverse_cons, List.reverse_nil, dCB, dBM, dTup, dLst, dSl, dPart, dNoPart, dNotV, dAndV, dOrV, dIf, dNeg, diTup, diLst, diSeq, seqI_tup, seqI_lsv, seqI_ref, diRng1, diRng2, addD_int, addD_str, addD_tup, addD_ref, subD_int, mulD_int, fdivD_int, modD_int, powD_int, ltD_int, ltD_str, leD_int, gtD_int, geD_int, isD_non, isNotD_non, truD_non, truD_bl, truD_int, truD_str, truD_tup, truD_lsv, slD_tup, slD_str, slD_ref, slD_lsv, ixD_tup, ixD_lsv, ixD_str, ixD_ref, lenD_tup, lenD_lsv, lenD_str, lenD_ref, absD_int, intD_int, max2D_int, min2D_int, listD_tup, listD_lsv, listD_ref, tupleD_tup, tupleD_ref, isNon, dstart, dYes, lenOD, inOD, dMethX, dIxX, dLstX, dConsX, dNilX, lenKD,
  List.map_cons, List.map_nil, List.length_cons, List.length_nil, List.nil_append, List.cons_append, List.append_nil, List.set_cons_zero, List.set_cons_succ, List.getElem?_cons_zero, List.getElem?_cons_succ, Option.some.injEq, exists_eq_left', exists_eq_left, exists_eq_right, exists_eq, exists_eq', List.cons.injEq, and_true, true_and, D.int.injEq, D.str.injEq, D.bl.injEq, D.tup.injEq, D.ref.injEq, D.ty.injEq, forall_eq', forall_eq, imp_self, forall_const, exists_and_left, exists_const, isL, appendD, popD, updD_same, updD_updD, DO.lst.injEq, eqD_int, neD_int, eqD_bl, neD_bl, cutD_1,
  decide_eq_true_eq, Bool.not_eq_true', decide_eq_false_iff_not, List.reduceReplicate, Nat.reduceAdd, Nat.reduceSub, Nat.reduceMul, Bool.false_eq_true, Bool.true_eq_false, if_false, if_true, reduceIte])
local macro_rules | `(tactic| walk_at "ds") => `(tactic| simp only [dIfS, dTru, dB, dNot, dAnd, dOr, dVar, dC, dOp, dCall, dCons, dNil, dRet, dRetN, dAsg, dgName, dNext, dDrop, dDNew, dDGet, dDGetF, dDIn, dDNotIn, dDPut, dDDel, dDGet1, dDGet2, dFld, dSetF, dMeth, dMake, indexD2, dCBK, dLstRevT, dCallN, gK, cond_true, cond_false, Option.toList_some, diItems, diKeys, diVals, diZip, diEnum, listKD, eqKD, dPairs, keyed, popAtD, insertD, reverseD, dRaise, dRetX, dAsgX, dDropX, dCallX, dPureX, dXf, List.zip_cons_cons, List.zip_nil_right, List.zip_nil_left, List.reverse_cons, List.reverse_nil, dCB, dBM, dTup, dLst, dSl, dPart, dNoPart, dNotV, dAndV, dOrV, dIf, dNeg, diTup, diLst, diSeq, seqI_tup, seqI_lsv, seqI_ref, diRng1, diRng2, addD_int, addD_str, addD_tup, addD_ref, subD_int, mulD_int, fdivD_int, modD_int, powD_int, ltD_int, ltD_str, leD_int, gtD_int, geD_int, isD_non, isNotD_non, truD_non, truD_bl, truD_int, truD_str, truD_tup, truD_lsv, slD_tup, slD_str, slD_ref, slD_lsv, ixD_tup, ixD_lsv, ixD_str, ixD_ref, lenD_tup, lenD_lsv, lenD_str, lenD_ref, absD_int, intD_int, max2D_int, min2D_int, listD_tup, listD_lsv, listD_ref, tupleD_tup, tupleD_ref, isNon, dstart, dYes, lenOD, inOD, dMethX, dIxX, dLstX, dConsX, dNilX, lenKD,
  List.map_cons, List.map_nil, List.length_cons, List.length_nil, List.nil_append, List.cons_append, List.append_nil, List.set_cons_zero, List.set_cons_succ, List.getElem?_cons_zero, List.getElem?_cons_succ, Option.some.injEq, exists_eq_left', exists_eq_left, exists_eq_right, exists_eq, exists_eq', List.cons.injEq, and_true, true_and, D.int.injEq, D.str.injEq, D.bl.injEq, D.tup.injEq, D.ref.injEq, D.ty.injEq, forall_eq', forall_eq, imp_self, forall_const, exists_and_left, exists_const, isL, appendD, popD, updD_same, updD_updD, DO.lst.injEq, eqD_int, neD_int, eqD_bl, neD_bl, cutD_1,
  decide_eq_true_eq, Bool.not_eq_true', decide_eq_false_iff_not, List.reduceReplicate, Nat.reduceAdd, Nat.reduceSub, Nat.reduceMul, Bool.false_eq_true, Bool.true_eq_false, if_false, if_true, reduceIte])
local macro_rules | `(tactic| walk_at "da") => `(tactic| simp only [dSeq, dIfS, dTru, dB, dNot, dAnd, dOr, dVar, dC, dOp, dCall, dCons, dNil, dRet, dRetN, dAsg, dgName, dNext, dDrop, dDNew, dDGet, dDGetF, dDIn, dDNotIn, dDPut, dDDel, dDGet1, dDGet2, dFld, dSetF, dMeth, dMake, indexD2, dCBK, dLstRevT, dCallN, gK, cond_true, cond_false, Option.toList_some, diItems, diKeys, diVals, diZip, diEnum, listKD, eqKD, dPairs, keyed, popAtD, insertD, reverseD, dRaise, dRetX, dAsgX, dDropX, dCallX, dPureX, dXf, List.zip_cons_cons, List.zip_nil_right, List.zip_nil_left, List.reverse_cons, List.reverse_nil, dCB, dBM, dTup, dLst, dSl, dPart, dNoPart, dNotV, dAndV, dOrV, dIf, dNeg, diTup, diLst, diSeq, seqI_tup, seqI_lsv, seqI_ref, diRng1, diRng2, addD_int, addD_str, addD_tup, addD_ref, subD_int, mulD_int, fdivD_int, modD_int, powD_int, ltD_int, ltD_str, leD_int, gtD_int, geD_int, isD_non, isNotD_non, truD_non, truD_bl, truD_int, truD_str, truD_tup, truD_lsv, slD_tup, slD_str, slD_ref, slD_lsv, ixD_tup, ixD_lsv, ixD_str, ixD_ref, lenD_tup, lenD_lsv, lenD_str, lenD_ref, absD_int, intD_int, max2D_int, min2D_int, listD_tup, listD_lsv, listD_ref, tupleD_tup, tupleD_ref, isNon, dstart, dYes, lenOD, inOD, dMethX, dIxX, dLstX, dConsX, dNilX, lenKD,
  List.map_cons, List.map_nil, List.length_cons, List.length_nil, List.nil_append, List.cons_append, List.append_nil, List.set_cons_zero, List.set_cons_succ, List.getElem?_cons_zero, List.getElem?_cons_succ, Option.some.injEq, exists_eq_left', exists_eq_left, exists_eq_right, exists_eq, exists_eq', List.cons.injEq, and_true, true_and, D.int.injEq, D.str.injEq, D.bl.injEq, D.tup.injEq, D.ref.injEq, D.ty.injEq, forall_eq', forall_eq, imp_self, forall_const, exists_and_left, exists_const, isL, appendD, popD, updD_same, updD_updD, DO.lst.injEq, atI_0, atI_1, atI_2, atI_3, atI_4, sz1, sz2, sz3, sz4, sz5, sz6, eqD_int, neD_int, eqD_bl, neD_bl, cutD_1,
  decide_eq_true_eq, Bool.not_eq_true', decide_eq_false_iff_not, List.reduceReplicate, Nat.reduceAdd, Nat.reduceSub, Nat.reduceMul, Bool.false_eq_true, Bool.true_eq_false, if_false, if_true, reduceIte])
local macro_rules | `(tactic| walk_at "dz") => `(tactic| simp only [dIfS, dTru, dB, dNot, dAnd, dOr, dVar, dC, dOp, dCall, dCons, dNil, dRet, dRetN, dAsg, dgName, dNext, dDrop, dDNew, dDGet, dDGetF, dDIn, dDNotIn, dDPut, dDDel, dDGet1, dDGet2, dFld, dSetF, dMeth, dMake, indexD2, dCBK, dLstRevT, dCallN, gK, cond_true, cond_false, Option.toList_some, diItems, diKeys, diVals, diZip, diEnum, listKD, eqKD, dPairs, keyed, popAtD, insertD, reverseD, dRaise, dRetX, dAsgX, dDropX, dCallX, dPureX, dXf, List.zip_cons_cons, List.zip_nil_right, List.zip_nil_left, List.reverse_cons, List.reverse_nil, dCB, dBM, dTup, dLst, dSl, dPart, dNoPart, dNotV, dAndV, dOrV, dIf, dNeg, diTup, diLst, diSeq, seqI_tup, seqI_lsv, seqI_ref, diRng1, diRng2, addD_int, addD_str, addD_tup, addD_ref, subD_int, mulD_int, fdivD_int, modD_int, powD_int, ltD_int, ltD_str, leD_int, gtD_int, geD_int, isD_non, isNotD_non, truD_non, truD_bl, truD_int, truD_str, truD_tup, truD_lsv, slD_tup, slD_str, slD_ref, slD_lsv, ixD_tup, ixD_lsv, ixD_str, ixD_ref, lenD_tup, lenD_lsv, lenD_str, lenD_ref, absD_int, intD_int, max2D_int, min2D_int, listD_tup, listD_lsv, listD_ref, tupleD_tup, tupleD_ref, isNon, dstart, dYes, lenOD, inOD, dMethX, dIxX, dLstX, dConsX, dNilX, lenKD,
  List.map_cons, List.map_nil, List.length_cons, List.length_nil, List.nil_append, List.cons_append, List.append_nil, List.set_cons_zero, List.set_cons_succ, List.getElem?_cons_zero, List.getElem?_cons_succ, Option.some.injEq, exists_eq_left', exists_eq_left, exists_eq_right, exists_eq, exists_eq', List.cons.injEq, and_true, true_and, D.int.injEq, D.str.injEq, D.bl.injEq, D.tup.injEq, D.ref.injEq, D.ty.injEq, forall_eq', forall_eq, imp_self, forall_const, exists_and_left, exists_const, isL, appendD, popD, updD_same, updD_updD, DO.lst.injEq, atI_0, atI_1, atI_2, atI_3, atI_4, sz1, sz2, sz3, sz4, sz5, sz6, eqD_int, neD_int, eqD_bl, neD_bl, cutD_1,
  decide_eq_true_eq, Bool.not_eq_true', decide_eq_false_iff_not, List.reduceReplicate, Nat.reduceAdd, Nat.reduceSub, Nat.reduceMul, Bool.false_eq_true, Bool.true_eq_false, if_false, if_true, reduceIte])
local macro_rules | `(tactic| walk_at "dw") => `(tactic| simp only [dIfS, dTru, dB, dNot, dAnd, dOr, dVar, dC, dOp, dCall, dCons, dNil, dRet, dRetN, dAsg, dgName, dNext, dDrop, dDNew, dDGet, dDGetF, dDIn, dDNotIn, dDPut, dDDel, dDGet1, dDGet2, dFld, dSetF, dMeth, dMake, indexD2, dCBK, dLstRevT, dCallN, gK, cond_true, cond_false, Option.toList_some, diItems, diKeys, diVals, diZip, diEnum, listKD, eqKD, dPairs, keyed, popAtD, insertD, reverseD, dRaise, dRetX, dAsgX, dDropX, dCallX, dPureX, dXf, List.zip_cons_cons, List.zip_nil_right, List.zip_nil_left, List.reverse_cons, List.reverse_nil, dCB, dBM, dTup, dLst, dSl, dPart, dNoPart, dNotV, dAndV, dOrV, dIf, dNeg, diTup, diLst, diSeq, seqI_tup, seqI_lsv, seqI_ref, diRng1, diRng2, addD_int, addD_str, addD_tup, addD_ref, subD_int, mulD_int, fdivD_int, modD_int, powD_int, ltD_int, ltD_str, leD_int, gtD_int, geD_int, isD_non, isNotD_non, truD_non, truD_bl, truD_int, truD_str, truD_tup, truD_lsv, slD_tup, slD_str, slD_ref, slD_lsv, ixD_tup, ixD_lsv, ixD_str, ixD_ref, lenD_tup, lenD_lsv, lenD_str, lenD_ref, absD_int, intD_int, max2D_int, min2D_int, listD_tup, listD_lsv, listD_ref, tupleD_tup, tupleD_ref, isNon, dstart, dYes, lenOD, inOD, dMethX, dIxX, dLstX, dConsX, dNilX, lenKD,
  List.map_cons, List.map_nil, List.length_cons, List.length_nil, List.nil_append, List.cons_append, List.append_nil, List.set_cons_zero, List.set_cons_succ, List.getElem?_cons_zero, List.getElem?_cons_succ, Option.some.injEq, exists_eq_left', exists_eq_left, exists_eq_right, exists_eq, exists_eq', List.cons.injEq, and_true, true_and, D.int.injEq, D.str.injEq, D.bl.injEq, D.tup.injEq, D.ref.injEq, D.ty.injEq, forall_eq', forall_eq, imp_self, forall_const, exists_and_left, exists_const, isL, appendD, popD, updD_same, updD_updD, DO.lst.injEq, atI_0, atI_1, atI_2, atI_3, atI_4, sz1, sz2, sz3, sz4, sz5, sz6, eqD_int, neD_int, eqD_bl, neD_bl, cutD_1,
  decide_eq_true_eq, Bool.not_eq_true', decide_eq_false_iff_not, List.reduceReplicate, Nat.reduceAdd, Nat.reduceSub, Nat.reduceMul, Bool.false_eq_true, Bool.true_eq_false, if_false, if_true, reduceIte, dgSub, setD, ix4s, ix5s, atI_0, atI_1, atI_2, atI_3, atI_4, *])
local macro_rules | `(tactic| walk_at "dv") => `(tactic| simp only [dSeq, dIfS, dTru, dB, dNot, dAnd, dOr, dVar, dC, dOp, dCall, dCons, dNil, dRet, dRetN, dAsg, dgName, dNext, dDrop, dDNew, dDGet, dDGetF, dDIn, dDNotIn, dDPut, dDDel, dDGet1, dDGet2, dFld, dSetF, dMeth, dMake, indexD2, dCBK, dLstRevT, dCallN, gK, cond_true, cond_false, Option.toList_some, diItems, diKeys, diVals, diZip, diEnum, listKD, eqKD, dPairs, keyed, popAtD, insertD, reverseD, dRaise, dRetX, dAsgX, dDropX, dCallX, dPureX, dXf, List.zip_cons_cons, List.zip_nil_right, List.zip_nil_left, List.reverse_cons, List.reverse_nil, dCB, dBM, dTup, dLst, dSl, dPart, dNoPart, dNotV, dAndV, dOrV, dIf, dNeg, diTup, diLst, diSeq, seqI_tup, seqI_lsv, seqI_ref, diRng1, diRng2, addD_int, addD_str, addD_tup, addD_ref, subD_int, mulD_int, fdivD_int, modD_int, powD_int, ltD_int, ltD_str, leD_int, gtD_int, geD_int, isD_non, isNotD_non, truD_non, truD_bl, truD_int, truD_str, truD_tup, truD_lsv, slD_tup, slD_str, slD_ref, slD_lsv, ixD_tup, ixD_lsv, ixD_str, ixD_ref, lenD_tup, lenD_lsv, lenD_str, lenD_ref, absD_int, intD_int, max2D_int, min2D_int, listD_tup, listD_lsv, listD_ref, tupleD_tup, tupleD_ref, isNon, dstart, dYes, lenOD, inOD, dMethX, dIxX, dLstX, dConsX, dNilX, lenKD,
  List.map_cons, List.map_nil, List.length_cons, List.length_nil, List.nil_append, List.cons_append, List.append_nil, List.set_cons_zero, List.set_cons_succ, List.getElem?_cons_zero, List.getElem?_cons_succ, Option.some.injEq, exists_eq_left', exists_eq_left, exists_eq_right, exists_eq, exists_eq', List.cons.injEq, and_true, true_and, D.int.injEq, D.str.injEq, D.bl.injEq, D.tup.injEq, D.ref.injEq, D.ty.injEq, forall_eq', forall_eq, imp_self, forall_const, exists_and_left, exists_const, isL, appendD, popD, updD_same, updD_updD, DO.lst.injEq, atI_0, atI_1, atI_2, atI_3, atI_4, sz1, sz2, sz3, sz4, sz5, sz6, eqD_int, neD_int, eqD_bl, neD_bl, cutD_1,
  decide_eq_true_eq, Bool.not_eq_true', decide_eq_false_iff_not, List.reduceReplicate, Nat.reduceAdd, Nat.reduceSub, Nat.reduceMul, Bool.false_eq_true, Bool.true_eq_false, if_false, if_true, reduceIte, dgSub, setD, ix4s, ix5s, atI_0, atI_1, atI_2, atI_3, atI_4, *])
def N_law_agrees : List Str := [Str.ofString "_law_signature", Str.ofString "_law_known", Str.ofString "_law_words_here", Str.ofString "_law_told", Str.ofString "_law_row", Str.ofString "_law_word", Str.ofString "_law_rows", Str.ofString "_law_due_here"]
def t_law_agrees (sp_Signature_predicates sp_Signature_functions sp_law_same_1a08 sp_Signature_len__ sp_Signature_contains__ sp_law_ask_f35a sp_law_kind_ef40 : SpD) : DTS := dSeq (dAsg (dLst (dCons (dMeth "Signature" "functions" sp_Signature_functions (dVar 0) (dNil)) (dCons (dMeth "Signature" "predicates" sp_Signature_predicates (dVar 0) (dNil)) (dNil)))) (dgName 3)) (dSeq (dIfS (dNot (dTru (dCall sp_law_same_1a08 [] (dCons (dOp ixD (dVar 3) (dC (.int 0))) (dCons (dLc (diSeq (dVar 1)) (dgName 4) (dNot (dTru (dOp ixD (dVar 4) (dC (.int 1))))) (dTup (dCons (dOp ixD (dVar 4) (dC (.int 0))) (dCons (dOp ixD (dVar 4) (dC (.int 2))) (dNil)))) [4]) (dNil)))))) (dRet (dC (.bl false))) (dNext)) (dSeq (dIfS (dNot (dTru (dCall sp_law_same_1a08 [] (dCons (dOp ixD (dVar 3) (dC (.int 1))) (dCons (dLc (diSeq (dVar 1)) (dgName 4) (dTru (dOp ixD (dVar 4) (dC (.int 1)))) (dTup (dCons (dOp ixD (dVar 4) (dC (.int 0))) (dCons (dOp ixD (dVar 4) (dC (.int 2))) (dNil)))) [4]) (dNil)))))) (dRet (dC (.bl false))) (dNext)) (dSeq (dDrop (dBM isL appendD (dOp ixD (dVar 3) (dC (.int 0))) (dCons (dTup (dCons (dC (.str "q")) (dCons (dC (.int 1)) (dNil)))) dNil))) (dSeq (dDrop (dBM isL appendD (dOp ixD (dVar 3) (dC (.int 1))) (dCons (dTup (dCons (dC (.str "q")) (dCons (dC (.int 1)) (dNil)))) dNil))) (dSeq (dIfS (dNot (dTru (dCall sp_law_same_1a08 [] (dCons (dCB (lenOD "Signature" sp_Signature_len__) (dCons (dVar 0) (dNil))) (dCons (dCB lenD (dCons (dVar 1) (dNil))) (dNil)))))) (dRet (dC (.bl false))) (dNext)) (dSeq (dFor (diSeq (dVar 2)) (dgName 5) (dSeq (dAsg (dLc (diSeq (dVar 1)) (dgName 4) (dB (dOp eqD (dOp ixD (dVar 4) (dC (.int 0))) (dVar 5))) (dVar 4) [4]) (dgName 6)) (dSeq (dIfS (dNot (dTru (dCall sp_law_same_1a08 [] (dCons (dOp (inOD false "Signature" sp_Signature_contains__) (dVar 5) (dVar 0)) (dCons (dOp eqD (dCB lenD (dCons (dVar 6) (dNil))) (dC (.int 1))) (dNil)))))) (dRet (dC (.bl false))) (dNext)) (dSeq (dAsg (dLst (dCons (dVar 5) (dNil))) (dgName 7)) (dSeq (dIfS (dB (dOp eqD (dCB lenD (dCons (dVar 6) (dNil))) (dC (.int 1)))) (dAsg (dLst (dCons (dOp ixD (dOp ixD (dVar 6) (dC (.int 0))) (dC (.int 2))) (dCons (dOp ixD (dOp ixD (dVar 6) (dC (.int 0))) (dC (.int 1))) (dNil)))) (dgName 7)) (dNext)) (dIfS (dOr (dNot (dTru (dCall sp_law_same_1a08 [] (dCons (dCall sp_law_ask_f35a [] (dCons (dVar 0) (dCons (dVar 5) (dNil)))) (dCons (dVar 7) (dNil)))))) (dNot (dTru (dCall sp_law_same_1a08 [] (dCons (dCall sp_law_kind_ef40 [] (dCons (dVar 0) (dCons (dVar 5) (dNil)))) (dCons (dSl (dVar 7) (dPart (dNeg (dC (.int 1)))) (dNoPart)) (dNil))))))) (dRet (dC (.bl false))) (dNext))))))) (dRet (dC (.bl true)))))))))
def N_law_k14 : List Str := [Str.ofString "_law_script", Str.ofString "_law_draws_here", Str.ofString "_law_words_here", Str.ofString "_law_signatures", Str.ofString "_law_known", Str.ofString "_law_k", Str.ofString "_law_which", Str.ofString "_law_symbol", Str.ofString "_law_predicate", Str.ofString "_law_arity", Str.ofString "_law_rows", Str.ofString "_law_row", Str.ofString "_law_due_here", Str.ofString "_law_j"]
def t_law_k14 (sp_law_draws sp_law_words sp_Signature_init__ sp_law_take sp_law_due_2e6d sp_law_same_1a08 sp_law_add sp_law_agrees : SpD) : DTS := dSeq (dAsg (dCall sp_law_draws [] (dCons (dVar 0) (dNil))) (dgName 1)) (dSeq (dAsg (dCall sp_law_words [] (dCons (dVar 1) (dCons (dC (.int 5)) (dNil)))) (dgName 2)) (dSeq (dAsg (dLst (dCons (dMake "Signature" sp_Signature_init__ (dNil)) (dCons (dMake "Signature" sp_Signature_init__ (dNil)) (dNil)))) (dgName 3)) (dSeq (dAsg (dLst (dCons (dLst (dNil)) (dCons (dLst (dNil)) (dNil)))) (dgName 4)) (dSeq (dFor (diRng1 (dCons (dCall sp_law_take [] (dCons (dVar 1) (dCons (dC (.int 14)) (dNil)))) (dNil))) (dgName 5) (dSeq (dAsg (dCB intBD (dCons (dOp eqD (dCall sp_law_take [] (dCons (dVar 1) (dCons (dC (.int 4)) (dNil)))) (dC (.int 0))) (dNil))) (dgName 6)) (dSeq (dAsg (dOp ixD (dVar 2) (dCall sp_law_take [] (dCons (dVar 1) (dCons (dC (.int 5)) (dNil))))) (dgName 7)) (dSeq (dAsg (dOp eqD (dCall sp_law_take [] (dCons (dVar 1) (dCons (dC (.int 2)) (dNil)))) (dC (.int 1))) (dgName 8)) (dSeq (dAsg (dCall sp_law_take [] (dCons (dVar 1) (dCons (dC (.int 10)) (dNil)))) (dgName 9)) (dSeq (dAsg (dLc (diSeq (dOp ixD (dVar 4) (dVar 6))) (dgName 11) (dB (dOp eqD (dOp ixD (dVar 11) (dC (.int 0))) (dVar 7))) (dVar 11) [11]) (dgName 10)) (dSeq (dIfS (dAnd (dB (dOp eqD (dCB lenD (dCons (dVar 10) (dNil))) (dC (.int 1)))) (dB (dOp eqD (dCall sp_law_take [] (dCons (dVar 1) (dCons (dC (.int 2)) (dNil)))) (dC (.int 1))))) (dAsg (dOp ixD (dOp ixD (dVar 10) (dC (.int 0))) (dC (.int 2))) (dgName 9)) (dNext)) (dSeq (dAsg (dCall sp_law_due_2e6d [] (dCons (dOp ixD (dVar 4) (dVar 6)) (dCons (dVar 7) (dCons (dVar 8) (dCons (dVar 9) (dNil)))))) (dgName 12)) (dSeq (dIfS (dNot (dTru (dCall sp_law_same_1a08 [] (dCons (dCall sp_law_add [] (dCons (dOp ixD (dVar 3) (dVar 6)) (dCons (dVar 7) (dCons (dVar 8) (dCons (dVar 9) (dNil)))))) (dCons (dVar 12) (dNil)))))) (dRet (dC (.bl false))) (dNext)) (dSeq (dIfS (dAnd (dB (dOp eqD (dCB lenD (dCons (dVar 12) (dNil))) (dC (.int 0)))) (dB (dOp eqD (dCB lenD (dCons (dVar 10) (dNil))) (dC (.int 0))))) (dDrop (dBM isL appendD (dOp ixD (dVar 4) (dVar 6)) (dCons (dLst (dCons (dVar 7) (dCons (dVar 8) (dCons (dVar 9) (dNil))))) dNil))) (dNext)) (dFor (diRng1 (dCons (dC (.int 2)) (dNil))) (dgName 13) (dIfS (dNot (dTru (dCall sp_law_agrees [] (dCons (dOp ixD (dVar 3) (dVar 13)) (dCons (dOp ixD (dVar 4) (dVar 13)) (dCons (dVar 2) (dNil))))))) (dRet (dC (.bl false))) (dNext))))))))))))) (dRet (dCall sp_law_agrees [] (dCons (dOp ixD (dVar 3) (dC (.int 0))) (dCons (dOp ixD (dVar 4) (dC (.int 0))) (dCons (dVar 2) (dNil))))))))))

/-! k14 -/
theorem dAsg_go {te : DTE} {g : DTG} {D : DEnds} {τ : DSt} {h : DH} (q : te τ h fun x h1 => g x τ h1 D.nx) : dAsg te g D τ h := q
theorem rows_len {kl : Addr} {rs : List Addr} {es : List SgE} {h : DH} (x : Rw kl rs es h) : rs.length = es.length := x.len
/-- the rows of a symbol -/
def rwS (rs : List Addr) (es : List SgE) (s : Str) : List Addr := ((rs.zip es).filter fun p => decide (p.2.1 = s)).map (·.1)
theorem rwS_snoc {rs : List Addr} {es : List SgE} {s : Str} {i : Nat} {r : Addr} {e : SgE} (h1 : rs[i]? = some r) (h2 : es[i]? = some e) : rwS (rs.take (i + 1)) (es.take (i + 1)) s = if e.1 = s then rwS (rs.take i) (es.take i) s ++ [r] else rwS (rs.take i) (es.take i) s := by
  unfold rwS
  have l1 := (List.getElem?_eq_some_iff.mp h1).1
  have l2 := (List.getElem?_eq_some_iff.mp h2).1
  rw [List.take_succ, List.take_succ, h1, h2, Option.toList_some, Option.toList_some, List.zip_append (by rw [List.length_take, List.length_take]; omega), List.filter_append]
  by_cases z : e.1 = s
  · rw [if_pos z, List.map_append]
    simp [z]
  · rw [if_neg z]
    simp [z]
theorem rwS_none {rs : List Addr} {es : List SgE} {s : Str} (h : lkS es s = none) : rwS rs es s = [] := by
  unfold rwS
  rw [List.map_eq_nil_iff, List.filter_eq_nil_iff]
  rintro ⟨r, e⟩ m
  simpa using lkS_none h e (List.of_mem_zip m).2
theorem rwS_some {s : Str} {p : Bool × Int} : ∀ {rs : List Addr} {es : List SgE}, rs.length = es.length → (es.map (·.1)).Nodup → lkS es s = some p → ∃ (i : Nat) (r : Addr), rwS rs es s = [r] ∧ rs[i]? = some r ∧ es[i]? = some (s, p)
  | _, [], _, _, h => by simp [lkS] at h
  | [], e :: es, l, _, _ => by simp at l
  | r :: rs, e :: es, l, nd, h => by
    rw [List.map_cons, List.nodup_cons] at nd
    by_cases z : e.1 = s
    · have hp : e.2 = p := by
        unfold lkS at h
        rw [List.find?_cons] at h
        simpa [z] using h
      refine ⟨0, r, ?_, rfl, by rw [← z, ← hp]; rfl⟩
      have hn : rwS rs es s = [] := by
        unfold rwS
        rw [List.map_eq_nil_iff, List.filter_eq_nil_iff]
        rintro ⟨r', e'⟩ m
        have := (List.of_mem_zip m).2
        simp only [decide_eq_true_eq]
        exact fun w => nd.1 (List.mem_map.mpr ⟨e', this, w.trans z.symm⟩)
      unfold rwS at hn ⊢
      rw [List.zip_cons_cons, List.filter_cons_of_pos (by simpa using z), List.map_cons, hn]
    · have h' : lkS es s = some p := by
        unfold lkS at h ⊢
        rw [List.find?_cons] at h
        simpa [z] using h
      obtain ⟨i, r', e1, e2, e3⟩ := rwS_some (rs := rs) (es := es) (by simpa using l) nd.2 h'
      refine ⟨i + 1, r', ?_, by simpa using e2, by simpa using e3⟩
      unfold rwS at e1 ⊢
      rw [List.zip_cons_cons, List.filter_cons_of_neg (by simpa using z), e1]
theorem same_l14 {a b : Addr} {xs ys : List D} {h : DH} {Q : DK} {E : DXK} (ea : h a = some (.lst xs)) (eb : h b = some (.lst ys)) (ok1 : okDs xs = true) (e : xs = ys) (d : deps ys ≤ 50) (q : Q (.bl true) h) : sp_same 100 [.ref a, .ref b] h Q E := by
  refine ⟨_, _, .lsv xs, .lsv ys, rfl, datD_ref ea, datD_ref eb, by simpa [okD] using ok1, by subst e; simpa [okD] using ok1, by simp only [dep]; omega, fun c hc => ?_⟩
  subst e
  rw [hc.mpr rfl]
  exact q
theorem same_v14 {x y : D} {h : DH} {Q : DK} {E : DXK} (e : x = y) (ok : okD y = true) (d : dep y ≤ 50) (q : Q (.bl true) h) : sp_same 100 [x, y] h Q E := by
  subst e
  refine ⟨_, _, x, x, rfl, datD_ok ok, datD_ok ok, ok, ok, by omega, fun c hc => ?_⟩
  rw [hc.mpr rfl]
  exact q
theorem prS_ok {es : List SgE} (ok : EsOk es) (b : Bool) : okDs (prS b es) = true ∧ deps (prS b es) ≤ 2 := by
  have m : ∀ x ∈ prS b es, ∃ e ∈ es, x = .tup [.str e.1, .int e.2.2] := fun x mx => by
    unfold prS at mx
    obtain ⟨e, me, rfl⟩ := List.mem_map.mp mx
    exact ⟨e, (List.mem_filter.mp me).1, rfl⟩
  constructor
  · refine nbs_ok (nbs_all fun x mx => ?_)
    obtain ⟨e, me, rfl⟩ := m x mx
    simp [nbD, nbDs, ok.ok e me]
  · refine deps_all fun x mx => ?_
    obtain ⟨e, me, rfl⟩ := m x mx
    simp [dep, deps]
def sp_agr : SpD := fun ds h Q _ => ∃ a d es kl rs wl, ∃ ws : List Str, ds = [.ref a, .ref kl, .ref wl] ∧ Sg a d es h ∧ Rw kl rs es h ∧ EsOk es ∧ es.length < 100 ∧ h wl = some (.lst (ws.map .str)) ∧ (∀ w ∈ ws, PyData.strOk w = true) ∧ ∀ h', Sub h h' → Q (.bl true) h'
theorem ms_agr : MonoSp sp_agr := fun ds h Q Q' E k ⟨a, d, es, kl, rs, wl, ws, e, x1, x2, x3, x4, x5, x6, q⟩ => ⟨a, d, es, kl, rs, wl, ws, e, x1, x2, x3, x4, x5, x6, fun h' s => k _ _ (q h' s)⟩
/-- the law's pairs of one kind -/
theorem due_pairs {kl : Addr} {rs : List Addr} {es : List SgE} {h : DH} {Q : DK} (b : Bool) {tt : DTT} {τ : DSt} (x : Rw kl rs es h) (hk : τ[1]? = some (some (.ref kl))) (hl : τ.length = 8) (l : es.length < 100)
    (ht : ∀ (τ : DSt) (r : Addr) (e : SgE) (h1 : DH) (R : Bool → DH → Prop), τ[4]? = some (some (.ref r)) → h1 r = some (.lst [.str e.1, .bl e.2.1, .int e.2.2]) → R (e.2.1 == b) h1 → tt τ h1 R)
    (q : ∀ p, h p = none → Q (.ref p) (updD h p (.lst (prS b es)))) : dLc (diSeq (dVar 1)) (dgName 4) tt (dTup (dCons (dOp ixD (dVar 4) (dC (.int 0))) (dCons (dOp ixD (dVar 4) (dC (.int 2))) (dNil)))) [4] τ h Q := by
  refine dLc_flt (items := rs.map D.ref) (st := fun h' => h' kl = some (.lst (rs.map D.ref))) (h1 := h) (fun p i h' => h p = none ∧ h' = updD h p (.lst (prS b (es.take i)))) (fun R r => ?_) ?_ (fun p np => ⟨np, rfl⟩) ?_ ?_
  · exact ⟨_, hk, _, x.ek, r⟩
  · rintro p i h' ⟨np, rfl⟩
    exact Sub.new np _ _ x.ek
  · rintro p np i d h2 nx ei ⟨_, rfl⟩ hnx
    obtain ⟨r, y, rfl, er, ey, hr⟩ := x.at_ ei
    have hr1 := Sub.new (o := .lst (prS b (es.take i))) np _ _ hr
    have tk := prS_snoc b ey
    have lim : (prS b (es.take i)).length < sizeLine := by unfold prS; have := List.length_filter_le (fun e : SgE => e.2.1 == b) (es.take i); rw [List.length_map, sizeLine_eq]; rw [List.length_take] at this; omega
    have t4 : ((wipeD τ [4]).set 4 (some (.ref r)))[4]? = some (some (.ref r)) := by
      rw [List.getElem?_set_self (by simp [wipeD, hl])]
    simp only [dgName]
    refine ht _ r y _ _ t4 hr1 ?_
    by_cases z : (y.2.1 == b) = true
    · rw [if_pos z]
      rw [if_pos z] at tk
      refine ⟨_, t4, _, _, hr1, rfl, _, t4, _, _, hr1, rfl, by rw [sizeLine_eq]; exact Nat.le_of_ble_eq_true rfl, _, updD_same, lim, hnx _ ⟨np, ?_⟩⟩
      rw [updD_updD, tk]
    · rw [if_neg z]
      rw [if_neg z] at tk
      exact hnx _ ⟨np, by rw [tk]⟩
  · rintro p np h2 ⟨_, rfl⟩
    rw [List.length_map, x.len, List.take_length]
    exact q p np
theorem r_agr (ds : List D) (h : DH) (Q : DK) (Ed : DXK) (up : Up Q) (q : sp_agr ds h Q Ed) : t_law_agrees (sp_sgl true) (sp_sgl false) (sp_same 100) sp_sgn sp_sgc sp_ask14 sp_knd14 { nx := fun _ h' => Q .non h', rt := Q } (dstart N_law_agrees ds) h := by
  obtain ⟨a, d, es, kl, rs, wl, ws, rfl, x, w, ok, l, ew, wo, q⟩ := q
  unfold t_law_agrees N_law_agrees
  refine dSeq_go ?_
  walk_at "ds"
  refine ⟨_, x.ea, rfl, fun _ => ⟨a, d, es, rfl, x, by omega, fun p np => ?_⟩⟩
  have s1 := Sub.new (o := .lst (prS false es)) np
  have ep : updD h p (.lst (prS false es)) p = some (.lst (prS false es)) := updD_same
  have x1 := x.sub s1
  generalize updD h p (.lst (prS false es)) = h1 at *
  refine ⟨_, x1.ea, rfl, fun _ => ⟨a, d, es, rfl, x1, by omega, fun p2 np2 => ?_⟩⟩
  have s2 := Sub.new (o := .lst (prS true es)) np2
  have ep2 : updD h1 p2 (.lst (prS true es)) p2 = some (.lst (prS true es)) := updD_same
  have pne : p ≠ p2 := neD ep np2
  have n1 := np
  have n2 := s1.free np2
  have ep := s2 _ _ ep
  have x2 := x1.sub s2
  have sb := s1.trans s2
  clear s1 s2 x1
  generalize updD h1 p2 (.lst (prS true es)) = h2 at *
  refine ⟨by rw [sizeLine_eq]; decide, fun p3 np3 => ?_⟩
  have pn3 : p ≠ p3 := neD ep np3
  have p2n3 : p2 ≠ p3 := neD ep2 np3
  have ew0 := ew
  have s3 := Sub.new (o := .lst [.ref p, .ref p2]) np3
  have e3 : updD h2 p3 (.lst [.ref p, .ref p2]) p3 = some (.lst [.ref p, .ref p2]) := updD_same
  have ep := s3 _ _ ep
  have ep2 := s3 _ _ ep2
  have x3 := x2.sub s3
  have sb := sb.trans s3
  have w3 := w.sub sb
  have ew := sb _ _ ew
  clear s3 x2 np np2 np3
  generalize updD h2 p3 (.lst [.ref p, .ref p2]) = h3 at *
  refine dSeq_go ?_
  walk_at "ds"
  refine ⟨_, e3, _, by rw [atI_0], ?_⟩
  refine due_pairs false w3 rfl rfl l (fun τ r e h1 R t4 hr c => ?_) fun p4 np4 => ?_
  · walk_at "dl"
    refine ⟨_, t4, ?_⟩
    simp only [ixD_ref]
    refine ⟨_, _, hr, by rw [atI_1], ?_⟩
    simp only [truD_bl]
    have : (!e.2.1) = (e.2.1 == false) := by cases e.2.1 <;> rfl
    rw [this]
    exact c
  have s4 := Sub.new (o := .lst (prS false es)) np4
  have o1 := prS_ok ok false
  refine fun _ => same_l14 (s4 _ _ ep) updD_same o1.1 rfl (by omega) ?_
  simp only [truD_bl, Bool.true_eq_false, if_false]
  have e3 := s4 _ _ e3
  have ep := s4 _ _ ep
  have ep2 := s4 _ _ ep2
  have x4 := x3.sub s4
  have w4 := w3.sub s4
  have ew := s4 _ _ ew
  have sb := sb.trans s4
  clear s4 x3 w3 np4
  generalize updD h3 p4 (.lst (prS false es)) = h4 at *
  refine dSeq_go ?_
  walk_at "ds"
  refine ⟨_, e3, _, by rw [atI_1], ?_⟩
  refine due_pairs true w4 rfl rfl l (fun τ r e h1 R t4 hr c => ?_) fun p4 np4 => ?_
  · walk_at "dl"
    refine ⟨_, t4, ?_⟩
    simp only [ixD_ref]
    refine ⟨_, _, hr, by rw [atI_1], ?_⟩
    simp only [truD_bl]
    have : e.2.1 = (e.2.1 == true) := by cases e.2.1 <;> rfl
    rw [this]
    exact c
  have s4 := Sub.new (o := .lst (prS true es)) np4
  have o1 := prS_ok ok true
  refine fun _ => same_l14 (s4 _ _ ep2) updD_same o1.1 rfl (by omega) ?_
  simp only [truD_bl, Bool.true_eq_false, if_false]
  have e3 := s4 _ _ e3
  have ep := s4 _ _ ep
  have ep2 := s4 _ _ ep2
  have x5 := x4.sub s4
  have w5 := w4.sub s4
  have ew := s4 _ _ ew
  have sb := sb.trans s4
  clear s4 x4 w4 np4
  generalize updD h4 p4 (.lst (prS true es)) = h5 at *
  refine dSeq_go ?_
  walk_at "ds"
  have q1 := prS_ok ok false
  have lf : ∀ b, (prS b es).length < sizeLine := fun b => by unfold prS; have := List.length_filter_le (fun e : SgE => e.2.1 == b) es; rw [List.length_map, sizeLine_eq]; omega
  refine ⟨_, e3, _, by rw [atI_0], ⟨p, rfl, _, ep⟩, by rw [sizeLine_eq]; decide, p, rfl, _, ep, lf false, ?_⟩
  have s6 : Sub h (updD h5 p (.lst (prS false es ++ [.tup [.str "q", .int 1]]))) := Sub.mut sb n1
  have e3 : updD h5 p (.lst (prS false es ++ [.tup [.str "q", .int 1]])) p3 = _ := (updD_ne pn3.symm).trans e3
  have ep2 : updD h5 p (.lst (prS false es ++ [.tup [.str "q", .int 1]])) p2 = _ := (updD_ne pne.symm).trans ep2
  clear ep sb x5 w5 ew
  generalize updD h5 p (.lst (prS false es ++ [.tup [.str "q", .int 1]])) = h6 at *
  refine dSeq_go ?_
  walk_at "ds"
  refine ⟨_, e3, _, by rw [atI_1], ⟨p2, rfl, _, ep2⟩, by rw [sizeLine_eq]; decide, p2, rfl, _, ep2, lf true, ?_⟩
  have s7 : Sub h (updD h6 p2 (.lst (prS true es ++ [.tup [.str "q", .int 1]]))) := Sub.mut s6 n2
  clear s6 e3 ep2
  generalize updD h6 p2 (.lst (prS true es ++ [.tup [.str "q", .int 1]])) = h7 at *
  have x7 := x.sub s7
  have w7 := w.sub s7
  have ew7 := s7 _ _ ew0
  refine dSeq_go ?_
  walk_at "ds"
  refine ⟨_, x7.ea, fun _ => ⟨a, d, es, rfl, x7, by omega, _, rfl, by omega, by omega, ?_⟩⟩
  refine ⟨_, w7.ek, fun _ _ => same_v14 (by rw [List.length_map, w7.len]) rfl (by simp [dep]) ?_⟩
  simp only [truD_bl, Bool.true_eq_false, if_false]
  refine dSeq_go ?_
  refine dFor_ab (items := ws.map D.str) (st := fun h' => h' wl = some (.lst (ws.map D.str))) (h1 := h7) (fun i τ h' => Sub h h' ∧ ∃ z4 z5 z6 z7, τ = [some (.ref a), some (.ref kl), some (.ref wl), some (.ref p3), z4, z5, z6, z7]) (fun R r => by walk_at "dl"; exact ⟨_, ew7, r⟩) ⟨s7, _, _, _, _, rfl⟩ (fun i τ h' e => e.1 _ _ ew0) ?_ ?_
  · rintro i y τ h8 nx ei ⟨s8, z4, z5, z6, z7, rfl⟩ hnx
    rw [List.getElem?_map] at ei
    obtain ⟨s, es_, rfl⟩ := Option.map_eq_some_iff.mp ei
    have so := wo s (List.mem_of_getElem? es_)
    have x8 := x.sub s8
    have w8 := w.sub s8
    clear x7 w7 ew7 s7
    simp only [dgName, List.set_cons_zero, List.set_cons_succ]
    refine dSeq_go ?_
    refine dAsg_go ?_
    refine dLc_flt (items := rs.map D.ref) (st := fun h' => h' kl = some (.lst (rs.map D.ref))) (h1 := h8) (fun p i h' => h8 p = none ∧ h' = updD h8 p (.lst ((rwS (rs.take i) (es.take i) s).map D.ref))) (fun R r => ?_) ?_ (fun p np => ⟨np, rfl⟩) ?_ ?_
    · exact ⟨_, rfl, _, w8.ek, r⟩
    · rintro p i h' ⟨np, rfl⟩
      exact Sub.new np _ _ w8.ek
    · rintro p np i d h9 nx2 ei ⟨_, rfl⟩ hnx2
      obtain ⟨r, y, rfl, er, ey, hr⟩ := w8.at_ ei
      have hr1 := Sub.new (o := .lst ((rwS (rs.take i) (es.take i) s).map D.ref)) np _ _ hr
      have tk := rwS_snoc (s := s) er ey
      walk_at "dl"
      refine ⟨_, rfl, _, _, hr1, rfl, _, rfl, ?_⟩
      rw [eqD_str (ok.ok y (List.mem_of_getElem? ey)) so]
      refine ⟨_, rfl, ?_⟩
      by_cases z : y.1 = s
      · rw [if_pos (by simpa using z)]
        rw [if_pos z] at tk
        refine ⟨_, rfl, _, updD_same, ?_, hnx2 _ ⟨np, by rw [updD_updD, tk, List.map_append]; rfl⟩⟩
        unfold rwS
        have := List.length_filter_le (fun p : Addr × SgE => decide (p.2.1 = s)) ((rs.take i).zip (es.take i))
        rw [List.length_zip, List.length_take, List.length_take] at this
        rw [List.length_map, List.length_map, sizeLine_eq]; omega
      · rw [if_neg (by simpa using z)]
        rw [if_neg z] at tk
        exact hnx2 _ ⟨np, by rw [tk]⟩
    · rintro p np h9 ⟨_, rfl⟩
      rw [List.length_map, List.take_length, w.len, List.take_length]
      have s9 := s8.trans (Sub.new (o := .lst ((rwS rs es s).map D.ref)) np)
      have er : updD h8 p (.lst ((rwS rs es s).map D.ref)) p = some (.lst ((rwS rs es s).map D.ref)) := updD_same
      generalize updD h8 p (.lst ((rwS rs es s).map D.ref)) = h9 at *
      have x9 := x.sub s9
      have w9 := w.sub s9
      clear x8 w8 s8
      simp only [dgName, List.set_cons_zero, List.set_cons_succ]
      have lenR : (((rwS rs es s).map D.ref).length : Int) = if (lkS es s).isSome then 1 else 0 := by
        cases lk : lkS es s with
        | none => rw [rwS_none lk]; rfl
        | some q => obtain ⟨i, r, e1, _, _⟩ := rwS_some (rs := rs) w.len ok.nd lk; rw [e1]; rfl
      refine dSeq_go ?_
      walk_at "ds"
      refine ⟨_, x9.ea, fun _ => ⟨a, d, es, s, rfl, x9, _, rfl, _, er, fun _ => ?_⟩⟩
      refine fun _ => same_v14 (by rw [lenR]; cases (lkS es s).isSome <;> rfl) rfl (by simp [dep]) ?_
      simp only [truD_bl, Bool.true_eq_false, if_false]
      refine dSeq_go ?_
      walk_at "ds"
      refine ⟨by rw [sizeLine_eq]; decide, fun p7 np7 => ?_⟩
      have e7 : updD h9 p7 (.lst [.str s]) p7 = some (.lst [.str s]) := updD_same
      have s10 := s9.trans (Sub.new (o := .lst [.str s]) np7)
      have er := Sub.new (o := .lst [.str s]) np7 _ _ er
      generalize updD h9 p7 (.lst [.str s]) = h10 at *
      refine dSeq_cut (fun τ h' => Sub h h' ∧ ∃ p8 z6, h' p8 = some (.lst (askL s (lkS es s))) ∧ τ = [some (.ref a), some (.ref kl), some (.ref wl), some (.ref p3), z4, some (.str s), z6, some (.ref p8)]) (fun nx2 hnx2 => ?_) ?_
      · walk_at "ds"
        refine ⟨_, er, fun _ => ?_⟩
        rw [lenR]
        cases lk : lkS es s with
        | none =>
          rw [if_neg (by simp)]
          exact hnx2 _ _ ⟨s10, p7, _, by rw [lk]; exact e7, rfl⟩
        | some q0 =>
          obtain ⟨b, n⟩ := q0
          rw [if_pos (by simp)]
          obtain ⟨i, r, e1, e2, e3⟩ := rwS_some (rs := rs) w.len ok.nd lk
          have hr := s10 _ _ (w.row i r _ e2 e3)
          rw [e1] at er
          refine ⟨_, er, .ref r, by rw [List.map_cons, atI_0], _, _, hr, by rw [atI_2], _, er, .ref r, by rw [List.map_cons, atI_0], _, _, hr, by rw [atI_1], by rw [sizeLine_eq]; decide, fun p12 np12 => ?_⟩
          exact hnx2 _ _ ⟨s10.trans (Sub.new np12), p12, _, by rw [lk]; exact updD_same, rfl⟩
      · rintro τ h11 ⟨s11, p8, z6, e8, rfl⟩
        walk_at "ds"
        refine fun _ => ⟨a, d, es, s, rfl, x.sub s11, fun p9 h12 s12 e9 np9 => ?_⟩
        have oA : okDs (askL s (lkS es s)) = true ∧ deps (askL s (lkS es s)) ≤ 2 := by
          cases lkS es s with
          | none => exact ⟨by simp [askL, okDs, okD, so], by simp [askL, deps, dep]⟩
          | some q0 => exact ⟨by simp [askL, okDs, okD], by simp [askL, deps, dep]⟩
        have oK : okDs (kndL s (lkS es s)) = true ∧ deps (kndL s (lkS es s)) ≤ 2 := by
          cases lkS es s with
          | none => exact ⟨by simp [kndL, okDs, okD, so], by simp [kndL, deps, dep]⟩
          | some q0 => exact ⟨by simp [kndL, okDs, okD], by simp [kndL, deps, dep]⟩
        refine fun _ => same_l14 e9 (s12 _ _ e8) oA.1 rfl (by omega) ?_
        simp only [truD_bl, Bool.true_eq_false, if_false]
        have s13 := s11.trans s12
        refine fun _ => ⟨a, d, es, s, rfl, x.sub s13, fun p10 h14 s14 e10 np10 => ?_⟩
        refine ⟨_, s14 _ _ (s12 _ _ e8), fun p11 np11 => ?_⟩
        have ec : cutD (askL s (lkS es s)) (some (-1)) none = kndL s (lkS es s) := by
          cases lkS es s with
          | none => rfl
          | some q0 => rfl
        rw [ec]
        refine fun _ => same_l14 (Sub.new np11 _ _ e10) updD_same oK.1 rfl (by omega) ?_
        simp only [truD_bl, Bool.true_eq_false, if_false]
        exact hnx _ _ ⟨(s13.trans s14).trans (Sub.new np11), _, _, _, _, rfl⟩
  · rintro τ h8 ⟨s8, z4, z5, z6, z7, rfl⟩
    exact q _ s8
theorem subOf14 {x : Addr} {h h' : DH} {u : DO} (n : h x = none) (o : Off x (updD h x u) h') : Sub h h' := fun b w e => o b w (neD e n) (by rw [updD_ne (neD e n)]; exact e)
/-! the whole law -/
structure S14 (a0 wl sg kk : Addr) (ws : List Str) (sA dA kA : Bool → Addr) (rs : Bool → List Addr) (es : Bool → List SgE) (h : DH) : Prop where
  dk : IsDeck h a0
  wd : h wl = some (.lst (ws.map .str))
  sgl : h sg = some (.lst [.ref (sA false), .ref (sA true)])
  kkl : h kk = some (.lst [.ref (kA false), .ref (kA true)])
  s : ∀ b, Sg (sA b) (dA b) (es b) h
  r : ∀ b, Rw (kA b) (rs b) (es b) h
structure N14 (a0 wl sg kk : Addr) (dA kA : Bool → Addr) : Prop where
  w : wl ≠ a0
  g : sg ≠ a0
  k : kk ≠ a0
  ka : ∀ b, kA b ≠ a0
  kw : ∀ b, kA b ≠ wl
  kg : ∀ b, kA b ≠ sg
  kk : ∀ b, kA b ≠ kk
  k2 : kA false ≠ kA true
  d2 : dA false ≠ dA true
section
variable {a0 wl sg kk : Addr} {ws : List Str} {sA dA kA : Bool → Addr} {rs : Bool → List Addr} {es : Bool → List SgE} {h h' : DH}
theorem S14.sub (x : S14 a0 wl sg kk ws sA dA kA rs es h) (s : Sub h h') : S14 a0 wl sg kk ws sA dA kA rs es h' :=
  ⟨let ⟨e, q⟩ := x.dk; ⟨e, s _ _ q⟩, s _ _ x.wd, s _ _ x.sgl, s _ _ x.kkl, fun b => (x.s b).sub s, fun b => (x.r b).sub s⟩
theorem row_ne {kl : Addr} {rs : List Addr} {es : List SgE} (x : Rw kl rs es h) {i : Nat} {r : Addr} {e : SgE} (h1 : rs[i]? = some r) (h2 : es[i]? = some e) {a : Addr} {o : DO} (ea : h a = some o) (n : ∀ s l, o ≠ .lst (.str s :: l)) : r ≠ a := by
  rintro rfl
  have := x.row i r e h1 h2
  rw [ea] at this
  exact n _ _ (Option.some.inj this)
theorem ints_ne (xs : List Int) : ∀ s l, DO.lst (xs.map D.int) ≠ .lst (.str s :: l) := fun s l e => by
  cases xs with
  | nil => cases e
  | cons x r => cases e
theorem refs_ne (xs : List Addr) : ∀ s l, DO.lst (xs.map D.ref) ≠ .lst (.str s :: l) := fun s l e => by
  cases xs with
  | nil => cases e
  | cons x r => cases e
theorem S14.draw (N : N14 a0 wl sg kk dA kA) (x : S14 a0 wl sg kk ws sA dA kA rs es h) (d : Dk a0 h h') : S14 a0 wl sg kk ws sA dA kA rs es h' := by
  obtain ⟨ds, e0⟩ := x.dk
  have na : ∀ {b : Addr} {o : DO}, h b = some o → (∀ ys, o ≠ .lst ys) → b ≠ a0 := fun e n z => by rw [z, e0] at e; exact n _ (Option.some.inj e).symm
  refine ⟨d.deck, by rw [d.ne N.w]; exact x.wd, by rw [d.ne N.g]; exact x.sgl, by rw [d.ne N.k]; exact x.kkl, fun b => ⟨?_, ?_⟩, fun b => ⟨by rw [d.ne (N.ka b)]; exact (x.r b).ek, (x.r b).len, fun i r e h1 h2 => ?_⟩⟩
  · rw [d.ne (na (x.s b).ea fun _ z => by cases z)]; exact (x.s b).ea
  · rw [d.ne (na (x.s b).ed fun _ z => by cases z)]; exact (x.s b).ed
  · rw [d.ne (row_ne (x.r b) h1 h2 e0 (ints_ne _))]; exact (x.r b).row i r e h1 h2
/-- a deed has changed the signature w, then the law's rows -/
theorem S14.deed (N : N14 a0 wl sg kk dA kA) (x : S14 a0 wl sg kk ws sA dA kA rs es h) (w : Bool) {e : SgE} {p : Addr} (sg' : Sg (sA w) (dA w) (es w ++ [e]) h') (o : Off (dA w) h h') (np : h' p = none) :
    h' (kA w) = some (.lst ((rs w).map .ref)) ∧ S14 a0 wl sg kk ws sA dA kA (fun b => if b = w then rs w ++ [p] else rs b) (fun b => if b = w then es w ++ [e] else es b) (updD (updD h' p (.lst [.str e.1, .bl e.2.1, .int e.2.2])) (kA w) (.lst ((rs w).map .ref ++ [.ref p]))) := by
  obtain ⟨ds, e0⟩ := x.dk
  have ed := (x.s w).ed
  have lne : ∀ {b : Addr} {l : List D}, h b = some (.lst l) → b ≠ dA w := fun e z => by rw [z, ed] at e; cases e
  have ine : ∀ {b : Addr} {C : Str} {l : List (Str × D)}, h b = some (.ins C l) → b ≠ dA w := fun e z => by rw [z, ed] at e; cases e
  have up : ∀ {b : Addr} {u : DO}, h' b = some u → b ≠ kA w → updD (updD h' p (.lst [.str e.1, .bl e.2.1, .int e.2.2])) (kA w) (.lst ((rs w).map .ref ++ [.ref p])) b = some u := fun eb n => by
    rw [updD_ne n, updD_ne (neD eb np)]; exact eb
  have ekw := o _ _ (lne (x.r w).ek) (x.r w).ek
  have nd : dA (!w) ≠ dA w := by cases w; exact N.d2.symm; exact N.d2
  have nk : kA (!w) ≠ kA w := by cases w; exact N.k2.symm; exact N.k2
  have rowk : ∀ (b : Bool) (i : Nat) (r : Addr) (y : SgE), (rs b)[i]? = some r → (es b)[i]? = some y → updD (updD h' p (.lst [.str e.1, .bl e.2.1, .int e.2.2])) (kA w) (.lst ((rs w).map .ref ++ [.ref p])) r = some (.lst [.str y.1, .bl y.2.1, .int y.2.2]) := fun b i r y h1 h2 =>
    up (o _ _ (lne ((x.r b).row i r y h1 h2)) ((x.r b).row i r y h1 h2)) (row_ne (x.r b) h1 h2 (x.r w).ek (refs_ne _))
  refine ⟨ekw, ⟨ds, up (o _ _ (lne e0) e0) (N.ka w).symm⟩, up (o _ _ (lne x.wd) x.wd) (N.kw w).symm, up (o _ _ (lne x.sgl) x.sgl) (N.kg w).symm, up (o _ _ (lne x.kkl) x.kkl) (N.kk w).symm, fun b => ?_, fun b => ?_⟩
  · by_cases z : b = w
    · subst z
      simp only [if_true]
      exact ⟨up sg'.ea (fun z => by have := sg'.ea; rw [z, ekw] at this; cases this), up sg'.ed (fun z => by have := sg'.ed; rw [z, ekw] at this; cases this)⟩
    · rw [if_neg z]
      have eb : b = !w := by cases b <;> cases w <;> simp_all
      subst eb
      exact ⟨up (o _ _ (ine (x.s _).ea) (x.s _).ea) (fun z => by have := (x.s (!w)).ea; rw [z, (x.r w).ek] at this; cases this), up (o _ _ nd (x.s _).ed) (fun z => by have := (x.s (!w)).ed; rw [z, (x.r w).ek] at this; cases this)⟩
  · by_cases z : b = w
    · subst z
      simp only [if_true]
      refine ⟨by rw [updD_same, List.map_append]; rfl, by rw [List.length_append, List.length_append, (x.r b).len]; rfl, fun i r y h1 h2 => ?_⟩
      by_cases hi : i < (rs b).length
      · rw [List.getElem?_append_left hi] at h1
        rw [List.getElem?_append_left (by rw [← (x.r b).len]; exact hi)] at h2
        exact rowk b i r y h1 h2
      · have hl := (List.getElem?_eq_some_iff.mp h1).1
        rw [List.length_append] at hl
        have ei : i = (rs b).length := by simp at hl; omega
        subst ei
        rw [List.getElem?_append_right (Nat.le_refl _)] at h1
        rw [(x.r b).len, List.getElem?_append_right (Nat.le_refl _)] at h2
        simp at h1 h2
        subst h1 h2
        rw [updD_ne (fun z => by rw [z, ekw] at np; cases np), updD_same]
    · rw [if_neg z, if_neg z]
      have eb : b = !w := by cases b <;> cases w <;> simp_all
      subst eb
      exact ⟨up (o _ _ (lne (x.r _).ek) (x.r _).ek) nk, (x.r _).len, fun i r y h1 h2 => rowk _ i r y h1 h2⟩
end
theorem dd_new {es : List SgE} {s : Str} {b : Bool} {n : Int} (h : ddS es s b n = .new) : lkS es s = none := by
  unfold ddS at h
  split at h
  · cases h
  · split at h
    · assumption
    · split at h
      · cases h
      · split at h <;> cases h
theorem dd_same {es : List SgE} {s : Str} {b : Bool} {n : Int} (h : ddS es s b n ≠ .new) (l : (dueL s n (ddS es s b n)).length = 0) : (lkS es s).isSome = true := by
  cases lk : lkS es s with
  | some p => rfl
  | none =>
    unfold ddS at h l
    rw [lk] at h l
    by_cases c : 8 < n
    · rw [if_pos c] at l; cases l
    · rw [if_neg c] at h; exact absurd rfl h
def selB {α : Type} (x y : α) : Bool → α
  | false => x
  | true => y
theorem r_law14 (ds : List D) (h : DH) (Q : DK) (Ed : DXK) (up : Up Q) (q : spLaw ds h Q Ed) : t_law_k14 sp_draws sp_words sp_sgi sp_take sp_due14 (sp_same 100) sp_add14 sp_agr { nx := fun _ h' => Q .non h', rt := Q } (dstart N_law_k14 ds) h := by
  obtain ⟨sc, rfl, l1, l2, q⟩ := q
  unfold t_law_k14 N_law_k14
  refine dSeq_go ?_
  walk_at "ds"
  refine fun _ => ⟨sc, rfl, l1, l2, fun a0 es0 na0 => ?_⟩
  refine dSeq_go ?_
  walk_at "ds"
  refine fun _ => ⟨a0, 5, rfl, ⟨es0, updD_same⟩, by decide, by decide, fun wl ws h2 lw nd wk o2 dk2 wla nwl ew => ?_⟩
  clear na0 o2 nwl
  refine dSeq_go ?_
  walk_at "ds"
  refine fun s0 ns0 _ => ⟨s0, rfl, updD_same, fun d0 h3 sg0 o3 nd0 => ⟨rfl, ?_⟩⟩
  refine fun s1 ns1 _ => ⟨s1, rfl, updD_same, fun d1 h4 sg1 o4 nd1 => ⟨rfl, ?_⟩⟩
  have b3 := subOf14 ns0 o3
  have b4 := subOf14 ns1 o4
  have nd2 : d0 ≠ d1 := fun z => by have := (sg0.sub (Sub.new (o := .ins "Signature" []) ns1)).ed; rw [z, nd1] at this; cases this
  have sg0 := sg0.sub b4
  have ew := b4 _ _ (b3 _ _ ew)
  obtain ⟨es1, ea⟩ := dk2
  have ea := b4 _ _ (b3 _ _ ea)
  clear b3 b4 o3 o4 nd0 nd1 ns0 ns1
  refine ⟨by rw [sizeLine_eq]; decide, fun sg nsg => ?_⟩
  have sgw : sg ≠ a0 := (neD ea nsg).symm
  have s5 := Sub.new (o := .lst [.ref s0, .ref s1]) nsg
  have eg : updD h4 sg (.lst [.ref s0, .ref s1]) sg = some (.lst [.ref s0, .ref s1]) := updD_same
  have sg0 := sg0.sub s5
  have sg1 := sg1.sub s5
  have ew := s5 _ _ ew
  have ea := s5 _ _ ea
  clear s5 nsg
  generalize updD h4 sg (.lst [.ref s0, .ref s1]) = h5 at *
  refine dSeq_go ?_
  walk_at "ds"
  refine ⟨Nat.zero_le _, fun k0 nk0 => ⟨Nat.zero_le _, fun k1 nk1 => ⟨by rw [sizeLine_eq]; decide, fun kk nkk => ?_⟩⟩⟩
  have sb : Sub h5 (updD (updD (updD h5 k0 (.lst [])) k1 (.lst [])) kk (.lst [.ref k0, .ref k1])) := (Sub.new nk0).trans ((Sub.new nk1).trans (Sub.new nkk))
  have k01 : k0 ≠ k1 := fun z => by rw [← z, updD_same] at nk1; cases nk1
  have kk1 : k1 ≠ kk := fun z => by rw [← z, updD_same] at nkk; cases nkk
  have kk0 : k0 ≠ kk := fun z => by rw [← z, updD_ne k01, updD_same] at nkk; cases nkk
  have nk1' : h5 k1 = none := by rw [updD_ne k01.symm] at nk1; exact nk1
  have nkk' : h5 kk = none := by rw [updD_ne kk1.symm, updD_ne kk0.symm] at nkk; exact nkk
  have N : N14 a0 wl sg kk (selB d0 d1) (selB k0 k1) := ⟨wla, sgw, (neD ea nkk').symm, (fun b => by cases b; exact (neD ea nk0).symm; exact (neD ea nk1').symm), (fun b => by cases b; exact (neD ew nk0).symm; exact (neD ew nk1').symm), (fun b => by cases b; exact (neD eg nk0).symm; exact (neD eg nk1').symm),
    (fun b => by cases b; exact kk0; exact kk1), k01, nd2⟩
  have X : S14 a0 wl sg kk ws (selB s0 s1) (selB d0 d1) (selB k0 k1) (fun _ => []) (fun _ => []) (updD (updD (updD h5 k0 (.lst [])) k1 (.lst [])) kk (.lst [.ref k0, .ref k1])) := by
    refine ⟨⟨es1, sb _ _ ea⟩, sb _ _ ew, sb _ _ eg, updD_same, fun b => ?_, fun b => ⟨?_, rfl, fun i r e h1 => by simp at h1⟩⟩
    · cases b
      · exact sg0.sub sb
      · exact sg1.sub sb
    · cases b
      · show updD _ _ _ k0 = _
        rw [updD_ne kk0, updD_ne k01, updD_same]; rfl
      · show updD _ _ _ k1 = _
        rw [updD_ne kk1, updD_same]; rfl
  clear sg0 sg1 ew ea eg nk0 nk1 nkk nk1' nkk' k01 kk0 kk1 sb wla sgw nd2
  generalize updD (updD (updD h5 k0 (.lst [])) k1 (.lst [])) kk (.lst [.ref k0, .ref k1]) = h6 at *
  generalize hs : selB s0 s1 = sA at *
  generalize hd : selB d0 d1 = dA at *
  generalize hk : selB k0 k1 = kA at *
  have wok : ∀ w ∈ ws, PyData.strOk w = true := fun w m => (wk w m).ok
  refine dSeq_cut (fun τ h' => ∃ rs es, S14 a0 wl sg kk ws sA dA kA rs es h' ∧ (∀ b, EsOk (es b)) ∧ (∀ b, (es b).length < 100) ∧ ∃ z5 z6 z7 z8 z9 z10 z11 z12 z13, τ = [some (.lsv (sc.map .int)), some (.ref a0), some (.ref wl), some (.ref sg), some (.ref kk), z5, z6, z7, z8, z9, z10, z11, z12, z13]) (fun nx hnx => ?_) ?_
  · refine dFor_abI (fun items st h1 => ∃ v : Nat, v ≤ 14 ∧ items = rangeD 0 v ∧ st = (fun _ => True) ∧ Dk a0 h6 h1) (fun R r => ?_) ?_
    · walk_at "dl"
      refine fun _ => ⟨a0, 14, rfl, X.dk, by decide, fun v h7 v0 v1 dk => ?_⟩
      exact ⟨v, rfl, by omega, by omega, r _ _ _ ⟨v.toNat, by omega, rfl, rfl, dk⟩⟩
    rintro items st h7 ⟨v, hv, rfl, rfl, dk⟩
    refine ⟨fun i τ h' => ∃ rs es, S14 a0 wl sg kk ws sA dA kA rs es h' ∧ (∀ b, EsOk (es b)) ∧ (∀ b, (es b).length ≤ i) ∧ ∃ z5 z6 z7 z8 z9 z10 z11 z12 z13, τ = [some (.lsv (sc.map .int)), some (.ref a0), some (.ref wl), some (.ref sg), some (.ref kk), z5, z6, z7, z8, z9, z10, z11, z12, z13], ⟨_, _, X.draw N dk, fun _ => ⟨.nil, by simp⟩, fun _ => by simp, _, _, _, _, _, _, _, _, _, rfl⟩, fun _ _ _ _ => trivial, ?_, ?_⟩
    · rintro i y τ h8 nx2 ei ⟨rs, es, X, ok, le, z5, z6, z7, z8, z9, z10, z11, z12, z13, rfl⟩ hnx2
      obtain ⟨hi, rfl⟩ := rangeD_get ei
      simp only [dgName, List.set_cons_zero, List.set_cons_succ]
      refine dSeq_go ?_
      walk_at "ds"
      refine fun _ => ⟨a0, 4, rfl, X.dk, by decide, fun v1 h9 v10 v11 dk => ?_⟩
      have X := X.draw N dk
      clear dk
      simp only [eqD_int, intBD]
      generalize hw : decide (v1 = 0) = w
      have ixs : ∀ {α : Type} (f : Bool → α), atI [f false, f true] (if w then 1 else 0) = some (f w) := fun f => by cases w; exact atI_0; exact atI_1
      clear hw v10 v11
      refine dSeq_go ?_
      walk_at "ds"
      refine fun _ => ⟨a0, 5, rfl, X.dk, by decide, fun v2 h10 v20 v21 dk => ?_⟩
      have X := X.draw N dk
      clear dk
      obtain ⟨j, rfl⟩ := Int.eq_ofNat_of_zero_le v20
      have hj : j < ws.length := by omega
      have so := wok _ (List.getElem_mem hj)
      generalize hs' : ws[j] = s at so
      refine ⟨_, .str s, X.wd, atI_nat (by rw [List.getElem?_map, List.getElem?_eq_getElem hj, hs']; rfl), ?_⟩
      refine dSeq_go ?_
      walk_at "ds"
      refine fun _ => ⟨a0, 2, rfl, X.dk, by decide, fun v3 h11 v30 v31 dk => ?_⟩
      have X := X.draw N dk
      clear dk
      simp only [eqD_int]
      generalize decide (v3 = 1) = b
      clear v30 v31 v20 v21
      refine dSeq_go ?_
      walk_at "ds"
      refine fun _ => ⟨a0, 10, rfl, X.dk, by decide, fun n h12 n0 n1 dk => ?_⟩
      have X := X.draw N dk
      clear dk
      refine dSeq_go ?_
      refine dAsg_go ?_
      have w8 := X.r w
      refine dLc_flt (items := (rs w).map D.ref) (st := fun h' => h' (kA w) = some (.lst ((rs w).map D.ref))) (h1 := h12) (fun p i h' => h12 p = none ∧ h' = updD h12 p (.lst ((rwS ((rs w).take i) ((es w).take i) s).map D.ref))) (fun R r => ?_) ?_ (fun p np => ⟨np, rfl⟩) ?_ ?_
      · exact ⟨_, rfl, _, rfl, _, _, X.kkl, ixs fun b => D.ref (kA b), _, w8.ek, r⟩
      · rintro p i h' ⟨np, rfl⟩
        exact Sub.new np _ _ w8.ek
      · rintro p np i d h9 nx2 ei ⟨_, rfl⟩ hnx2
        obtain ⟨r, y, rfl, er, ey, hr⟩ := w8.at_ ei
        have hr1 := Sub.new (o := .lst ((rwS ((rs w).take i) ((es w).take i) s).map D.ref)) np _ _ hr
        have tk := rwS_snoc (s := s) er ey
        walk_at "dl"
        refine ⟨_, rfl, _, _, hr1, rfl, _, rfl, ?_⟩
        rw [eqD_str ((ok w).ok y (List.mem_of_getElem? ey)) so]
        refine ⟨_, rfl, ?_⟩
        by_cases z : y.1 = s
        · rw [if_pos (by simpa using z)]
          rw [if_pos z] at tk
          refine ⟨_, rfl, _, updD_same, ?_, hnx2 _ ⟨np, by rw [updD_updD, tk, List.map_append]; rfl⟩⟩
          unfold rwS
          have := List.length_filter_le (fun p : Addr × SgE => decide (p.2.1 = s)) (((rs w).take i).zip ((es w).take i))
          rw [List.length_zip, List.length_take, List.length_take] at this
          have := le w
          rw [List.length_map, List.length_map, sizeLine_eq]; omega
        · rw [if_neg (by simpa using z)]
          rw [if_neg z] at tk
          exact hnx2 _ ⟨np, by rw [tk]⟩
      · rintro p np h13 ⟨_, rfl⟩
        rw [List.length_map, List.take_length, w8.len, List.take_length]
        have sp := Sub.new (o := .lst ((rwS (rs w) (es w) s).map D.ref)) np
        have er : updD h12 p (.lst ((rwS (rs w) (es w) s).map D.ref)) p = some (.lst ((rwS (rs w) (es w) s).map D.ref)) := updD_same
        have pne : p ≠ a0 := by obtain ⟨_, e⟩ := X.dk; exact (neD e np).symm
        have X := X.sub sp
        clear sp w8
        generalize updD h12 p (.lst ((rwS (rs w) (es w) s).map D.ref)) = h13 at *
        have lenR : (((rwS (rs w) (es w) s).map D.ref).length : Int) = if (lkS (es w) s).isSome then 1 else 0 := by
          cases lk : lkS (es w) s with
          | none => rw [rwS_none lk]; rfl
          | some q => obtain ⟨i, r, e1, _, _⟩ := rwS_some (rs := rs w) (X.r w).len (ok w).nd lk; rw [e1]; rfl
        simp only [dgName, List.set_cons_zero, List.set_cons_succ]
        refine dSeq_cut (fun τ h' => ∃ n : Int, S14 a0 wl sg kk ws sA dA kA rs es h' ∧ h' p = some (.lst ((rwS (rs w) (es w) s).map D.ref)) ∧ τ = [some (.lsv (sc.map .int)), some (.ref a0), some (.ref wl), some (.ref sg), some (.ref kk), some (.int (0 + (i : Int))), some (.int (if w then 1 else 0)), some (.str s), some (.bl b), some (.int n), some (.ref p), z11, z12, z13]) (fun nx3 hnx3 => ?_) ?_
        · walk_at "ds"
          refine ⟨_, er, fun _ => ?_⟩
          rw [lenR]
          cases lk : lkS (es w) s with
          | none =>
            rw [if_neg (by simp)]
            exact hnx3 _ _ ⟨n, X, er, rfl⟩
          | some q0 =>
            obtain ⟨b0, m⟩ := q0
            rw [if_pos (by simp)]
            refine fun _ => ⟨a0, 2, rfl, X.dk, by decide, fun v3 h14 _ _ dk => ?_⟩
            have X := X.draw N dk
            have er : h14 p = _ := (dk.ne pne).trans er
            simp only [eqD_int]
            refine ⟨_, rfl, ?_⟩
            by_cases z : v3 = 1
            · rw [if_pos (decide_eq_true z)]
              obtain ⟨i2, r, e1, e2, e3⟩ := rwS_some (rs := rs w) (X.r w).len (ok w).nd lk
              have hr := (X.r w).row i2 r _ e2 e3
              rw [e1] at er
              refine ⟨_, er, .ref r, by rw [List.map_cons, atI_0], _, _, hr, by rw [atI_2], hnx3 _ _ ⟨m, X, by rw [e1]; exact er, rfl⟩⟩
            · rw [if_neg (by simpa using z)]
              exact hnx3 _ _ ⟨n, X, er, rfl⟩
        clear er X
        rintro τ h14 ⟨n, X, er, rfl⟩
        refine dSeq_go ?_
        walk_at "ds"
        refine ⟨_, X.kkl, _, ixs fun b => D.ref (kA b), fun _ => ⟨_, _, _, s, b, n, rfl, X.r w, ok w, so, fun p2 np2 => ?_⟩⟩
        have sp := Sub.new (o := .lst (dueL s n (ddS (es w) s b n))) np2
        have e2 : updD h14 p2 (.lst (dueL s n (ddS (es w) s b n))) p2 = some (.lst (dueL s n (ddS (es w) s b n))) := updD_same
        have er := sp _ _ er
        have X := X.sub sp
        clear sp np2
        generalize updD h14 p2 (.lst (dueL s n (ddS (es w) s b n))) = h15 at *
        refine dSeq_go ?_
        walk_at "ds"
        refine ⟨_, X.sgl, _, ixs fun b => D.ref (sA b), fun _ => ⟨_, dA w, _, s, b, n, rfl, X.s w, by have := le w; omega, so, fun p3 h16 np3 e3 hnew hold => ?_⟩⟩
        have oD : okDs (dueL s n (ddS (es w) s b n)) = true ∧ deps (dueL s n (ddS (es w) s b n)) ≤ 2 := by
          cases ddS (es w) s b n <;> simp [dueL, okDs, okD, so, deps, dep] <;> decide +kernel
        have ed := (X.s w).ed
        have keep : ∀ q l, h15 q = some (.lst l) → h16 q = some (.lst l) := fun q l e => by
          by_cases z : ddS (es w) s b n = .new
          · exact (hnew z).2 _ _ (fun y => by rw [y, ed] at e; cases e) e
          · exact hold z _ _ e
        have e2 := keep _ _ e2
        have er := keep _ _ er
        refine fun _ => same_l14 e3 e2 oD.1 rfl (by omega) ?_
        simp only [truD_bl, Bool.true_eq_false, if_false]
        refine dSeq_cut (fun τ h' => ∃ rs es, S14 a0 wl sg kk ws sA dA kA rs es h' ∧ (∀ b, EsOk (es b)) ∧ (∀ b, (es b).length ≤ i + 1) ∧ ∃ z5 z6 z7 z8 z9 z10 z11 z12 z13, τ = [some (.lsv (sc.map .int)), some (.ref a0), some (.ref wl), some (.ref sg), some (.ref kk), z5, z6, z7, z8, z9, z10, z11, z12, z13]) (fun nx3 hnx3 => ?_) ?_
        · walk_at "ds"
          refine ⟨_, e2, fun _ => ?_⟩
          by_cases z : ddS (es w) s b n = .new
          · have lk := dd_new z
            obtain ⟨sg', o⟩ := hnew z
            rw [z, if_pos (by rfl)]
            refine ⟨_, er, fun _ => ?_⟩
            rw [lenR, lk, if_pos (by simp)]
            have ekw := keep _ _ (X.r w).ek
            refine ⟨_, keep _ _ X.kkl, _, ixs fun b => D.ref (kA b), ⟨kA w, rfl, _, ekw⟩, by rw [sizeLine_eq]; decide, fun p4 np4 => ?_⟩
            obtain ⟨_, X'⟩ := X.deed N w (e := (s, b, n)) sg' o np4
            refine ⟨kA w, rfl, _, by rw [updD_ne (neD ekw np4)]; exact ekw, by rw [List.length_map, (X.r w).len, sizeLine_eq]; have := le w; omega, hnx3 _ _ ⟨_, _, X', fun b' => ?_, fun b' => ?_, _, _, _, _, _, _, _, _, _, rfl⟩⟩
            · by_cases y : b' = w
              · simp only [y, if_true]
                refine ⟨?_, fun e me => ?_⟩
                · rw [List.map_append, List.nodup_append]
                  refine ⟨(ok w).nd, by simp, fun x mx y my e => ?_⟩
                  obtain ⟨e0, m0, rfl⟩ := List.mem_map.mp mx
                  have : y = s := by simpa using my
                  exact lkS_none lk e0 m0 (e.trans this)
                · rcases List.mem_append.mp me with m | m
                  · exact (ok w).ok e m
                  · rw [List.mem_singleton.mp m]; exact so
              · simp only [y, if_false]; exact ok b'
            · by_cases y : b' = w
              · simp only [y, if_true, List.length_append, List.length_singleton]; have := le w; omega
              · simp only [y, if_false]; have := le b'; omega
          · have X := X.sub (hold z)
            have fin : nx3 [some (.lsv (sc.map .int)), some (.ref a0), some (.ref wl), some (.ref sg), some (.ref kk), some (.int (0 + (i : Int))), some (.int (if w then 1 else 0)), some (.str s), some (.bl b), some (.int n), some (.ref p), z11, some (.ref p2), z13] h16 := hnx3 _ _ ⟨rs, es, X, ok, fun b' => by have := le b'; omega, _, _, _, _, _, _, _, _, _, rfl⟩
            by_cases y : ((dueL s n (ddS (es w) s b n)).length : Int) = 0
            · rw [if_pos y]
              refine ⟨_, er, fun _ => ?_⟩
              rw [lenR, dd_same z (by omega), if_neg (by simp)]
              exact fin
            · rw [if_neg y]
              exact fin
        · rintro τ h17 ⟨rs, es, X, ok, le, z5, z6, z7, z8, z9, z10, z11, z12, z13, rfl⟩
          refine dFor_ab (items := rangeD 0 2) (st := fun _ => True) (h1 := h17) (fun j τ h' => Sub h17 h' ∧ ∃ z5 z6 z7 z8 z9 z10 z11 z12 z13, τ = [some (.lsv (sc.map .int)), some (.ref a0), some (.ref wl), some (.ref sg), some (.ref kk), z5, z6, z7, z8, z9, z10, z11, z12, z13]) (fun R r => by walk_at "dl"; exact ⟨by decide, by decide, r⟩) ⟨.refl _, _, _, _, _, _, _, _, _, _, rfl⟩ (fun _ _ _ _ => trivial) ?_ ?_
          · rintro j y τ h18 nx4 ej ⟨s18, z5, z6, z7, z8, z9, z10, z11, z12, z13, rfl⟩ hnx4
            obtain ⟨hj, rfl⟩ := rangeD_get ej
            have X := X.sub s18
            walk_at "dl"
            have two : ∀ {α : Type} (f : Bool → α), atI [f false, f true] (0 + (j : Int)) = some (f (decide (j = 1))) := fun f => by
              match j, hj with
              | 0, _ => exact atI_0
              | 1, _ => exact atI_1
            refine ⟨_, X.sgl, _, two fun b => D.ref (sA b), _, X.kkl, _, two fun b => D.ref (kA b), fun _ => ⟨_, _, _, _, _, _, ws, rfl, X.s _, X.r _, ok _, by have := le (decide (j = 1)); omega, X.wd, wok, fun h19 s19 => ?_⟩⟩
            simp only [truD_bl, Bool.true_eq_false, if_false]
            exact hnx4 _ _ ⟨s18.trans s19, _, _, _, _, _, _, _, _, _, rfl⟩
          · rintro τ h18 ⟨s18, z5, z6, z7, z8, z9, z10, z11, z12, z13, rfl⟩
            exact hnx2 _ _ ⟨rs, es, X.sub s18, ok, le, _, _, _, _, _, _, _, _, _, rfl⟩
    · rintro τ h8 ⟨rs, es, X, ok, le, z5, z6, z7, z8, z9, z10, z11, z12, z13, rfl⟩
      rw [rangeD_length] at le
      exact hnx _ _ ⟨rs, es, X, ok, fun b => by have := le b; omega, _, _, _, _, _, _, _, _, _, rfl⟩
  · rintro τ h7 ⟨rs, es, X, ok, le, z5, z6, z7, z8, z9, z10, z11, z12, z13, rfl⟩
    walk_at "dl"
    exact ⟨_, X.sgl, _, rfl, _, X.kkl, _, rfl, fun _ => ⟨_, _, _, _, _, _, ws, rfl, X.s false, X.r false, ok false, le false, X.wd, wok, fun h' _ => q h'⟩⟩
abbrev sp_sgl0 : SpD := sp_sgl false
abbrev sp_sgl1 : SpD := sp_sgl true
theorem ms_sgl0 : MonoSp sp_sgl0 := ms_sgl
theorem ms_sgl1 : MonoSp sp_sgl1 := ms_sgl

end DL

namespace Lk14
open PySem PySem.Spec PyProof.Rows L2 DL

def N_UnknownSymbol_init__ : List Str := [Str.ofString "self", Str.ofString "symbol"]
def N_KindError_init__ : List Str := [Str.ofString "self", Str.ofString "symbol"]
def N_ArityError_init__ : List Str := [Str.ofString "self", Str.ofString "symbol", Str.ofString "expected", Str.ofString "found"]
def N_TooLarge_init__ : List Str := [Str.ofString "self", Str.ofString "limit"]
abbrev P_law_draws : List Str := [Str.ofString "_law_script"]
theorem sc_law_draws : FnScope N_law_draws P_law_draws (defScope s_law_draws) := ⟨rfl, rfl, rfl, by decide +kernel, rfl, by decide +kernel, by decide +kernel⟩
abbrev P_law_take : List Str := [Str.ofString "_law_draws_here", Str.ofString "_law_bound"]
theorem sc_law_take : FnScope N_law_take P_law_take (defScope s_law_take) := ⟨rfl, rfl, rfl, by decide +kernel, rfl, by decide +kernel, by decide +kernel⟩
abbrev P_law_words : List Str := [Str.ofString "_law_draws_here", Str.ofString "_law_many"]
theorem sc_law_words : FnScope N_law_words P_law_words (defScope s_law_words) := ⟨rfl, rfl, rfl, by decide +kernel, rfl, by decide +kernel, by decide +kernel⟩
abbrev P_law_same_1a08 : List Str := [Str.ofString "_law_value", Str.ofString "_law_due_here"]
theorem sc_law_same_1a08 : FnScope N_law_same_1a08 P_law_same_1a08 (defScope s_law_same_1a08) := ⟨rfl, rfl, rfl, by decide +kernel, rfl, by decide +kernel, by decide +kernel⟩
abbrev P_law_add : List Str := [Str.ofString "_law_signature", Str.ofString "_law_symbol", Str.ofString "_law_predicate", Str.ofString "_law_arity"]
theorem sc_law_add : FnScope N_law_add P_law_add (defScope s_law_add) := ⟨rfl, rfl, rfl, by decide +kernel, rfl, by decide +kernel, by decide +kernel⟩
abbrev P_law_ask_f35a : List Str := [Str.ofString "_law_signature", Str.ofString "_law_symbol"]
theorem sc_law_ask_f35a : FnScope N_law_ask_f35a P_law_ask_f35a (defScope s_law_ask_f35a) := ⟨rfl, rfl, rfl, by decide +kernel, rfl, by decide +kernel, by decide +kernel⟩
abbrev P_law_kind_ef40 : List Str := [Str.ofString "_law_signature", Str.ofString "_law_symbol"]
theorem sc_law_kind_ef40 : FnScope N_law_kind_ef40 P_law_kind_ef40 (defScope s_law_kind_ef40) := ⟨rfl, rfl, rfl, by decide +kernel, rfl, by decide +kernel, by decide +kernel⟩
abbrev P_law_due_2e6d : List Str := [Str.ofString "_law_known", Str.ofString "_law_symbol", Str.ofString "_law_predicate", Str.ofString "_law_arity"]
theorem sc_law_due_2e6d : FnScope N_law_due_2e6d P_law_due_2e6d (defScope s_law_due_2e6d) := ⟨rfl, rfl, rfl, by decide +kernel, rfl, by decide +kernel, by decide +kernel⟩
abbrev P_law_agrees : List Str := [Str.ofString "_law_signature", Str.ofString "_law_known", Str.ofString "_law_words_here"]
theorem sc_law_agrees : FnScope N_law_agrees P_law_agrees (defScope s_law_agrees) := ⟨rfl, rfl, rfl, by decide +kernel, rfl, by decide +kernel, by decide +kernel⟩
abbrev P_law_k14 : List Str := [Str.ofString "_law_script"]
theorem sc_law_k14 : FnScope N_law_k14 P_law_k14 (defScope s_law_k14) := ⟨rfl, rfl, rfl, by decide +kernel, rfl, by decide +kernel, by decide +kernel⟩
abbrev P_Signature_init__ : List Str := [Str.ofString "self"]
theorem sc_Signature_init__ : FnScope N_Signature_init__ P_Signature_init__ (defScope s_Signature_init__) := ⟨rfl, rfl, rfl, by decide +kernel, rfl, by decide +kernel, by decide +kernel⟩
abbrev P_Signature_add : List Str := [Str.ofString "self", Str.ofString "symbol", Str.ofString "predicate", Str.ofString "arity"]
theorem sc_Signature_add : FnScope N_Signature_add P_Signature_add (defScope s_Signature_add) := ⟨rfl, rfl, rfl, by decide +kernel, rfl, by decide +kernel, by decide +kernel⟩
abbrev P_Signature_add_function : List Str := [Str.ofString "self", Str.ofString "symbol", Str.ofString "arity"]
theorem sc_Signature_add_function : FnScope N_Signature_add_function P_Signature_add_function (defScope s_Signature_add_function) := ⟨rfl, rfl, rfl, by decide +kernel, rfl, by decide +kernel, by decide +kernel⟩
abbrev P_Signature_add_predicate : List Str := [Str.ofString "self", Str.ofString "symbol", Str.ofString "arity"]
theorem sc_Signature_add_predicate : FnScope N_Signature_add_predicate P_Signature_add_predicate (defScope s_Signature_add_predicate) := ⟨rfl, rfl, rfl, by decide +kernel, rfl, by decide +kernel, by decide +kernel⟩
abbrev P_Signature_functions : List Str := [Str.ofString "self"]
theorem sc_Signature_functions : FnScope N_Signature_functions P_Signature_functions (defScope s_Signature_functions) := ⟨rfl, rfl, rfl, by decide +kernel, rfl, by decide +kernel, by decide +kernel⟩
abbrev P_Signature_predicates : List Str := [Str.ofString "self"]
theorem sc_Signature_predicates : FnScope N_Signature_predicates P_Signature_predicates (defScope s_Signature_predicates) := ⟨rfl, rfl, rfl, by decide +kernel, rfl, by decide +kernel, by decide +kernel⟩
abbrev P_Signature_entry : List Str := [Str.ofString "self", Str.ofString "symbol"]
theorem sc_Signature_entry : FnScope N_Signature_entry P_Signature_entry (defScope s_Signature_entry) := ⟨rfl, rfl, rfl, by decide +kernel, rfl, by decide +kernel, by decide +kernel⟩
abbrev P_Signature_arity : List Str := [Str.ofString "self", Str.ofString "symbol"]
theorem sc_Signature_arity : FnScope N_Signature_arity P_Signature_arity (defScope s_Signature_arity) := ⟨rfl, rfl, rfl, by decide +kernel, rfl, by decide +kernel, by decide +kernel⟩
abbrev P_Signature_is_predicate_1a94 : List Str := [Str.ofString "self", Str.ofString "symbol"]
theorem sc_Signature_is_predicate_1a94 : FnScope N_Signature_is_predicate_1a94 P_Signature_is_predicate_1a94 (defScope s_Signature_is_predicate_1a94) := ⟨rfl, rfl, rfl, by decide +kernel, rfl, by decide +kernel, by decide +kernel⟩
abbrev P_Signature_contains__ : List Str := [Str.ofString "self", Str.ofString "symbol"]
theorem sc_Signature_contains__ : FnScope N_Signature_contains__ P_Signature_contains__ (defScope s_Signature_contains__) := ⟨rfl, rfl, rfl, by decide +kernel, rfl, by decide +kernel, by decide +kernel⟩
abbrev P_Signature_len__ : List Str := [Str.ofString "self"]
theorem sc_Signature_len__ : FnScope N_Signature_len__ P_Signature_len__ (defScope s_Signature_len__) := ⟨rfl, rfl, rfl, by decide +kernel, rfl, by decide +kernel, by decide +kernel⟩
abbrev P_UnknownSymbol_init__ : List Str := [Str.ofString "self", Str.ofString "symbol"]
theorem sc_UnknownSymbol_init__ : FnScope N_UnknownSymbol_init__ P_UnknownSymbol_init__ (defScope s_UnknownSymbol_init__) := ⟨rfl, rfl, rfl, by decide +kernel, rfl, by decide +kernel, by decide +kernel⟩
abbrev P_KindError_init__ : List Str := [Str.ofString "self", Str.ofString "symbol"]
theorem sc_KindError_init__ : FnScope N_KindError_init__ P_KindError_init__ (defScope s_KindError_init__) := ⟨rfl, rfl, rfl, by decide +kernel, rfl, by decide +kernel, by decide +kernel⟩
abbrev P_ArityError_init__ : List Str := [Str.ofString "self", Str.ofString "symbol", Str.ofString "expected", Str.ofString "found"]
theorem sc_ArityError_init__ : FnScope N_ArityError_init__ P_ArityError_init__ (defScope s_ArityError_init__) := ⟨rfl, rfl, rfl, by decide +kernel, rfl, by decide +kernel, by decide +kernel⟩
abbrev P_TooLarge_init__ : List Str := [Str.ofString "self", Str.ofString "limit"]
theorem sc_TooLarge_init__ : FnScope N_TooLarge_init__ P_TooLarge_init__ (defScope s_TooLarge_init__) := ⟨rfl, rfl, rfl, by decide +kernel, rfl, by decide +kernel, by decide +kernel⟩
structure Tx (K : PySem.W.Frag) (mg : Str → Option Value) : Prop where
  g_law_draws : mg "_law_draws" = some (.ref (He.ga K "_law_draws"))
  g_law_take : mg "_law_take" = some (.ref (He.ga K "_law_take"))
  g_law_words : mg "_law_words" = some (.ref (He.ga K "_law_words"))
  g_law_same_1a08 : mg "_law_same" = some (.ref (He.ga K "_law_same"))
  g_law_add : mg "_law_add" = some (.ref (He.ga K "_law_add"))
  g_law_ask_f35a : mg "_law_ask" = some (.ref (He.ga K "_law_ask"))
  g_law_kind_ef40 : mg "_law_kind" = some (.ref (He.ga K "_law_kind"))
  g_law_due_2e6d : mg "_law_due" = some (.ref (He.ga K "_law_due"))
  g_law_agrees : mg "_law_agrees" = some (.ref (He.ga K "_law_agrees"))
  g_law_k14 : mg "law" = some (.ref (He.ga K "law"))
  F_law_draws : ∃ fd, FunD K "_law_draws" "_law_draws" (defArgs s_law_draws) (defBody s_law_draws) (defScope s_law_draws) [] [] (He.ga K "_law_draws") fd
  F_law_take : ∃ fd, FunD K "_law_take" "_law_take" (defArgs s_law_take) (defBody s_law_take) (defScope s_law_take) [] [] (He.ga K "_law_take") fd
  F_law_words : ∃ fd, FunD K "_law_words" "_law_words" (defArgs s_law_words) (defBody s_law_words) (defScope s_law_words) [] [] (He.ga K "_law_words") fd
  F_law_same_1a08 : ∃ fd, FunD K "_law_same" "_law_same" (defArgs s_law_same_1a08) (defBody s_law_same_1a08) (defScope s_law_same_1a08) [] [] (He.ga K "_law_same") fd
  F_law_add : ∃ fd, FunD K "_law_add" "_law_add" (defArgs s_law_add) (defBody s_law_add) (defScope s_law_add) [] [] (He.ga K "_law_add") fd
  F_law_ask_f35a : ∃ fd, FunD K "_law_ask" "_law_ask" (defArgs s_law_ask_f35a) (defBody s_law_ask_f35a) (defScope s_law_ask_f35a) [] [] (He.ga K "_law_ask") fd
  F_law_kind_ef40 : ∃ fd, FunD K "_law_kind" "_law_kind" (defArgs s_law_kind_ef40) (defBody s_law_kind_ef40) (defScope s_law_kind_ef40) [] [] (He.ga K "_law_kind") fd
  F_law_due_2e6d : ∃ fd, FunD K "_law_due" "_law_due" (defArgs s_law_due_2e6d) (defBody s_law_due_2e6d) (defScope s_law_due_2e6d) [] [] (He.ga K "_law_due") fd
  F_law_agrees : ∃ fd, FunD K "_law_agrees" "_law_agrees" (defArgs s_law_agrees) (defBody s_law_agrees) (defScope s_law_agrees) [] [] (He.ga K "_law_agrees") fd
  F_law_k14 : ∃ fd, FunD K "law" "law" (defArgs s_law_k14) (defBody s_law_k14) (defScope s_law_k14) [] [] (He.ga K "law") fd
  I_UnknownSymbol : ∃ fd, FunD K "__init__" "UnknownSymbol.__init__" (defArgs s_UnknownSymbol_init__) (defBody s_UnknownSymbol_init__) (defScope s_UnknownSymbol_init__) [] [] (He.ma K (He.ga K "UnknownSymbol") "__init__") fd
  I_KindError : ∃ fd, FunD K "__init__" "KindError.__init__" (defArgs s_KindError_init__) (defBody s_KindError_init__) (defScope s_KindError_init__) [] [] (He.ma K (He.ga K "KindError") "__init__") fd
  I_ArityError : ∃ fd, FunD K "__init__" "ArityError.__init__" (defArgs s_ArityError_init__) (defBody s_ArityError_init__) (defScope s_ArityError_init__) [] [] (He.ma K (He.ga K "ArityError") "__init__") fd
  I_TooLarge : ∃ fd, FunD K "__init__" "TooLarge.__init__" (defArgs s_TooLarge_init__) (defBody s_TooLarge_init__) (defScope s_TooLarge_init__) [] [] (He.ma K (He.ga K "TooLarge") "__init__") fd
  n_abs : mg "abs" = none
  n_bool : mg "bool" = none
  n_int : mg "int" = none
  n_isinstance : mg "isinstance" = none
  n_len : mg "len" = none
  n_list : mg "list" = none
  n_range : mg "range" = none
  n_reversed : mg "reversed" = none
  n_str : mg "str" = none
  n_tuple : mg "tuple" = none
  k_TooLarge : mg "TooLarge" = some (.ref (He.ga K "TooLarge"))
  k_KindError : mg "KindError" = some (.ref (He.ga K "KindError"))
  k_ArityError : mg "ArityError" = some (.ref (He.ga K "ArityError"))
  k_UnknownSymbol : mg "UnknownSymbol" = some (.ref (He.ga K "UnknownSymbol"))
  c_MAX_ARITY : GlobC K mg "MAX_ARITY" c_MAX_ARITY
  e_UnknownSymbol : ExC K mg "UnknownSymbol" ["symbol"]
  e_KindError : ExC K mg "KindError" ["symbol"]
  e_ArityError : ExC K mg "ArityError" ["symbol", "expected", "found"]
  e_TooLarge : ExC K mg "TooLarge" ["limit"]
  m_TooLarge : ExmL K "TooLarge" [("TooLarge", true), ("KindError", false), ("ArityError", false), ("UnknownSymbol", false)]
  m_KindError : ExmL K "KindError" [("TooLarge", false), ("KindError", true), ("ArityError", false), ("UnknownSymbol", false)]
  m_ArityError : ExmL K "ArityError" [("TooLarge", false), ("KindError", false), ("ArityError", true), ("UnknownSymbol", false)]
  m_UnknownSymbol : ExmL K "UnknownSymbol" [("TooLarge", false), ("KindError", false), ("ArityError", false), ("UnknownSymbol", true)]
  A_Signature_init__ : Meth K (He.ga K "Signature") "__init__" (He.ma K (He.ga K "Signature") "__init__")
  A_Signature_add : Meth K (He.ga K "Signature") "_add" (He.ma K (He.ga K "Signature") "_add")
  A_Signature_add_function : Meth K (He.ga K "Signature") "add_function" (He.ma K (He.ga K "Signature") "add_function")
  A_Signature_add_predicate : Meth K (He.ga K "Signature") "add_predicate" (He.ma K (He.ga K "Signature") "add_predicate")
  A_Signature_functions : Meth K (He.ga K "Signature") "functions" (He.ma K (He.ga K "Signature") "functions")
  A_Signature_predicates : Meth K (He.ga K "Signature") "predicates" (He.ma K (He.ga K "Signature") "predicates")
  A_Signature_entry : Meth K (He.ga K "Signature") "_entry" (He.ma K (He.ga K "Signature") "_entry")
  A_Signature_arity : Meth K (He.ga K "Signature") "arity" (He.ma K (He.ga K "Signature") "arity")
  A_Signature_is_predicate_1a94 : Meth K (He.ga K "Signature") "is_predicate" (He.ma K (He.ga K "Signature") "is_predicate")
  A_Signature_contains__ : Meth K (He.ga K "Signature") "__contains__" (He.ma K (He.ga K "Signature") "__contains__")
  A_Signature_len__ : Meth K (He.ga K "Signature") "__len__" (He.ma K (He.ga K "Signature") "__len__")
  F_Signature_init__ : ∃ fd, FunD K "__init__" "Signature.__init__" (defArgs s_Signature_init__) (defBody s_Signature_init__) (defScope s_Signature_init__) [] [] (He.ma K (He.ga K "Signature") "__init__") fd
  F_Signature_add : ∃ fd, FunD K "_add" "Signature._add" (defArgs s_Signature_add) (defBody s_Signature_add) (defScope s_Signature_add) [] [] (He.ma K (He.ga K "Signature") "_add") fd
  F_Signature_add_function : ∃ fd, FunD K "add_function" "Signature.add_function" (defArgs s_Signature_add_function) (defBody s_Signature_add_function) (defScope s_Signature_add_function) [] [] (He.ma K (He.ga K "Signature") "add_function") fd
  F_Signature_add_predicate : ∃ fd, FunD K "add_predicate" "Signature.add_predicate" (defArgs s_Signature_add_predicate) (defBody s_Signature_add_predicate) (defScope s_Signature_add_predicate) [] [] (He.ma K (He.ga K "Signature") "add_predicate") fd
  F_Signature_functions : ∃ fd, FunD K "functions" "Signature.functions" (defArgs s_Signature_functions) (defBody s_Signature_functions) (defScope s_Signature_functions) [] [] (He.ma K (He.ga K "Signature") "functions") fd
  F_Signature_predicates : ∃ fd, FunD K "predicates" "Signature.predicates" (defArgs s_Signature_predicates) (defBody s_Signature_predicates) (defScope s_Signature_predicates) [] [] (He.ma K (He.ga K "Signature") "predicates") fd
  F_Signature_entry : ∃ fd, FunD K "_entry" "Signature._entry" (defArgs s_Signature_entry) (defBody s_Signature_entry) (defScope s_Signature_entry) [] [] (He.ma K (He.ga K "Signature") "_entry") fd
  F_Signature_arity : ∃ fd, FunD K "arity" "Signature.arity" (defArgs s_Signature_arity) (defBody s_Signature_arity) (defScope s_Signature_arity) [] [] (He.ma K (He.ga K "Signature") "arity") fd
  F_Signature_is_predicate_1a94 : ∃ fd, FunD K "is_predicate" "Signature.is_predicate" (defArgs s_Signature_is_predicate_1a94) (defBody s_Signature_is_predicate_1a94) (defScope s_Signature_is_predicate_1a94) [] [] (He.ma K (He.ga K "Signature") "is_predicate") fd
  F_Signature_contains__ : ∃ fd, FunD K "__contains__" "Signature.__contains__" (defArgs s_Signature_contains__) (defBody s_Signature_contains__) (defScope s_Signature_contains__) [] [] (He.ma K (He.ga K "Signature") "__contains__") fd
  F_Signature_len__ : ∃ fd, FunD K "__len__" "Signature.__len__" (defArgs s_Signature_len__) (defBody s_Signature_len__) (defScope s_Signature_len__) [] [] (He.ma K (He.ga K "Signature") "__len__") fd
  M_Signature : Mk K (He.ga K "Signature") (He.ma K (He.ga K "Signature") "__init__")
  G_Signature : mg "Signature" = some (.ref (He.ga K "Signature"))
  K_Signature : ClsF K "Signature" ["_known"]
section
variable {P : Program} {w : World} {K : PySem.W.Frag} {mg : Str → Option Value} {base : Heap}
theorem ini_UnknownSymbol {k : Nat} (T : Tx K mg) : ∃ fd, Binds K fd P_UnknownSymbol_init__ [] ∧ FnOk P w K mg base CX0 (k + 1) (He.ma K (He.ga K "UnknownSymbol") "__init__") fd P_UnknownSymbol_init__ (spInit (He.ga K "UnknownSymbol") ["symbol"]) :=
  init_fn (N := N_UnknownSymbol_init__) T.e_UnknownSymbol T.I_UnknownSymbol sc_UnknownSymbol_init__ (by decide) (by decide) rfl (fun _ _ _ _ _ _ us hl => match us, hl with | [_, _], _ => rfl) fun cdv A outer s H E =>
    pss_cons (ps_ost (pe_var (i := 0) rfl (Or.inl rfl)) (pe_var (i := 1) rfl (Or.inl rfl))) (pss_nil)
theorem ini_KindError {k : Nat} (T : Tx K mg) : ∃ fd, Binds K fd P_KindError_init__ [] ∧ FnOk P w K mg base CX0 (k + 1) (He.ma K (He.ga K "KindError") "__init__") fd P_KindError_init__ (spInit (He.ga K "KindError") ["symbol"]) :=
  init_fn (N := N_KindError_init__) T.e_KindError T.I_KindError sc_KindError_init__ (by decide) (by decide) rfl (fun _ _ _ _ _ _ us hl => match us, hl with | [_, _], _ => rfl) fun cdv A outer s H E =>
    pss_cons (ps_ost (pe_var (i := 0) rfl (Or.inl rfl)) (pe_var (i := 1) rfl (Or.inl rfl))) (pss_nil)
theorem ini_ArityError {k : Nat} (T : Tx K mg) : ∃ fd, Binds K fd P_ArityError_init__ [] ∧ FnOk P w K mg base CX0 (k + 1) (He.ma K (He.ga K "ArityError") "__init__") fd P_ArityError_init__ (spInit (He.ga K "ArityError") ["symbol", "expected", "found"]) :=
  init_fn (N := N_ArityError_init__) T.e_ArityError T.I_ArityError sc_ArityError_init__ (by decide) (by decide) rfl (fun _ _ _ _ _ _ us hl => match us, hl with | [_, _, _, _], _ => rfl) fun cdv A outer s H E =>
    pss_cons (ps_ost (pe_var (i := 0) rfl (Or.inl rfl)) (pe_var (i := 1) rfl (Or.inl rfl))) (pss_cons (ps_ost (pe_var (i := 0) rfl (Or.inl rfl)) (pe_var (i := 2) rfl (Or.inl rfl))) (pss_cons (ps_ost (pe_var (i := 0) rfl (Or.inl rfl)) (pe_var (i := 3) rfl (Or.inl rfl))) (pss_nil)))
theorem ini_TooLarge {k : Nat} (T : Tx K mg) : ∃ fd, Binds K fd P_TooLarge_init__ [] ∧ FnOk P w K mg base CX0 (k + 1) (He.ma K (He.ga K "TooLarge") "__init__") fd P_TooLarge_init__ (spInit (He.ga K "TooLarge") ["limit"]) :=
  init_fn (N := N_TooLarge_init__) T.e_TooLarge T.I_TooLarge sc_TooLarge_init__ (by decide) (by decide) rfl (fun _ _ _ _ _ _ us hl => match us, hl with | [_, _], _ => rfl) fun cdv A outer s H E =>
    pss_cons (ps_ost (pe_var (i := 0) rfl (Or.inl rfl)) (pe_var (i := 1) rfl (Or.inl rfl))) (pss_nil)
theorem d_law_draws {k : Nat} (T : Tx K mg) (cdv : Value) (A : Around) (outer : List Env) (s : Shared) (H : Hp) (E : XK) (hr : Room k (A.deeper (envOfC "_law_draws" (defScope s_law_draws) s.heap.objs.size (He.ga K "_law_draws") cdv))) :
    DSs (cxOf CX0 P w K mg base N_law_draws "_law_draws" (defScope s_law_draws) (He.ga K "_law_draws") cdv A outer s H E).nox WN (defBody s_law_draws) (t_law_draws) :=
  dss_cons (ds_set (i := 1) sc_law_draws.nd rfl (Or.inl rfl) (de_lst (da_nil))) (dss_cons (ds_for PassesOwn.never rfl (di_lst (de_var 0)) (dg_name (i := 2) sc_law_draws.nd rfl (Or.inl rfl)) (dss_cons (ds_set (i := 3) sc_law_draws.nd rfl (Or.inl rfl) (de_callB dc_abs (by rfl) T.n_abs (by decide +kernel) (da_cons (de_var 2) (da_nil)))) (dss_cons (ds_if (dt_cmp dop_lt (de_var 3) (de_op dop_pow (de_int) (de_int))) (dss_cons (ds_set (i := 4) sc_law_draws.nd rfl (Or.inl rfl) (de_op dop_mod (de_callTy dc_int (by rfl) T.n_int (by decide +kernel) (da_cons (de_op dop_add (de_op dop_mul (de_var 3) (de_int)) (de_int)) (da_nil))) (de_int))) (dss_cons (ds_expr (de_append (de_var 1) (de_op dop_mod (de_callTy dc_int (by rfl) T.n_int (by decide +kernel) (da_cons (de_op dop_add (de_op dop_mul (de_var 4) (de_int)) (de_var 3)) (da_nil))) (de_int)))) (dss_cons (ds_expr (de_append (de_var 1) (de_op dop_mod (de_callTy dc_int (by rfl) T.n_int (by decide +kernel) (da_cons (de_op dop_add (de_var 4) (de_op dop_fdiv (de_var 3) (de_int))) (da_nil))) (de_int)))) (dss_one (ds_set (i := 3) sc_law_draws.nd rfl (Or.inl rfl) (de_int)))))) (dss_nil)) (dss_one (ds_for PassesOwn.never rfl (di_rng1 (by rfl) T.n_range (da_cons (de_int) (da_nil))) (dg_name (i := 5) sc_law_draws.nd rfl (Or.inl rfl)) (dss_one (ds_if (dt_cmp dop_gt (de_var 3) (de_int)) (dss_cons (ds_expr (de_append (de_var 1) (de_op dop_mod (de_callTy dc_int (by rfl) T.n_int (by decide +kernel) (da_cons (de_var 3) (da_nil))) (de_int)))) (dss_one (ds_set (i := 3) sc_law_draws.nd rfl (Or.inl rfl) (de_op dop_fdiv (de_var 3) (de_int))))) (dss_nil)))))))) (dss_cons (ds_set (i := 6) sc_law_draws.nd rfl (Or.inl rfl) (de_int)) (dss_cons (ds_if (dt_cmp dop_gt (de_callB dc_len (by rfl) T.n_len (by decide +kernel) (da_cons (de_var 0) (da_nil))) (de_int)) (dss_one (ds_set (i := 6) sc_law_draws.nd rfl (Or.inl rfl) (de_op dop_add (de_int) (de_callB dc_abs (by rfl) T.n_abs (by decide +kernel) (da_cons (de_ix (de_var 0) (de_int)) (da_nil)))))) (dss_nil)) (dss_cons (ds_for PassesOwn.never rfl (di_rng1 (by rfl) T.n_range (da_cons (de_int) (da_nil))) (dg_name (i := 5) sc_law_draws.nd rfl (Or.inl rfl)) (dss_cons (ds_set (i := 6) sc_law_draws.nd rfl (Or.inl rfl) (de_op dop_mod (de_callTy dc_int (by rfl) T.n_int (by decide +kernel) (da_cons (de_op dop_add (de_op dop_mul (de_var 6) (de_int)) (de_int)) (da_nil))) (de_int))) (dss_one (ds_expr (de_append (de_var 1) (de_op dop_fdiv (de_var 6) (de_int))))))) (dss_one (ds_ret (de_lstRev rfl (by rfl) T.n_list (by rfl) T.n_reversed (de_var 1))))))))
theorem void_law_draws {k : Nat} {sp : SpD} (T : Tx K mg) (no : ∀ ds h Q E, ¬ sp ds h Q E) : Has P w K mg base "_law_draws" k P_law_draws sp :=
  .void T.g_law_draws T.F_law_draws (fun _ _ _ _ _ _ us hl => match us, hl with | [_], _ => rfl) no
theorem mk_law_draws {k : Nat} {sp : SpD} (T : Tx K mg) (ms : MonoSp sp) (len : ∀ ds h Q E, sp ds h Q E → ds.length = 1)
    (r : ∀ ds h Q Ed, Up Q → sp ds h Q Ed → t_law_draws { nx := fun _ h' => Q .non h', rt := Q } (dstart N_law_draws ds) h) : Has P w K mg base "_law_draws" (k + 1) P_law_draws sp :=
  .of T.g_law_draws T.F_law_draws sc_law_draws ms len (fun _ _ _ _ _ _ us hl => match us, hl with | [_], _ => rfl) (d_law_draws T) r
theorem d_law_take {k : Nat} (T : Tx K mg) (cdv : Value) (A : Around) (outer : List Env) (s : Shared) (H : Hp) (E : XK) (hr : Room k (A.deeper (envOfC "_law_take" (defScope s_law_take) s.heap.objs.size (He.ga K "_law_take") cdv))) :
    DSs (cxOf CX0 P w K mg base N_law_take "_law_take" (defScope s_law_take) (He.ga K "_law_take") cdv A outer s H E).nox WN (defBody s_law_take) (t_law_take) :=
  dss_cons (ds_if (dt_cmp (dop_eq hr.units) (de_callB dc_len (by rfl) T.n_len (by decide +kernel) (da_cons (de_var 0) (da_nil))) (de_int)) (dss_one (ds_ret (de_int))) (dss_nil)) (dss_one (ds_ret (de_op dop_mod (de_callTy dc_int (by rfl) T.n_int (by decide +kernel) (da_cons (de_pop (de_var 0)) (da_nil))) (de_var 1))))
theorem void_law_take {k : Nat} {sp : SpD} (T : Tx K mg) (no : ∀ ds h Q E, ¬ sp ds h Q E) : Has P w K mg base "_law_take" k P_law_take sp :=
  .void T.g_law_take T.F_law_take (fun _ _ _ _ _ _ us hl => match us, hl with | [_, _], _ => rfl) no
theorem mk_law_take {k : Nat} {sp : SpD} (T : Tx K mg) (ms : MonoSp sp) (len : ∀ ds h Q E, sp ds h Q E → ds.length = 2)
    (r : ∀ ds h Q Ed, Up Q → sp ds h Q Ed → t_law_take { nx := fun _ h' => Q .non h', rt := Q } (dstart N_law_take ds) h) : Has P w K mg base "_law_take" (k + 1) P_law_take sp :=
  .of T.g_law_take T.F_law_take sc_law_take ms len (fun _ _ _ _ _ _ us hl => match us, hl with | [_, _], _ => rfl) (d_law_take T) r
theorem d_law_words {k : Nat} {sp_law_take : SpD} (T : Tx K mg) (h_law_take : Has P w K mg base "_law_take" k P_law_take sp_law_take) (cdv : Value) (A : Around) (outer : List Env) (s : Shared) (H : Hp) (E : XK) (hr : Room k (A.deeper (envOfC "_law_words" (defScope s_law_words) s.heap.objs.size (He.ga K "_law_words") cdv))) :
    DSs (cxOf CX0 P w K mg base N_law_words "_law_words" (defScope s_law_words) (He.ga K "_law_words") cdv A outer s H E).nox WN (defBody s_law_words) (t_law_words sp_law_take) :=
  dss_cons (ds_set (i := 2) sc_law_words.nd rfl (Or.inl rfl) (de_str)) (dss_cons (ds_set (i := 3) sc_law_words.nd rfl (Or.inl rfl) (de_op dop_add (de_var 2) (de_str))) (dss_cons (ds_set (i := 4) sc_law_words.nd rfl (Or.inl rfl) (de_lst (da_nil))) (dss_cons (ds_for PassesOwn.never rfl (di_rng1 (by rfl) T.n_range (da_cons (de_var 1) (da_nil))) (dg_name (i := 5) sc_law_words.nd rfl (Or.inl rfl)) (dss_cons (ds_set (i := 6) sc_law_words.nd rfl (Or.inl rfl) (de_ix (de_var 2) (de_has h_law_take hr (by rfl) (da_cons (de_var 0) (da_cons (de_int) (da_nil)))))) (dss_cons (ds_for PassesOwn.never rfl (di_rng1 (by rfl) T.n_range (da_cons (de_has h_law_take hr (by rfl) (da_cons (de_var 0) (da_cons (de_int) (da_nil)))) (da_nil))) (dg_name (i := 7) sc_law_words.nd rfl (Or.inl rfl)) (dss_one (ds_set (i := 6) sc_law_words.nd rfl (Or.inl rfl) (de_op dop_add (de_var 6) (de_ix (de_var 3) (de_has h_law_take hr (by rfl) (da_cons (de_var 0) (da_cons (de_int) (da_nil))))))))) (dss_cons (ds_for PassesOwn.never rfl (di_rng1 (by rfl) T.n_range (da_cons (de_int) (da_nil))) (dg_name (i := 7) sc_law_words.nd rfl (Or.inl rfl)) (dss_one (ds_if (DW.dt (dw_or (dt_cmp (dop_in (u65 hr)) (de_var 6) (de_var 4)) (dw_or1 (dt_cmp (dop_in (u65 hr)) (de_var 6) (de_lst (da_cons (de_str) (da_cons (de_str) (da_cons (de_str) (da_cons (de_str) (da_cons (de_str) (da_cons (de_str) (da_nil)))))))))))) (dss_one (ds_set (i := 6) sc_law_words.nd rfl (Or.inl rfl) (de_op dop_add (de_var 6) (de_str)))) (dss_nil)))) (dss_one (ds_expr (de_append (de_var 4) (de_var 6)))))))) (dss_one (ds_ret (de_var 4))))))
theorem void_law_words {k : Nat} {sp : SpD} (T : Tx K mg) (no : ∀ ds h Q E, ¬ sp ds h Q E) : Has P w K mg base "_law_words" k P_law_words sp :=
  .void T.g_law_words T.F_law_words (fun _ _ _ _ _ _ us hl => match us, hl with | [_, _], _ => rfl) no
theorem mk_law_words {k : Nat} {sp : SpD} {sp_law_take : SpD} (T : Tx K mg) (h_law_take : Has P w K mg base "_law_take" k P_law_take sp_law_take) (ms : MonoSp sp) (len : ∀ ds h Q E, sp ds h Q E → ds.length = 2)
    (r : ∀ ds h Q Ed, Up Q → sp ds h Q Ed → t_law_words sp_law_take { nx := fun _ h' => Q .non h', rt := Q } (dstart N_law_words ds) h) : Has P w K mg base "_law_words" (k + 1) P_law_words sp :=
  .of T.g_law_words T.F_law_words sc_law_words ms len (fun _ _ _ _ _ _ us hl => match us, hl with | [_, _], _ => rfl) (d_law_words T h_law_take) r
theorem d_law_same_1a08 {k : Nat} {sp_law_same_1a08 : SpD} (T : Tx K mg) (h_law_same_1a08 : Has P w K mg base "_law_same" k P_law_same_1a08 sp_law_same_1a08) (cdv : Value) (A : Around) (outer : List Env) (s : Shared) (H : Hp) (E : XK) (hr : Room k (A.deeper (envOfC "_law_same" (defScope s_law_same_1a08) s.heap.objs.size (He.ga K "_law_same") cdv))) :
    DSs (cxOf CX0 P w K mg base N_law_same_1a08 "_law_same" (defScope s_law_same_1a08) (He.ga K "_law_same") cdv A outer s H E).nox WN (defBody s_law_same_1a08) (t_law_same_1a08 sp_law_same_1a08) :=
  dss_cons (ds_if (DW.dt (dw_or (dt_tru (de_callB dc_isi (by rfl) T.n_isinstance (by decide +kernel) (da_cons (de_var 1) (da_cons (de_ty (by rfl) T.n_tuple (by decide +kernel)) (da_nil))))) (dw_or1 (dt_tru (de_callB dc_isi (by rfl) T.n_isinstance (by decide +kernel) (da_cons (de_var 1) (da_cons (de_ty (by rfl) T.n_list (by decide +kernel)) (da_nil)))))))) (dss_cons (ds_if (DW.dt (dw_or (dt_cmp (dop_ne hr.units) (de_callB dc_isi (by rfl) T.n_isinstance (by decide +kernel) (da_cons (de_var 1) (da_cons (de_ty (by rfl) T.n_tuple (by decide +kernel)) (da_nil)))) (de_callB dc_isi (by rfl) T.n_isinstance (by decide +kernel) (da_cons (de_var 0) (da_cons (de_ty (by rfl) T.n_tuple (by decide +kernel)) (da_nil))))) (dw_or1 (dt_cmp (dop_ne hr.units) (de_callB dc_isi (by rfl) T.n_isinstance (by decide +kernel) (da_cons (de_var 1) (da_cons (de_ty (by rfl) T.n_list (by decide +kernel)) (da_nil)))) (de_callB dc_isi (by rfl) T.n_isinstance (by decide +kernel) (da_cons (de_var 0) (da_cons (de_ty (by rfl) T.n_list (by decide +kernel)) (da_nil)))))))) (dss_one (ds_ret (de_bl))) (dss_nil)) (dss_cons (ds_if (dt_cmp (dop_ne hr.units) (de_callB dc_len (by rfl) T.n_len (by decide +kernel) (da_cons (de_var 0) (da_nil))) (de_callB dc_len (by rfl) T.n_len (by decide +kernel) (da_cons (de_var 1) (da_nil)))) (dss_one (ds_ret (de_bl))) (dss_nil)) (dss_cons (ds_for PassesOwn.never rfl (di_rng1 (by rfl) T.n_range (da_cons (de_callB dc_len (by rfl) T.n_len (by decide +kernel) (da_cons (de_var 1) (da_nil))) (da_nil))) (dg_name (i := 2) sc_law_same_1a08.nd rfl (Or.inl rfl)) (dss_one (ds_if (dt_not (dt_tru (de_has h_law_same_1a08 hr (by rfl) (da_cons (de_ix (de_var 0) (de_var 2)) (da_cons (de_ix (de_var 1) (de_var 2)) (da_nil)))))) (dss_one (ds_ret (de_bl))) (dss_nil)))) (dss_one (ds_ret (de_bl)))))) (dss_nil)) (dss_cons (ds_if (dt_cmp (dop_ne hr.units) (de_callB dc_isi (by rfl) T.n_isinstance (by decide +kernel) (da_cons (de_var 1) (da_cons (de_ty (by rfl) T.n_bool (by decide +kernel)) (da_nil)))) (de_callB dc_isi (by rfl) T.n_isinstance (by decide +kernel) (da_cons (de_var 0) (da_cons (de_ty (by rfl) T.n_bool (by decide +kernel)) (da_nil))))) (dss_one (ds_ret (de_bl))) (dss_nil)) (dss_cons (ds_if (DW.dt (dw_or (dt_cmp (dop_ne hr.units) (de_callB dc_isi (by rfl) T.n_isinstance (by decide +kernel) (da_cons (de_var 1) (da_cons (de_ty (by rfl) T.n_int (by decide +kernel)) (da_nil)))) (de_callB dc_isi (by rfl) T.n_isinstance (by decide +kernel) (da_cons (de_var 0) (da_cons (de_ty (by rfl) T.n_int (by decide +kernel)) (da_nil))))) (dw_or1 (dt_cmp (dop_ne hr.units) (de_callB dc_isi (by rfl) T.n_isinstance (by decide +kernel) (da_cons (de_var 1) (da_cons (de_ty (by rfl) T.n_str (by decide +kernel)) (da_nil)))) (de_callB dc_isi (by rfl) T.n_isinstance (by decide +kernel) (da_cons (de_var 0) (da_cons (de_ty (by rfl) T.n_str (by decide +kernel)) (da_nil)))))))) (dss_one (ds_ret (de_bl))) (dss_nil)) (dss_one (ds_ret (de_cmp (dop_eq hr.units) (de_var 0) (de_var 1))))))
theorem void_law_same_1a08 {k : Nat} {sp : SpD} (T : Tx K mg) (no : ∀ ds h Q E, ¬ sp ds h Q E) : Has P w K mg base "_law_same" k P_law_same_1a08 sp :=
  .void T.g_law_same_1a08 T.F_law_same_1a08 (fun _ _ _ _ _ _ us hl => match us, hl with | [_, _], _ => rfl) no
theorem mk_law_same_1a08 {k : Nat} {sp : SpD} {sp_law_same_1a08 : SpD} (T : Tx K mg) (h_law_same_1a08 : Has P w K mg base "_law_same" k P_law_same_1a08 sp_law_same_1a08) (ms : MonoSp sp) (len : ∀ ds h Q E, sp ds h Q E → ds.length = 2)
    (r : ∀ ds h Q Ed, Up Q → sp ds h Q Ed → t_law_same_1a08 sp_law_same_1a08 { nx := fun _ h' => Q .non h', rt := Q } (dstart N_law_same_1a08 ds) h) : Has P w K mg base "_law_same" (k + 1) P_law_same_1a08 sp :=
  .of T.g_law_same_1a08 T.F_law_same_1a08 sc_law_same_1a08 ms len (fun _ _ _ _ _ _ us hl => match us, hl with | [_, _], _ => rfl) (d_law_same_1a08 T h_law_same_1a08) r
theorem d_law_add {k : Nat} {sp_Signature_add_predicate sp_Signature_add_function : SpD} (T : Tx K mg) (h_Signature_add_predicate : HasMX P w K mg base "Signature" "add_predicate" k P_Signature_add_predicate sp_Signature_add_predicate) (h_Signature_add_function : HasMX P w K mg base "Signature" "add_function" k P_Signature_add_function sp_Signature_add_function) (cdv : Value) (A : Around) (outer : List Env) (s : Shared) (H : Hp) (E : XK) (hr : Room k (A.deeper (envOfC "_law_add" (defScope s_law_add) s.heap.objs.size (He.ga K "_law_add") cdv))) :
    DSs (cxOf CX0 P w K mg base N_law_add "_law_add" (defScope s_law_add) (He.ga K "_law_add") cdv A outer s H E).nox WN (defBody s_law_add) (t_law_add sp_Signature_add_predicate sp_Signature_add_function) :=
  dss_cons (ds_tryMix rfl rfl takes_nox (fun W pn xe tkT psT => dss_one (ds_if (dt_tru (de_var 2)) (dss_one (ds_exprX (dx_meth T.K_Signature h_Signature_add_predicate tkT hr (de_var 0) (da_cons (de_var 1) (da_cons (de_var 3) (da_nil)))))) (dss_one (ds_exprX (dx_meth T.K_Signature h_Signature_add_function tkT hr (de_var 0) (da_cons (de_var 1) (da_cons (de_var 3) (da_nil)))))))) (.named (i := 4) sc_law_add.nd rfl rfl (by rfl) T.k_TooLarge T.m_TooLarge (fun xa xo xc xd xn xC hz hv => dss_one (ds_ret (de_lst (da_cons (de_str) (da_nil))))) (.named (i := 4) sc_law_add.nd rfl rfl (by rfl) T.k_KindError T.m_KindError (fun xa xo xc xd xn xC hz hv => dss_one (ds_ret (de_lst (da_cons (de_str) (da_cons (de_xf (C := xc) (by have e : xc = "KindError" := (by simpa using xC); subst e; exact T.e_KindError.xf) (by have e : xc = "KindError" := (by simpa using xC); subst e; exact T.e_KindError.no _ (by decide)) hz hv (de_var 4)) (da_nil)))))) (.named (i := 4) sc_law_add.nd rfl rfl (by rfl) T.k_ArityError T.m_ArityError (fun xa xo xc xd xn xC hz hv => dss_one (ds_ret (de_lst (da_cons (de_str) (da_cons (de_xf (C := xc) (by have e : xc = "ArityError" := (by simpa using xC); subst e; exact T.e_ArityError.xf) (by have e : xc = "ArityError" := (by simpa using xC); subst e; exact T.e_ArityError.no _ (by decide)) hz hv (de_var 4)) (da_cons (de_xf (C := xc) (by have e : xc = "ArityError" := (by simpa using xC); subst e; exact T.e_ArityError.xf) (by have e : xc = "ArityError" := (by simpa using xC); subst e; exact T.e_ArityError.no _ (by decide)) hz hv (de_var 4)) (da_cons (de_xf (C := xc) (by have e : xc = "ArityError" := (by simpa using xC); subst e; exact T.e_ArityError.xf) (by have e : xc = "ArityError" := (by simpa using xC); subst e; exact T.e_ArityError.no _ (by decide)) hz hv (de_var 4)) (da_nil)))))))) (.nil))))) (dss_one (ds_ret (de_lst (da_nil))))
theorem void_law_add {k : Nat} {sp : SpD} (T : Tx K mg) (no : ∀ ds h Q E, ¬ sp ds h Q E) : Has P w K mg base "_law_add" k P_law_add sp :=
  .void T.g_law_add T.F_law_add (fun _ _ _ _ _ _ us hl => match us, hl with | [_, _, _, _], _ => rfl) no
theorem mk_law_add {k : Nat} {sp : SpD} {sp_Signature_add_predicate sp_Signature_add_function : SpD} (T : Tx K mg) (h_Signature_add_predicate : HasMX P w K mg base "Signature" "add_predicate" k P_Signature_add_predicate sp_Signature_add_predicate) (h_Signature_add_function : HasMX P w K mg base "Signature" "add_function" k P_Signature_add_function sp_Signature_add_function) (ms : MonoSp sp) (len : ∀ ds h Q E, sp ds h Q E → ds.length = 4)
    (r : ∀ ds h Q Ed, Up Q → sp ds h Q Ed → t_law_add sp_Signature_add_predicate sp_Signature_add_function { nx := fun _ h' => Q .non h', rt := Q } (dstart N_law_add ds) h) : Has P w K mg base "_law_add" (k + 1) P_law_add sp :=
  .of T.g_law_add T.F_law_add sc_law_add ms len (fun _ _ _ _ _ _ us hl => match us, hl with | [_, _, _, _], _ => rfl) (d_law_add T h_Signature_add_predicate h_Signature_add_function) r
theorem d_law_ask_f35a {k : Nat} {sp_Signature_is_predicate_1a94 sp_Signature_arity : SpD} (T : Tx K mg) (h_Signature_is_predicate_1a94 : HasMX P w K mg base "Signature" "is_predicate" k P_Signature_is_predicate_1a94 sp_Signature_is_predicate_1a94) (h_Signature_arity : HasMX P w K mg base "Signature" "arity" k P_Signature_arity sp_Signature_arity) (cdv : Value) (A : Around) (outer : List Env) (s : Shared) (H : Hp) (E : XK) (hr : Room k (A.deeper (envOfC "_law_ask" (defScope s_law_ask_f35a) s.heap.objs.size (He.ga K "_law_ask") cdv))) :
    DSs (cxOf CX0 P w K mg base N_law_ask_f35a "_law_ask" (defScope s_law_ask_f35a) (He.ga K "_law_ask") cdv A outer s H E).nox WN (defBody s_law_ask_f35a) (t_law_ask_f35a sp_Signature_is_predicate_1a94 sp_Signature_arity) :=
  dss_one (ds_tryAs (i := 2) rfl rfl sc_law_ask_f35a.nd rfl rfl (by rfl) T.k_UnknownSymbol T.m_UnknownSymbol takes_nox (fun W pn xe tkT psT => dss_one (ds_retX (dx_lst (dax_cons (dx_meth T.K_Signature h_Signature_arity tkT hr (de_var 0) (da_cons (de_var 1) (da_nil))) (dax_cons (dx_meth T.K_Signature h_Signature_is_predicate_1a94 tkT hr (de_var 0) (da_cons (de_var 1) (da_nil))) (dax_nil)))))) (fun xa xo xc xd xn xC hz hv => dss_one (ds_ret (de_lst (da_cons (de_xf (C := xc) (by have e : xc = "UnknownSymbol" := (by simpa using xC); subst e; exact T.e_UnknownSymbol.xf) (by have e : xc = "UnknownSymbol" := (by simpa using xC); subst e; exact T.e_UnknownSymbol.no _ (by decide)) hz hv (de_var 2)) (da_nil))))))
theorem void_law_ask_f35a {k : Nat} {sp : SpD} (T : Tx K mg) (no : ∀ ds h Q E, ¬ sp ds h Q E) : Has P w K mg base "_law_ask" k P_law_ask_f35a sp :=
  .void T.g_law_ask_f35a T.F_law_ask_f35a (fun _ _ _ _ _ _ us hl => match us, hl with | [_, _], _ => rfl) no
theorem mk_law_ask_f35a {k : Nat} {sp : SpD} {sp_Signature_is_predicate_1a94 sp_Signature_arity : SpD} (T : Tx K mg) (h_Signature_is_predicate_1a94 : HasMX P w K mg base "Signature" "is_predicate" k P_Signature_is_predicate_1a94 sp_Signature_is_predicate_1a94) (h_Signature_arity : HasMX P w K mg base "Signature" "arity" k P_Signature_arity sp_Signature_arity) (ms : MonoSp sp) (len : ∀ ds h Q E, sp ds h Q E → ds.length = 2)
    (r : ∀ ds h Q Ed, Up Q → sp ds h Q Ed → t_law_ask_f35a sp_Signature_is_predicate_1a94 sp_Signature_arity { nx := fun _ h' => Q .non h', rt := Q } (dstart N_law_ask_f35a ds) h) : Has P w K mg base "_law_ask" (k + 1) P_law_ask_f35a sp :=
  .of T.g_law_ask_f35a T.F_law_ask_f35a sc_law_ask_f35a ms len (fun _ _ _ _ _ _ us hl => match us, hl with | [_, _], _ => rfl) (d_law_ask_f35a T h_Signature_is_predicate_1a94 h_Signature_arity) r
theorem d_law_kind_ef40 {k : Nat} {sp_Signature_is_predicate_1a94 : SpD} (T : Tx K mg) (h_Signature_is_predicate_1a94 : HasMX P w K mg base "Signature" "is_predicate" k P_Signature_is_predicate_1a94 sp_Signature_is_predicate_1a94) (cdv : Value) (A : Around) (outer : List Env) (s : Shared) (H : Hp) (E : XK) (hr : Room k (A.deeper (envOfC "_law_kind" (defScope s_law_kind_ef40) s.heap.objs.size (He.ga K "_law_kind") cdv))) :
    DSs (cxOf CX0 P w K mg base N_law_kind_ef40 "_law_kind" (defScope s_law_kind_ef40) (He.ga K "_law_kind") cdv A outer s H E).nox WN (defBody s_law_kind_ef40) (t_law_kind_ef40 sp_Signature_is_predicate_1a94) :=
  dss_one (ds_tryAs (i := 2) rfl rfl sc_law_kind_ef40.nd rfl rfl (by rfl) T.k_UnknownSymbol T.m_UnknownSymbol takes_nox (fun W pn xe tkT psT => dss_one (ds_retX (dx_lst (dax_cons (dx_meth T.K_Signature h_Signature_is_predicate_1a94 tkT hr (de_var 0) (da_cons (de_var 1) (da_nil))) (dax_nil))))) (fun xa xo xc xd xn xC hz hv => dss_one (ds_ret (de_lst (da_cons (de_xf (C := xc) (by have e : xc = "UnknownSymbol" := (by simpa using xC); subst e; exact T.e_UnknownSymbol.xf) (by have e : xc = "UnknownSymbol" := (by simpa using xC); subst e; exact T.e_UnknownSymbol.no _ (by decide)) hz hv (de_var 2)) (da_nil))))))
theorem void_law_kind_ef40 {k : Nat} {sp : SpD} (T : Tx K mg) (no : ∀ ds h Q E, ¬ sp ds h Q E) : Has P w K mg base "_law_kind" k P_law_kind_ef40 sp :=
  .void T.g_law_kind_ef40 T.F_law_kind_ef40 (fun _ _ _ _ _ _ us hl => match us, hl with | [_, _], _ => rfl) no
theorem mk_law_kind_ef40 {k : Nat} {sp : SpD} {sp_Signature_is_predicate_1a94 : SpD} (T : Tx K mg) (h_Signature_is_predicate_1a94 : HasMX P w K mg base "Signature" "is_predicate" k P_Signature_is_predicate_1a94 sp_Signature_is_predicate_1a94) (ms : MonoSp sp) (len : ∀ ds h Q E, sp ds h Q E → ds.length = 2)
    (r : ∀ ds h Q Ed, Up Q → sp ds h Q Ed → t_law_kind_ef40 sp_Signature_is_predicate_1a94 { nx := fun _ h' => Q .non h', rt := Q } (dstart N_law_kind_ef40 ds) h) : Has P w K mg base "_law_kind" (k + 1) P_law_kind_ef40 sp :=
  .of T.g_law_kind_ef40 T.F_law_kind_ef40 sc_law_kind_ef40 ms len (fun _ _ _ _ _ _ us hl => match us, hl with | [_, _], _ => rfl) (d_law_kind_ef40 T h_Signature_is_predicate_1a94) r
theorem d_law_due_2e6d {k : Nat} (T : Tx K mg) (cdv : Value) (A : Around) (outer : List Env) (s : Shared) (H : Hp) (E : XK) (hr : Room k (A.deeper (envOfC "_law_due" (defScope s_law_due_2e6d) s.heap.objs.size (He.ga K "_law_due") cdv))) :
    DSs (cxOf CX0 P w K mg base N_law_due_2e6d "_law_due" (defScope s_law_due_2e6d) (He.ga K "_law_due") cdv A outer s H E).nox WN (defBody s_law_due_2e6d) (t_law_due_2e6d) :=
  dss_cons (ds_if (dt_cmp dop_gt (de_var 3) (de_int)) (dss_one (ds_ret (de_lst (da_cons (de_str) (da_nil))))) (dss_nil)) (dss_cons (ds_for PassesOwn.never rfl (di_seq (de_var 0)) (dg_name (i := 4) sc_law_due_2e6d.nd rfl (Or.inl rfl)) (dss_cons (ds_if (DW.dt (dw_and (dt_cmp (dop_eq hr.units) (de_ix (de_var 4) (de_int)) (de_var 1)) (dw_and1 (dt_cmp (dop_ne hr.units) (de_ix (de_var 4) (de_int)) (de_var 2))))) (dss_one (ds_ret (de_lst (da_cons (de_str) (da_cons (de_var 1) (da_nil)))))) (dss_nil)) (dss_one (ds_if (DW.dt (dw_and (dt_cmp (dop_eq hr.units) (de_ix (de_var 4) (de_int)) (de_var 1)) (dw_and1 (dt_cmp (dop_ne hr.units) (de_ix (de_var 4) (de_int)) (de_var 3))))) (dss_one (ds_ret (de_lst (da_cons (de_str) (da_cons (de_var 1) (da_cons (de_ix (de_var 4) (de_int)) (da_cons (de_var 3) (da_nil)))))))) (dss_nil))))) (dss_one (ds_ret (de_lst (da_nil)))))
theorem void_law_due_2e6d {k : Nat} {sp : SpD} (T : Tx K mg) (no : ∀ ds h Q E, ¬ sp ds h Q E) : Has P w K mg base "_law_due" k P_law_due_2e6d sp :=
  .void T.g_law_due_2e6d T.F_law_due_2e6d (fun _ _ _ _ _ _ us hl => match us, hl with | [_, _, _, _], _ => rfl) no
theorem mk_law_due_2e6d {k : Nat} {sp : SpD} (T : Tx K mg) (ms : MonoSp sp) (len : ∀ ds h Q E, sp ds h Q E → ds.length = 4)
    (r : ∀ ds h Q Ed, Up Q → sp ds h Q Ed → t_law_due_2e6d { nx := fun _ h' => Q .non h', rt := Q } (dstart N_law_due_2e6d ds) h) : Has P w K mg base "_law_due" (k + 1) P_law_due_2e6d sp :=
  .of T.g_law_due_2e6d T.F_law_due_2e6d sc_law_due_2e6d ms len (fun _ _ _ _ _ _ us hl => match us, hl with | [_, _, _, _], _ => rfl) (d_law_due_2e6d T) r
theorem d_law_agrees {k : Nat} {sp_Signature_predicates sp_Signature_functions sp_law_same_1a08 sp_Signature_len__ sp_Signature_contains__ sp_law_ask_f35a sp_law_kind_ef40 : SpD} (T : Tx K mg) (h_Signature_predicates : HasM P w K mg base "Signature" "predicates" (k + 1) P_Signature_predicates sp_Signature_predicates) (h_Signature_functions : HasM P w K mg base "Signature" "functions" (k + 1) P_Signature_functions sp_Signature_functions) (h_law_same_1a08 : Has P w K mg base "_law_same" (k + 1) P_law_same_1a08 sp_law_same_1a08) (h_Signature_len__ : HasM P w K mg base "Signature" "__len__" k P_Signature_len__ sp_Signature_len__) (h_Signature_contains__ : HasM P w K mg base "Signature" "__contains__" (k + 1) P_Signature_contains__ sp_Signature_contains__) (h_law_ask_f35a : Has P w K mg base "_law_ask" (k + 1) P_law_ask_f35a sp_law_ask_f35a) (h_law_kind_ef40 : Has P w K mg base "_law_kind" (k + 1) P_law_kind_ef40 sp_law_kind_ef40) (cdv : Value) (A : Around) (outer : List Env) (s : Shared) (H : Hp) (E : XK) (hr : Room (k + 1) (A.deeper (envOfC "_law_agrees" (defScope s_law_agrees) s.heap.objs.size (He.ga K "_law_agrees") cdv))) :
    DSs (cxOf CX0 P w K mg base N_law_agrees "_law_agrees" (defScope s_law_agrees) (He.ga K "_law_agrees") cdv A outer s H E).nox WN (defBody s_law_agrees) (t_law_agrees sp_Signature_predicates sp_Signature_functions sp_law_same_1a08 sp_Signature_len__ sp_Signature_contains__ sp_law_ask_f35a sp_law_kind_ef40) :=
  dss_cons (ds_set (i := 3) sc_law_agrees.nd rfl (Or.inl rfl) (de_lst (da_cons (de_meth0 T.K_Signature h_Signature_functions hr (de_var 0)) (da_cons (de_meth0 T.K_Signature h_Signature_predicates hr (de_var 0)) (da_nil))))) (dss_cons (ds_if (dt_not (dt_tru (de_has h_law_same_1a08 hr (by rfl) (da_cons (de_ix (de_var 3) (de_int)) (da_cons (de_lc (own := [("_law_row", 4)]) (g := gName 4) (t := dgName 4) (tt := dNot (dTru (dOp ixD (dVar 4) (dC (.int 1))))) (te := dTup (dCons (dOp ixD (dVar 4) (dC (.int 0))) (dCons (dOp ixD (dVar 4) (dC (.int 2))) (dNil)))) rfl sc_law_agrees.nd (di_seq (de_var 1)) (blkOk_by (own := [("_law_row", 4)]) (N := N_law_agrees) (sc := defScope s_law_agrees) (by decide +kernel)) (fun _ _ _ _ _ => pg_name (i := 4) sc_law_agrees.nd rfl (Or.inl rfl)) (dgc_name (by decide)) (fun _ _ _ _ _ => dts_one (dt_not (dt_tru (de_ix (de_var 4) (de_int))))) (fun _ _ _ _ _ => de_tup (da_cons (de_ix (de_var 4) (de_int)) (da_cons (de_ix (de_var 4) (de_int)) (da_nil))))) (da_nil)))))) (dss_one (ds_ret (de_bl))) (dss_nil)) (dss_cons (ds_if (dt_not (dt_tru (de_has h_law_same_1a08 hr (by rfl) (da_cons (de_ix (de_var 3) (de_int)) (da_cons (de_lc (own := [("_law_row", 4)]) (g := gName 4) (t := dgName 4) (tt := dTru (dOp ixD (dVar 4) (dC (.int 1)))) (te := dTup (dCons (dOp ixD (dVar 4) (dC (.int 0))) (dCons (dOp ixD (dVar 4) (dC (.int 2))) (dNil)))) rfl sc_law_agrees.nd (di_seq (de_var 1)) (blkOk_by (own := [("_law_row", 4)]) (N := N_law_agrees) (sc := defScope s_law_agrees) (by decide +kernel)) (fun _ _ _ _ _ => pg_name (i := 4) sc_law_agrees.nd rfl (Or.inl rfl)) (dgc_name (by decide)) (fun _ _ _ _ _ => dts_one (dt_tru (de_ix (de_var 4) (de_int)))) (fun _ _ _ _ _ => de_tup (da_cons (de_ix (de_var 4) (de_int)) (da_cons (de_ix (de_var 4) (de_int)) (da_nil))))) (da_nil)))))) (dss_one (ds_ret (de_bl))) (dss_nil)) (dss_cons (ds_expr (de_append (de_ix (de_var 3) (de_int)) (de_tup (da_cons (de_str) (da_cons (de_int) (da_nil)))))) (dss_cons (ds_expr (de_append (de_ix (de_var 3) (de_int)) (de_tup (da_cons (de_str) (da_cons (de_int) (da_nil)))))) (dss_cons (ds_if (dt_not (dt_tru (de_has h_law_same_1a08 hr (by rfl) (da_cons (de_callB (dc_lenO h_Signature_len__ hr) (by rfl) T.n_len (by decide +kernel) (da_cons (de_var 0) (da_nil))) (da_cons (de_callB dc_len (by rfl) T.n_len (by decide +kernel) (da_cons (de_var 1) (da_nil))) (da_nil)))))) (dss_one (ds_ret (de_bl))) (dss_nil)) (dss_cons (ds_for PassesOwn.never rfl (di_seq (de_var 2)) (dg_name (i := 5) sc_law_agrees.nd rfl (Or.inr rfl)) (dss_cons (ds_setLc (i := 6) (own := [("_law_row", 4)]) (g := gName 4) (t := dgName 4) (tt := dB (dOp eqD (dOp ixD (dVar 4) (dC (.int 0))) (dVar 5))) (te := dVar 4) rfl sc_law_agrees.nd rfl rfl (sw_true rfl rfl rfl (by decide +kernel)) (di_seq (de_var 1)) (blkOk_by (own := [("_law_row", 4)]) (N := N_law_agrees) (sc := defScope s_law_agrees) (by decide +kernel)) (fun _ _ _ _ _ => pg_name (i := 4) sc_law_agrees.nd rfl (Or.inl rfl)) (dgc_name (by decide)) (fun _ _ _ _ _ => dts_one (dt_cmp (dop_eq hr.units) (de_ix (de_var 4) (de_int)) (de_var 5))) (fun _ _ _ _ _ => de_var 4)) (dss_cons (ds_if (dt_not (dt_tru (de_has h_law_same_1a08 hr (by rfl) (da_cons (de_cmp (dop_inO h_Signature_contains__ hr) (de_var 5) (de_var 0)) (da_cons (de_cmp (dop_eq hr.units) (de_callB dc_len (by rfl) T.n_len (by decide +kernel) (da_cons (de_var 6) (da_nil))) (de_int)) (da_nil)))))) (dss_one (ds_ret (de_bl))) (dss_nil)) (dss_cons (ds_set (i := 7) sc_law_agrees.nd rfl (Or.inl rfl) (de_lst (da_cons (de_var 5) (da_nil)))) (dss_cons (ds_if (dt_cmp (dop_eq hr.units) (de_callB dc_len (by rfl) T.n_len (by decide +kernel) (da_cons (de_var 6) (da_nil))) (de_int)) (dss_one (ds_set (i := 7) sc_law_agrees.nd rfl (Or.inl rfl) (de_lst (da_cons (de_ix (de_ix (de_var 6) (de_int)) (de_int)) (da_cons (de_ix (de_ix (de_var 6) (de_int)) (de_int)) (da_nil)))))) (dss_nil)) (dss_one (ds_if (DW.dt (dw_or (dt_not (dt_tru (de_has h_law_same_1a08 hr (by rfl) (da_cons (de_has h_law_ask_f35a hr (by rfl) (da_cons (de_var 0) (da_cons (de_var 5) (da_nil)))) (da_cons (de_var 7) (da_nil)))))) (dw_or1 (dt_not (dt_tru (de_has h_law_same_1a08 hr (by rfl) (da_cons (de_has h_law_kind_ef40 hr (by rfl) (da_cons (de_var 0) (da_cons (de_var 5) (da_nil)))) (da_cons (de_slice (de_var 7) (do_some (de_neg (de_int))) (do_none)) (da_nil))))))))) (dss_one (ds_ret (de_bl))) (dss_nil)))))))) (dss_one (ds_ret (de_bl)))))))))
theorem void_law_agrees {k : Nat} {sp : SpD} (T : Tx K mg) (no : ∀ ds h Q E, ¬ sp ds h Q E) : Has P w K mg base "_law_agrees" k P_law_agrees sp :=
  .void T.g_law_agrees T.F_law_agrees (fun _ _ _ _ _ _ us hl => match us, hl with | [_, _, _], _ => rfl) no
theorem mk_law_agrees {k : Nat} {sp : SpD} {sp_Signature_predicates sp_Signature_functions sp_law_same_1a08 sp_Signature_len__ sp_Signature_contains__ sp_law_ask_f35a sp_law_kind_ef40 : SpD} (T : Tx K mg) (h_Signature_predicates : HasM P w K mg base "Signature" "predicates" (k + 1) P_Signature_predicates sp_Signature_predicates) (h_Signature_functions : HasM P w K mg base "Signature" "functions" (k + 1) P_Signature_functions sp_Signature_functions) (h_law_same_1a08 : Has P w K mg base "_law_same" (k + 1) P_law_same_1a08 sp_law_same_1a08) (h_Signature_len__ : HasM P w K mg base "Signature" "__len__" k P_Signature_len__ sp_Signature_len__) (h_Signature_contains__ : HasM P w K mg base "Signature" "__contains__" (k + 1) P_Signature_contains__ sp_Signature_contains__) (h_law_ask_f35a : Has P w K mg base "_law_ask" (k + 1) P_law_ask_f35a sp_law_ask_f35a) (h_law_kind_ef40 : Has P w K mg base "_law_kind" (k + 1) P_law_kind_ef40 sp_law_kind_ef40) (ms : MonoSp sp) (len : ∀ ds h Q E, sp ds h Q E → ds.length = 3)
    (r : ∀ ds h Q Ed, Up Q → sp ds h Q Ed → t_law_agrees sp_Signature_predicates sp_Signature_functions sp_law_same_1a08 sp_Signature_len__ sp_Signature_contains__ sp_law_ask_f35a sp_law_kind_ef40 { nx := fun _ h' => Q .non h', rt := Q } (dstart N_law_agrees ds) h) : Has P w K mg base "_law_agrees" (k + 2) P_law_agrees sp :=
  .of T.g_law_agrees T.F_law_agrees sc_law_agrees ms len (fun _ _ _ _ _ _ us hl => match us, hl with | [_, _, _], _ => rfl) (d_law_agrees T h_Signature_predicates h_Signature_functions h_law_same_1a08 h_Signature_len__ h_Signature_contains__ h_law_ask_f35a h_law_kind_ef40) r
theorem d_law_k14 {k : Nat} {sp_law_draws sp_law_words sp_Signature_init__ sp_law_take sp_law_due_2e6d sp_law_same_1a08 sp_law_add sp_law_agrees : SpD} (T : Tx K mg) (h_law_draws : Has P w K mg base "_law_draws" (k + 1) P_law_draws sp_law_draws) (h_law_words : Has P w K mg base "_law_words" (k + 1) P_law_words sp_law_words) (h_Signature_init__ : HasM P w K mg base "Signature" "__init__" k P_Signature_init__ sp_Signature_init__) (h_law_take : Has P w K mg base "_law_take" (k + 1) P_law_take sp_law_take) (h_law_due_2e6d : Has P w K mg base "_law_due" (k + 1) P_law_due_2e6d sp_law_due_2e6d) (h_law_add : Has P w K mg base "_law_add" (k + 1) P_law_add sp_law_add) (h_law_same_1a08 : Has P w K mg base "_law_same" (k + 1) P_law_same_1a08 sp_law_same_1a08) (h_law_agrees : Has P w K mg base "_law_agrees" (k + 1) P_law_agrees sp_law_agrees) (cdv : Value) (A : Around) (outer : List Env) (s : Shared) (H : Hp) (E : XK) (hr : Room (k + 1) (A.deeper (envOfC "law" (defScope s_law_k14) s.heap.objs.size (He.ga K "law") cdv))) :
    DSs (cxOf CX0 P w K mg base N_law_k14 "law" (defScope s_law_k14) (He.ga K "law") cdv A outer s H E).nox WN (defBody s_law_k14) (t_law_k14 sp_law_draws sp_law_words sp_Signature_init__ sp_law_take sp_law_due_2e6d sp_law_same_1a08 sp_law_add sp_law_agrees) :=
  dss_cons (ds_set (i := 1) sc_law_k14.nd rfl (Or.inl rfl) (de_has h_law_draws hr (by rfl) (da_cons (de_var 0) (da_nil)))) (dss_cons (ds_set (i := 2) sc_law_k14.nd rfl (Or.inl rfl) (de_has h_law_words hr (by rfl) (da_cons (de_var 1) (da_cons (de_int) (da_nil))))) (dss_cons (ds_set (i := 3) sc_law_k14.nd rfl (Or.inl rfl) (de_lst (da_cons (de_make0 T.M_Signature h_Signature_init__ hr (by rfl) T.G_Signature) (da_cons (de_make0 T.M_Signature h_Signature_init__ hr (by rfl) T.G_Signature) (da_nil))))) (dss_cons (ds_set (i := 4) sc_law_k14.nd rfl (Or.inl rfl) (de_lst (da_cons (de_lst (da_nil)) (da_cons (de_lst (da_nil)) (da_nil))))) (dss_cons (ds_for PassesOwn.never rfl (di_rng1 (by rfl) T.n_range (da_cons (de_has h_law_take hr (by rfl) (da_cons (de_var 1) (da_cons (de_int) (da_nil)))) (da_nil))) (dg_name (i := 5) sc_law_k14.nd rfl (Or.inl rfl)) (dss_cons (ds_set (i := 6) sc_law_k14.nd rfl (Or.inl rfl) (de_callTy dc_intB (by rfl) T.n_int (by decide +kernel) (da_cons (de_cmp (dop_eq hr.units) (de_has h_law_take hr (by rfl) (da_cons (de_var 1) (da_cons (de_int) (da_nil)))) (de_int)) (da_nil)))) (dss_cons (ds_set (i := 7) sc_law_k14.nd rfl (Or.inr rfl) (de_ix (de_var 2) (de_has h_law_take hr (by rfl) (da_cons (de_var 1) (da_cons (de_int) (da_nil)))))) (dss_cons (ds_set (i := 8) sc_law_k14.nd rfl (Or.inl rfl) (de_cmp (dop_eq hr.units) (de_has h_law_take hr (by rfl) (da_cons (de_var 1) (da_cons (de_int) (da_nil)))) (de_int))) (dss_cons (ds_set (i := 9) sc_law_k14.nd rfl (Or.inl rfl) (de_has h_law_take hr (by rfl) (da_cons (de_var 1) (da_cons (de_int) (da_nil))))) (dss_cons (ds_setLc (i := 10) (own := [("_law_row", 11)]) (g := gName 11) (t := dgName 11) (tt := dB (dOp eqD (dOp ixD (dVar 11) (dC (.int 0))) (dVar 7))) (te := dVar 11) rfl sc_law_k14.nd rfl rfl (sw_true rfl rfl rfl (by decide +kernel)) (di_seq (de_ix (de_var 4) (de_var 6))) (blkOk_by (own := [("_law_row", 11)]) (N := N_law_k14) (sc := defScope s_law_k14) (by decide +kernel)) (fun _ _ _ _ _ => pg_name (i := 11) sc_law_k14.nd rfl (Or.inl rfl)) (dgc_name (by decide)) (fun _ _ _ _ _ => dts_one (dt_cmp (dop_eq hr.units) (de_ix (de_var 11) (de_int)) (de_var 7))) (fun _ _ _ _ _ => de_var 11)) (dss_cons (ds_if (DW.dt (dw_and (dt_cmp (dop_eq hr.units) (de_callB dc_len (by rfl) T.n_len (by decide +kernel) (da_cons (de_var 10) (da_nil))) (de_int)) (dw_and1 (dt_cmp (dop_eq hr.units) (de_has h_law_take hr (by rfl) (da_cons (de_var 1) (da_cons (de_int) (da_nil)))) (de_int))))) (dss_one (ds_set (i := 9) sc_law_k14.nd rfl (Or.inl rfl) (de_ix (de_ix (de_var 10) (de_int)) (de_int)))) (dss_nil)) (dss_cons (ds_set (i := 12) sc_law_k14.nd rfl (Or.inl rfl) (de_has h_law_due_2e6d hr (by rfl) (da_cons (de_ix (de_var 4) (de_var 6)) (da_cons (de_var 7) (da_cons (de_var 8) (da_cons (de_var 9) (da_nil))))))) (dss_cons (ds_if (dt_not (dt_tru (de_has h_law_same_1a08 hr (by rfl) (da_cons (de_has h_law_add hr (by rfl) (da_cons (de_ix (de_var 3) (de_var 6)) (da_cons (de_var 7) (da_cons (de_var 8) (da_cons (de_var 9) (da_nil)))))) (da_cons (de_var 12) (da_nil)))))) (dss_one (ds_ret (de_bl))) (dss_nil)) (dss_cons (ds_if (DW.dt (dw_and (dt_cmp (dop_eq hr.units) (de_callB dc_len (by rfl) T.n_len (by decide +kernel) (da_cons (de_var 12) (da_nil))) (de_int)) (dw_and1 (dt_cmp (dop_eq hr.units) (de_callB dc_len (by rfl) T.n_len (by decide +kernel) (da_cons (de_var 10) (da_nil))) (de_int))))) (dss_one (ds_expr (de_append (de_ix (de_var 4) (de_var 6)) (de_lst (da_cons (de_var 7) (da_cons (de_var 8) (da_cons (de_var 9) (da_nil)))))))) (dss_nil)) (dss_one (ds_for PassesOwn.never rfl (di_rng1 (by rfl) T.n_range (da_cons (de_int) (da_nil))) (dg_name (i := 13) sc_law_k14.nd rfl (Or.inl rfl)) (dss_one (ds_if (dt_not (dt_tru (de_has h_law_agrees hr (by rfl) (da_cons (de_ix (de_var 3) (de_var 13)) (da_cons (de_ix (de_var 4) (de_var 13)) (da_cons (de_var 2) (da_nil))))))) (dss_one (ds_ret (de_bl))) (dss_nil))))))))))))))) (dss_one (ds_ret (de_has h_law_agrees hr (by rfl) (da_cons (de_ix (de_var 3) (de_int)) (da_cons (de_ix (de_var 4) (de_int)) (da_cons (de_var 2) (da_nil)))))))))))
theorem void_law_k14 {k : Nat} {sp : SpD} (T : Tx K mg) (no : ∀ ds h Q E, ¬ sp ds h Q E) : Has P w K mg base "law" k P_law_k14 sp :=
  .void T.g_law_k14 T.F_law_k14 (fun _ _ _ _ _ _ us hl => match us, hl with | [_], _ => rfl) no
theorem mk_law_k14 {k : Nat} {sp : SpD} {sp_law_draws sp_law_words sp_Signature_init__ sp_law_take sp_law_due_2e6d sp_law_same_1a08 sp_law_add sp_law_agrees : SpD} (T : Tx K mg) (h_law_draws : Has P w K mg base "_law_draws" (k + 1) P_law_draws sp_law_draws) (h_law_words : Has P w K mg base "_law_words" (k + 1) P_law_words sp_law_words) (h_Signature_init__ : HasM P w K mg base "Signature" "__init__" k P_Signature_init__ sp_Signature_init__) (h_law_take : Has P w K mg base "_law_take" (k + 1) P_law_take sp_law_take) (h_law_due_2e6d : Has P w K mg base "_law_due" (k + 1) P_law_due_2e6d sp_law_due_2e6d) (h_law_add : Has P w K mg base "_law_add" (k + 1) P_law_add sp_law_add) (h_law_same_1a08 : Has P w K mg base "_law_same" (k + 1) P_law_same_1a08 sp_law_same_1a08) (h_law_agrees : Has P w K mg base "_law_agrees" (k + 1) P_law_agrees sp_law_agrees) (ms : MonoSp sp) (len : ∀ ds h Q E, sp ds h Q E → ds.length = 1)
    (r : ∀ ds h Q Ed, Up Q → sp ds h Q Ed → t_law_k14 sp_law_draws sp_law_words sp_Signature_init__ sp_law_take sp_law_due_2e6d sp_law_same_1a08 sp_law_add sp_law_agrees { nx := fun _ h' => Q .non h', rt := Q } (dstart N_law_k14 ds) h) : Has P w K mg base "law" (k + 2) P_law_k14 sp :=
  .of T.g_law_k14 T.F_law_k14 sc_law_k14 ms len (fun _ _ _ _ _ _ us hl => match us, hl with | [_], _ => rfl) (d_law_k14 T h_law_draws h_law_words h_Signature_init__ h_law_take h_law_due_2e6d h_law_add h_law_same_1a08 h_law_agrees) r
theorem d_Signature_init__ {k : Nat} (T : Tx K mg) (cdv : Value) (A : Around) (outer : List Env) (s : Shared) (H : Hp) (E : XK) (hr : Room k (A.deeper (envOfC "Signature.__init__" (defScope s_Signature_init__) s.heap.objs.size (He.ma K (He.ga K "Signature") "__init__") cdv))) :
    DSs (cxOf CX0 P w K mg base N_Signature_init__ "Signature.__init__" (defScope s_Signature_init__) (He.ma K (He.ga K "Signature") "__init__") cdv A outer s H E).nox WN (defBody s_Signature_init__) (t_Signature_init__) :=
  dss_one (ds_fld T.K_Signature (by decide) (de_var 0) (de_dnew))
theorem void_Signature_init__ {k : Nat} {sp : SpD} (T : Tx K mg) (no : ∀ ds h Q E, ¬ sp ds h Q E) : HasM P w K mg base "Signature" "__init__" k P_Signature_init__ sp :=
  .void T.A_Signature_init__ T.F_Signature_init__ (fun _ _ _ _ _ _ us hl => match us, hl with | [_], _ => rfl) no
theorem mk_Signature_init__ {k : Nat} {sp : SpD} (T : Tx K mg) (ms : MonoSp sp) (len : ∀ ds h Q E, sp ds h Q E → ds.length = 1)
    (r : ∀ ds h Q Ed, Up Q → sp ds h Q Ed → t_Signature_init__ { nx := fun _ h' => Q .non h', rt := Q } (dstart N_Signature_init__ ds) h) : HasM P w K mg base "Signature" "__init__" (k + 1) P_Signature_init__ sp :=
  .of T.A_Signature_init__ T.F_Signature_init__ sc_Signature_init__ ms len (fun _ _ _ _ _ _ us hl => match us, hl with | [_], _ => rfl) (d_Signature_init__ T) r
theorem d_Signature_add {k : Nat} (T : Tx K mg) (cdv : Value) (A : Around) (outer : List Env) (s : Shared) (H : Hp) (E : XK) (hr : Room (k + 2) (A.deeper (envOfC "Signature._add" (defScope s_Signature_add) s.heap.objs.size (He.ma K (He.ga K "Signature") "_add") cdv))) :
    DSs (cxOf (L2N.CX P w) P w K mg base N_Signature_add "Signature._add" (defScope s_Signature_add) (He.ma K (He.ga K "Signature") "_add") cdv A outer s H E) (fun cls d _ H => E cls d H) (defBody s_Signature_add) (t_Signature_add) :=
  dss_cons (ds_if (dt_cmp dop_gt (de_var 3) (de_gc T.c_MAX_ARITY (by rfl))) (dss_one (ds_raise T.e_TooLarge (ini_TooLarge T) (by decide) rfl takes_def hr (by rfl) (da_cons (de_str) (da_nil)))) (dss_nil)) (dss_cons (ds_if (dt_dnotin (u1 hr) (de_var 1) (de_fld T.K_Signature (by decide) (de_var 0))) (dss_cons (ds_dput (u1 hr) (de_fld T.K_Signature (by decide) (de_var 0)) (de_var 1) (de_tup (da_cons (de_var 2) (da_cons (de_var 3) (da_nil))))) (dss_one (ds_retN))) (dss_nil)) (dss_cons (ds_asg (de_dget (u1 hr) (de_fld T.K_Signature (by decide) (de_var 0)) (de_var 1) (by intro _ _; rfl)) (dg_tup rfl (dgs_cons (dg_name (i := 4) sc_Signature_add.nd rfl (Or.inl rfl)) (dgs_cons (dg_name (i := 5) sc_Signature_add.nd rfl (Or.inl rfl)) (dgs_nil))))) (dss_cons (ds_if (dt_cmp (dop_ne hr.units) (de_var 4) (de_var 2)) (dss_one (ds_raise T.e_KindError (ini_KindError T) (by decide) rfl takes_def hr (by rfl) (da_cons (de_var 1) (da_nil)))) (dss_nil)) (dss_one (ds_if (dt_cmp (dop_ne hr.units) (de_var 5) (de_var 3)) (dss_one (ds_raise T.e_ArityError (ini_ArityError T) (by decide) rfl takes_def hr (by rfl) (da_cons (de_var 1) (da_cons (de_var 5) (da_cons (de_var 3) (da_nil)))))) (dss_nil))))))
theorem mk_Signature_add {k : Nat} {sp : SpD} (T : Tx K mg) (ms : MonoSp sp) (mx : MonoX sp) (len : ∀ ds h Q E, sp ds h Q E → ds.length = 4)
    (r : ∀ ds h Q Ed, Up Q → sp ds h Q Ed → t_Signature_add { nx := fun _ h' => Q .non h', rt := Q, ex := fun _ => Ed } (dstart N_Signature_add ds) h) : HasMX P w K mg base "Signature" "_add" (k + 3) P_Signature_add sp :=
  .of T.A_Signature_add T.F_Signature_add sc_Signature_add ms mx len (fun _ _ _ _ _ _ us hl => match us, hl with | [_, _, _, _], _ => rfl) (d_Signature_add T) r
theorem d_Signature_add_function {k : Nat} {sp_Signature_add : SpD} (T : Tx K mg) (h_Signature_add : HasMX P w K mg base "Signature" "_add" k P_Signature_add sp_Signature_add) (cdv : Value) (A : Around) (outer : List Env) (s : Shared) (H : Hp) (E : XK) (hr : Room k (A.deeper (envOfC "Signature.add_function" (defScope s_Signature_add_function) s.heap.objs.size (He.ma K (He.ga K "Signature") "add_function") cdv))) :
    DSs (cxOf (L2N.CX P w) P w K mg base N_Signature_add_function "Signature.add_function" (defScope s_Signature_add_function) (He.ma K (He.ga K "Signature") "add_function") cdv A outer s H E) (fun cls d _ H => E cls d H) (defBody s_Signature_add_function) (t_Signature_add_function sp_Signature_add) :=
  dss_one (ds_exprX (dx_meth T.K_Signature h_Signature_add takes_def hr (de_var 0) (da_cons (de_var 1) (da_cons (de_bl) (da_cons (de_var 2) (da_nil))))))
theorem mk_Signature_add_function {k : Nat} {sp : SpD} {sp_Signature_add : SpD} (T : Tx K mg) (h_Signature_add : HasMX P w K mg base "Signature" "_add" k P_Signature_add sp_Signature_add) (ms : MonoSp sp) (mx : MonoX sp) (len : ∀ ds h Q E, sp ds h Q E → ds.length = 3)
    (r : ∀ ds h Q Ed, Up Q → sp ds h Q Ed → t_Signature_add_function sp_Signature_add { nx := fun _ h' => Q .non h', rt := Q, ex := fun _ => Ed } (dstart N_Signature_add_function ds) h) : HasMX P w K mg base "Signature" "add_function" (k + 1) P_Signature_add_function sp :=
  .of T.A_Signature_add_function T.F_Signature_add_function sc_Signature_add_function ms mx len (fun _ _ _ _ _ _ us hl => match us, hl with | [_, _, _], _ => rfl) (d_Signature_add_function T h_Signature_add) r
theorem d_Signature_add_predicate {k : Nat} {sp_Signature_add : SpD} (T : Tx K mg) (h_Signature_add : HasMX P w K mg base "Signature" "_add" k P_Signature_add sp_Signature_add) (cdv : Value) (A : Around) (outer : List Env) (s : Shared) (H : Hp) (E : XK) (hr : Room k (A.deeper (envOfC "Signature.add_predicate" (defScope s_Signature_add_predicate) s.heap.objs.size (He.ma K (He.ga K "Signature") "add_predicate") cdv))) :
    DSs (cxOf (L2N.CX P w) P w K mg base N_Signature_add_predicate "Signature.add_predicate" (defScope s_Signature_add_predicate) (He.ma K (He.ga K "Signature") "add_predicate") cdv A outer s H E) (fun cls d _ H => E cls d H) (defBody s_Signature_add_predicate) (t_Signature_add_predicate sp_Signature_add) :=
  dss_one (ds_exprX (dx_meth T.K_Signature h_Signature_add takes_def hr (de_var 0) (da_cons (de_var 1) (da_cons (de_bl) (da_cons (de_var 2) (da_nil))))))
theorem mk_Signature_add_predicate {k : Nat} {sp : SpD} {sp_Signature_add : SpD} (T : Tx K mg) (h_Signature_add : HasMX P w K mg base "Signature" "_add" k P_Signature_add sp_Signature_add) (ms : MonoSp sp) (mx : MonoX sp) (len : ∀ ds h Q E, sp ds h Q E → ds.length = 3)
    (r : ∀ ds h Q Ed, Up Q → sp ds h Q Ed → t_Signature_add_predicate sp_Signature_add { nx := fun _ h' => Q .non h', rt := Q, ex := fun _ => Ed } (dstart N_Signature_add_predicate ds) h) : HasMX P w K mg base "Signature" "add_predicate" (k + 1) P_Signature_add_predicate sp :=
  .of T.A_Signature_add_predicate T.F_Signature_add_predicate sc_Signature_add_predicate ms mx len (fun _ _ _ _ _ _ us hl => match us, hl with | [_, _, _], _ => rfl) (d_Signature_add_predicate T h_Signature_add) r
theorem d_Signature_functions {k : Nat} (T : Tx K mg) (cdv : Value) (A : Around) (outer : List Env) (s : Shared) (H : Hp) (E : XK) (hr : Room k (A.deeper (envOfC "Signature.functions" (defScope s_Signature_functions) s.heap.objs.size (He.ma K (He.ga K "Signature") "functions") cdv))) :
    DSs (cxOf CX0 P w K mg base N_Signature_functions "Signature.functions" (defScope s_Signature_functions) (He.ma K (He.ga K "Signature") "functions") cdv A outer s H E).nox WN (defBody s_Signature_functions) (t_Signature_functions) :=
  dss_one (ds_ret (de_lock (de_lc (own := [("symbol", 1), ("known", 2)]) (g := gTup K 2 (gCons (gName 1) (gCons (gName 2) (gNil)))) (t := dgTup 2 (dgCons (dgName 1) (dgCons (dgName 2) (dgNil)))) (tt := dNot (dTru (dOp ixD (dVar 2) (dC (.int 0))))) (te := dTup (dCons (dVar 1) (dCons (dOp ixD (dVar 2) (dC (.int 1))) (dNil)))) rfl sc_Signature_functions.nd (di_items (de_fld T.K_Signature (by decide) (de_var 0))) (blkOk_by (own := [("symbol", 1), ("known", 2)]) (N := N_Signature_functions) (sc := defScope s_Signature_functions) (by decide +kernel)) (fun _ _ _ _ _ => pg_tup rfl (pgs_cons (pg_name (i := 1) sc_Signature_functions.nd rfl (Or.inl rfl)) (pgs_cons (pg_name (i := 2) sc_Signature_functions.nd rfl (Or.inl rfl)) (pgs_nil)))) (dgc_tup (dgcs_cons (dgc_name (by decide)) (dgcs_cons (dgc_name (by decide)) (dgcs_nil)))) (fun _ _ _ _ _ => dts_one (dt_not (dt_tru (de_ix (de_var 2) (de_int))))) (fun _ _ _ _ _ => de_tup (da_cons (de_var 1) (da_cons (de_ix (de_var 2) (de_int)) (da_nil)))))))
theorem void_Signature_functions {k : Nat} {sp : SpD} (T : Tx K mg) (no : ∀ ds h Q E, ¬ sp ds h Q E) : HasM P w K mg base "Signature" "functions" k P_Signature_functions sp :=
  .void T.A_Signature_functions T.F_Signature_functions (fun _ _ _ _ _ _ us hl => match us, hl with | [_], _ => rfl) no
theorem mk_Signature_functions {k : Nat} {sp : SpD} (T : Tx K mg) (ms : MonoSp sp) (len : ∀ ds h Q E, sp ds h Q E → ds.length = 1)
    (r : ∀ ds h Q Ed, Up Q → sp ds h Q Ed → t_Signature_functions { nx := fun _ h' => Q .non h', rt := Q } (dstart N_Signature_functions ds) h) : HasM P w K mg base "Signature" "functions" (k + 1) P_Signature_functions sp :=
  .of T.A_Signature_functions T.F_Signature_functions sc_Signature_functions ms len (fun _ _ _ _ _ _ us hl => match us, hl with | [_], _ => rfl) (d_Signature_functions T) r
theorem d_Signature_predicates {k : Nat} (T : Tx K mg) (cdv : Value) (A : Around) (outer : List Env) (s : Shared) (H : Hp) (E : XK) (hr : Room k (A.deeper (envOfC "Signature.predicates" (defScope s_Signature_predicates) s.heap.objs.size (He.ma K (He.ga K "Signature") "predicates") cdv))) :
    DSs (cxOf CX0 P w K mg base N_Signature_predicates "Signature.predicates" (defScope s_Signature_predicates) (He.ma K (He.ga K "Signature") "predicates") cdv A outer s H E).nox WN (defBody s_Signature_predicates) (t_Signature_predicates) :=
  dss_one (ds_ret (de_lock (de_lc (own := [("symbol", 1), ("known", 2)]) (g := gTup K 2 (gCons (gName 1) (gCons (gName 2) (gNil)))) (t := dgTup 2 (dgCons (dgName 1) (dgCons (dgName 2) (dgNil)))) (tt := dTru (dOp ixD (dVar 2) (dC (.int 0)))) (te := dTup (dCons (dVar 1) (dCons (dOp ixD (dVar 2) (dC (.int 1))) (dNil)))) rfl sc_Signature_predicates.nd (di_items (de_fld T.K_Signature (by decide) (de_var 0))) (blkOk_by (own := [("symbol", 1), ("known", 2)]) (N := N_Signature_predicates) (sc := defScope s_Signature_predicates) (by decide +kernel)) (fun _ _ _ _ _ => pg_tup rfl (pgs_cons (pg_name (i := 1) sc_Signature_predicates.nd rfl (Or.inl rfl)) (pgs_cons (pg_name (i := 2) sc_Signature_predicates.nd rfl (Or.inl rfl)) (pgs_nil)))) (dgc_tup (dgcs_cons (dgc_name (by decide)) (dgcs_cons (dgc_name (by decide)) (dgcs_nil)))) (fun _ _ _ _ _ => dts_one (dt_tru (de_ix (de_var 2) (de_int)))) (fun _ _ _ _ _ => de_tup (da_cons (de_var 1) (da_cons (de_ix (de_var 2) (de_int)) (da_nil)))))))
theorem void_Signature_predicates {k : Nat} {sp : SpD} (T : Tx K mg) (no : ∀ ds h Q E, ¬ sp ds h Q E) : HasM P w K mg base "Signature" "predicates" k P_Signature_predicates sp :=
  .void T.A_Signature_predicates T.F_Signature_predicates (fun _ _ _ _ _ _ us hl => match us, hl with | [_], _ => rfl) no
theorem mk_Signature_predicates {k : Nat} {sp : SpD} (T : Tx K mg) (ms : MonoSp sp) (len : ∀ ds h Q E, sp ds h Q E → ds.length = 1)
    (r : ∀ ds h Q Ed, Up Q → sp ds h Q Ed → t_Signature_predicates { nx := fun _ h' => Q .non h', rt := Q } (dstart N_Signature_predicates ds) h) : HasM P w K mg base "Signature" "predicates" (k + 1) P_Signature_predicates sp :=
  .of T.A_Signature_predicates T.F_Signature_predicates sc_Signature_predicates ms len (fun _ _ _ _ _ _ us hl => match us, hl with | [_], _ => rfl) (d_Signature_predicates T) r
theorem d_Signature_entry {k : Nat} (T : Tx K mg) (cdv : Value) (A : Around) (outer : List Env) (s : Shared) (H : Hp) (E : XK) (hr : Room (k + 2) (A.deeper (envOfC "Signature._entry" (defScope s_Signature_entry) s.heap.objs.size (He.ma K (He.ga K "Signature") "_entry") cdv))) :
    DSs (cxOf (L2N.CX P w) P w K mg base N_Signature_entry "Signature._entry" (defScope s_Signature_entry) (He.ma K (He.ga K "Signature") "_entry") cdv A outer s H E) (fun cls d _ H => E cls d H) (defBody s_Signature_entry) (t_Signature_entry) :=
  dss_cons (ds_if (dt_dnotin (u1 hr) (de_var 1) (de_fld T.K_Signature (by decide) (de_var 0))) (dss_one (ds_raise T.e_UnknownSymbol (ini_UnknownSymbol T) (by decide) rfl takes_def hr (by rfl) (da_cons (de_var 1) (da_nil)))) (dss_nil)) (dss_one (ds_ret (de_dget (u1 hr) (de_fld T.K_Signature (by decide) (de_var 0)) (de_var 1) (by intro _ _; rfl))))
theorem mk_Signature_entry {k : Nat} {sp : SpD} (T : Tx K mg) (ms : MonoSp sp) (mx : MonoX sp) (len : ∀ ds h Q E, sp ds h Q E → ds.length = 2)
    (r : ∀ ds h Q Ed, Up Q → sp ds h Q Ed → t_Signature_entry { nx := fun _ h' => Q .non h', rt := Q, ex := fun _ => Ed } (dstart N_Signature_entry ds) h) : HasMX P w K mg base "Signature" "_entry" (k + 3) P_Signature_entry sp :=
  .of T.A_Signature_entry T.F_Signature_entry sc_Signature_entry ms mx len (fun _ _ _ _ _ _ us hl => match us, hl with | [_, _], _ => rfl) (d_Signature_entry T) r
theorem d_Signature_arity {k : Nat} {sp_Signature_entry : SpD} (T : Tx K mg) (h_Signature_entry : HasMX P w K mg base "Signature" "_entry" k P_Signature_entry sp_Signature_entry) (cdv : Value) (A : Around) (outer : List Env) (s : Shared) (H : Hp) (E : XK) (hr : Room k (A.deeper (envOfC "Signature.arity" (defScope s_Signature_arity) s.heap.objs.size (He.ma K (He.ga K "Signature") "arity") cdv))) :
    DSs (cxOf (L2N.CX P w) P w K mg base N_Signature_arity "Signature.arity" (defScope s_Signature_arity) (He.ma K (He.ga K "Signature") "arity") cdv A outer s H E) (fun cls d _ H => E cls d H) (defBody s_Signature_arity) (t_Signature_arity sp_Signature_entry) :=
  dss_one (ds_retX (dx_ix (dx_meth T.K_Signature h_Signature_entry takes_def hr (de_var 0) (da_cons (de_var 1) (da_nil))) (de_int)))
theorem mk_Signature_arity {k : Nat} {sp : SpD} {sp_Signature_entry : SpD} (T : Tx K mg) (h_Signature_entry : HasMX P w K mg base "Signature" "_entry" k P_Signature_entry sp_Signature_entry) (ms : MonoSp sp) (mx : MonoX sp) (len : ∀ ds h Q E, sp ds h Q E → ds.length = 2)
    (r : ∀ ds h Q Ed, Up Q → sp ds h Q Ed → t_Signature_arity sp_Signature_entry { nx := fun _ h' => Q .non h', rt := Q, ex := fun _ => Ed } (dstart N_Signature_arity ds) h) : HasMX P w K mg base "Signature" "arity" (k + 1) P_Signature_arity sp :=
  .of T.A_Signature_arity T.F_Signature_arity sc_Signature_arity ms mx len (fun _ _ _ _ _ _ us hl => match us, hl with | [_, _], _ => rfl) (d_Signature_arity T h_Signature_entry) r
theorem d_Signature_is_predicate_1a94 {k : Nat} {sp_Signature_entry : SpD} (T : Tx K mg) (h_Signature_entry : HasMX P w K mg base "Signature" "_entry" k P_Signature_entry sp_Signature_entry) (cdv : Value) (A : Around) (outer : List Env) (s : Shared) (H : Hp) (E : XK) (hr : Room k (A.deeper (envOfC "Signature.is_predicate" (defScope s_Signature_is_predicate_1a94) s.heap.objs.size (He.ma K (He.ga K "Signature") "is_predicate") cdv))) :
    DSs (cxOf (L2N.CX P w) P w K mg base N_Signature_is_predicate_1a94 "Signature.is_predicate" (defScope s_Signature_is_predicate_1a94) (He.ma K (He.ga K "Signature") "is_predicate") cdv A outer s H E) (fun cls d _ H => E cls d H) (defBody s_Signature_is_predicate_1a94) (t_Signature_is_predicate_1a94 sp_Signature_entry) :=
  dss_one (ds_retX (dx_ix (dx_meth T.K_Signature h_Signature_entry takes_def hr (de_var 0) (da_cons (de_var 1) (da_nil))) (de_int)))
theorem mk_Signature_is_predicate_1a94 {k : Nat} {sp : SpD} {sp_Signature_entry : SpD} (T : Tx K mg) (h_Signature_entry : HasMX P w K mg base "Signature" "_entry" k P_Signature_entry sp_Signature_entry) (ms : MonoSp sp) (mx : MonoX sp) (len : ∀ ds h Q E, sp ds h Q E → ds.length = 2)
    (r : ∀ ds h Q Ed, Up Q → sp ds h Q Ed → t_Signature_is_predicate_1a94 sp_Signature_entry { nx := fun _ h' => Q .non h', rt := Q, ex := fun _ => Ed } (dstart N_Signature_is_predicate_1a94 ds) h) : HasMX P w K mg base "Signature" "is_predicate" (k + 1) P_Signature_is_predicate_1a94 sp :=
  .of T.A_Signature_is_predicate_1a94 T.F_Signature_is_predicate_1a94 sc_Signature_is_predicate_1a94 ms mx len (fun _ _ _ _ _ _ us hl => match us, hl with | [_, _], _ => rfl) (d_Signature_is_predicate_1a94 T h_Signature_entry) r
theorem d_Signature_contains__ {k : Nat} (T : Tx K mg) (cdv : Value) (A : Around) (outer : List Env) (s : Shared) (H : Hp) (E : XK) (hr : Room k (A.deeper (envOfC "Signature.__contains__" (defScope s_Signature_contains__) s.heap.objs.size (He.ma K (He.ga K "Signature") "__contains__") cdv))) :
    DSs (cxOf CX0 P w K mg base N_Signature_contains__ "Signature.__contains__" (defScope s_Signature_contains__) (He.ma K (He.ga K "Signature") "__contains__") cdv A outer s H E).nox WN (defBody s_Signature_contains__) (t_Signature_contains__) :=
  dss_one (ds_ret (de_din (u1 hr) (de_var 1) (de_fld T.K_Signature (by decide) (de_var 0))))
theorem void_Signature_contains__ {k : Nat} {sp : SpD} (T : Tx K mg) (no : ∀ ds h Q E, ¬ sp ds h Q E) : HasM P w K mg base "Signature" "__contains__" k P_Signature_contains__ sp :=
  .void T.A_Signature_contains__ T.F_Signature_contains__ (fun _ _ _ _ _ _ us hl => match us, hl with | [_, _], _ => rfl) no
theorem mk_Signature_contains__ {k : Nat} {sp : SpD} (T : Tx K mg) (ms : MonoSp sp) (len : ∀ ds h Q E, sp ds h Q E → ds.length = 2)
    (r : ∀ ds h Q Ed, Up Q → sp ds h Q Ed → t_Signature_contains__ { nx := fun _ h' => Q .non h', rt := Q } (dstart N_Signature_contains__ ds) h) : HasM P w K mg base "Signature" "__contains__" (k + 1) P_Signature_contains__ sp :=
  .of T.A_Signature_contains__ T.F_Signature_contains__ sc_Signature_contains__ ms len (fun _ _ _ _ _ _ us hl => match us, hl with | [_, _], _ => rfl) (d_Signature_contains__ T) r
theorem d_Signature_len__ {k : Nat} (T : Tx K mg) (cdv : Value) (A : Around) (outer : List Env) (s : Shared) (H : Hp) (E : XK) (hr : Room k (A.deeper (envOfC "Signature.__len__" (defScope s_Signature_len__) s.heap.objs.size (He.ma K (He.ga K "Signature") "__len__") cdv))) :
    DSs (cxOf CX0 P w K mg base N_Signature_len__ "Signature.__len__" (defScope s_Signature_len__) (He.ma K (He.ga K "Signature") "__len__") cdv A outer s H E).nox WN (defBody s_Signature_len__) (t_Signature_len__) :=
  dss_one (ds_ret (de_callB dc_lenK (by rfl) T.n_len (by decide +kernel) (da_cons (de_fld T.K_Signature (by decide) (de_var 0)) (da_nil))))
theorem void_Signature_len__ {k : Nat} {sp : SpD} (T : Tx K mg) (no : ∀ ds h Q E, ¬ sp ds h Q E) : HasM P w K mg base "Signature" "__len__" k P_Signature_len__ sp :=
  .void T.A_Signature_len__ T.F_Signature_len__ (fun _ _ _ _ _ _ us hl => match us, hl with | [_], _ => rfl) no
theorem mk_Signature_len__ {k : Nat} {sp : SpD} (T : Tx K mg) (ms : MonoSp sp) (len : ∀ ds h Q E, sp ds h Q E → ds.length = 1)
    (r : ∀ ds h Q Ed, Up Q → sp ds h Q Ed → t_Signature_len__ { nx := fun _ h' => Q .non h', rt := Q } (dstart N_Signature_len__ ds) h) : HasM P w K mg base "Signature" "__len__" (k + 1) P_Signature_len__ sp :=
  .of T.A_Signature_len__ T.F_Signature_len__ sc_Signature_len__ ms len (fun _ _ _ _ _ _ us hl => match us, hl with | [_], _ => rfl) (d_Signature_len__ T) r
end
theorem tx_of {K : PySem.W.Frag} {h : Heap} {mg : Str → Option Value} (X : K.In h) (G : h.Ns mainGlobals mg) (c : He.SaysD fa fn K) (m : ex K = true) : Tx K mg :=
  ⟨He.glo_ok X G (c.fact 0 (f := .glo "_law_draws") rfl), He.glo_ok X G (c.fact 1 (f := .glo "_law_take") rfl), He.glo_ok X G (c.fact 2 (f := .glo "_law_words") rfl), He.glo_ok X G (c.fact 3 (f := .glo "_law_same") rfl), He.glo_ok X G (c.fact 4 (f := .glo "_law_add") rfl), He.glo_ok X G (c.fact 5 (f := .glo "_law_ask") rfl), He.glo_ok X G (c.fact 6 (f := .glo "_law_kind") rfl), He.glo_ok X G (c.fact 7 (f := .glo "_law_due") rfl), He.glo_ok X G (c.fact 8 (f := .glo "_law_agrees") rfl), He.glo_ok X G (c.fact 9 (f := .glo "law") rfl), ⟨_, (c.def_ 0 rfl).choose_spec⟩, ⟨_, (c.def_ 1 rfl).choose_spec⟩, ⟨_, (c.def_ 2 rfl).choose_spec⟩, ⟨_, (c.def_ 3 rfl).choose_spec⟩, ⟨_, (c.def_ 4 rfl).choose_spec⟩, ⟨_, (c.def_ 5 rfl).choose_spec⟩, ⟨_, (c.def_ 6 rfl).choose_spec⟩, ⟨_, (c.def_ 7 rfl).choose_spec⟩, ⟨_, (c.def_ 8 rfl).choose_spec⟩, ⟨_, (c.def_ 9 rfl).choose_spec⟩, ⟨_, (c.def_ 10 rfl).choose_spec⟩, ⟨_, (c.def_ 11 rfl).choose_spec⟩, ⟨_, (c.def_ 12 rfl).choose_spec⟩, ⟨_, (c.def_ 13 rfl).choose_spec⟩, He.free_ok X G (c.fact 10 (f := .free "abs") rfl), He.free_ok X G (c.fact 11 (f := .free "bool") rfl), He.free_ok X G (c.fact 12 (f := .free "int") rfl), He.free_ok X G (c.fact 13 (f := .free "isinstance") rfl), He.free_ok X G (c.fact 14 (f := .free "len") rfl), He.free_ok X G (c.fact 15 (f := .free "list") rfl), He.free_ok X G (c.fact 16 (f := .free "range") rfl), He.free_ok X G (c.fact 17 (f := .free "reversed") rfl), He.free_ok X G (c.fact 18 (f := .free "str") rfl), He.free_ok X G (c.fact 19 (f := .free "tuple") rfl), He.glo_ok X G (c.fact 20 (f := .glo "TooLarge") rfl), He.glo_ok X G (c.fact 21 (f := .glo "KindError") rfl), He.glo_ok X G (c.fact 22 (f := .glo "ArityError") rfl), He.glo_ok X G (c.fact 23 (f := .glo "UnknownSymbol") rfl), .of X G (List.all_eq_true.mp m _ (List.mem_of_getElem? (i := 0) rfl)), .of X G (List.all_eq_true.mp m _ (List.mem_of_getElem? (i := 1) rfl)), .of X G (List.all_eq_true.mp m _ (List.mem_of_getElem? (i := 2) rfl)), .of X G (List.all_eq_true.mp m _ (List.mem_of_getElem? (i := 3) rfl)), .of X G (List.all_eq_true.mp m _ (List.mem_of_getElem? (i := 4) rfl)), exmLB_ok (List.all_eq_true.mp m _ (List.mem_of_getElem? (i := 5) rfl)), exmLB_ok (List.all_eq_true.mp m _ (List.mem_of_getElem? (i := 6) rfl)), exmLB_ok (List.all_eq_true.mp m _ (List.mem_of_getElem? (i := 7) rfl)), exmLB_ok (List.all_eq_true.mp m _ (List.mem_of_getElem? (i := 8) rfl)), He.meth_ok (c.fact 24 (f := .meth "Signature" "__init__") rfl), He.meth_ok (c.fact 25 (f := .meth "Signature" "_add") rfl), He.meth_ok (c.fact 26 (f := .meth "Signature" "add_function") rfl), He.meth_ok (c.fact 27 (f := .meth "Signature" "add_predicate") rfl), He.meth_ok (c.fact 28 (f := .meth "Signature" "functions") rfl), He.meth_ok (c.fact 29 (f := .meth "Signature" "predicates") rfl), He.meth_ok (c.fact 30 (f := .meth "Signature" "_entry") rfl), He.meth_ok (c.fact 31 (f := .meth "Signature" "arity") rfl), He.meth_ok (c.fact 32 (f := .meth "Signature" "is_predicate") rfl), He.meth_ok (c.fact 33 (f := .meth "Signature" "__contains__") rfl), He.meth_ok (c.fact 34 (f := .meth "Signature" "__len__") rfl), ⟨_, (c.def_ 14 rfl).choose_spec⟩, ⟨_, (c.def_ 15 rfl).choose_spec⟩, ⟨_, (c.def_ 16 rfl).choose_spec⟩, ⟨_, (c.def_ 17 rfl).choose_spec⟩, ⟨_, (c.def_ 18 rfl).choose_spec⟩, ⟨_, (c.def_ 19 rfl).choose_spec⟩, ⟨_, (c.def_ 20 rfl).choose_spec⟩, ⟨_, (c.def_ 21 rfl).choose_spec⟩, ⟨_, (c.def_ 22 rfl).choose_spec⟩, ⟨_, (c.def_ 23 rfl).choose_spec⟩, ⟨_, (c.def_ 24 rfl).choose_spec⟩, He.mkr_ok (c.fact 35 (f := .mkr "Signature") rfl), He.glo_ok X G (c.fact 36 (f := .glo "Signature") rfl), clsFB_ok (List.all_eq_true.mp m _ (List.mem_of_getElem? (i := 9) rfl))⟩
theorem holds_of {lv : Nat} (hlv : Room lv callerA) (hlaw : ∀ (w : World) (K : PySem.W.Frag) (mg : Str → Option Value) (base : Heap), Tx K mg → Has R.prog w K mg base "law" lv P_law_k14 spLaw) : PySem.Challenge.rw_elenchus_k14_signatures.Holds := by
  open PySem.W PySem.Calls in
  w_on; o_law
  refine HandSHeadRun.head_any (r := R) (q := PySem.W.view R.prog [19]) (H := hk) (ob := ob) (M := 6000) (loose := loose) (d := HandSHeadRun.topDef R.prog 19) (kwd := []) ob_eq
    (by kernel_rfl) (fun s => by kernel_rfl) run (by kernel_rfl) (by kernel_rfl) (by kernel_rfl) (by rfl) (by first | assumption | decide +kernel) (by decide +kernel) ⟨rfl, rfl, rfl, rfl, rfl, by decide +kernel⟩ ?hw ?hc
  case hw => w_witness2
  case hc =>
    refine walk_ofEB (l := PySem.Challenge.rw_elenchus_k14_signatures) (k := lv) (x := "_law_script") rfl (by kernel_rfl) hlv ?F
    intro w mg fa h Y G hmg0
    obtain ⟨K, KX, c⟩ := Y
    have hmg : mg ("law" : PySem.Str) = some (.ref fa) := by
      have e : (HandSHeadRun.topDef R.prog 19).name = ("law" : PySem.Str) := by kernel_rfl
      rw [← e]
      exact hmg0
    have T := tx_of KX G c.t.d c.more
    have e := hmg.symm.trans T.g_law_k14
    cases e
    obtain ⟨fd, F⟩ := T.F_law_k14
    refine ⟨K, fd, KX, fun s v => FunD.bindsA (ps := ["_law_script"]) F (fun _ _ _ _ _ _ us hl => match us, hl with | [_], _ => rfl) s [v] rfl, fun base hK hG => law_fn (FunD.there F) (hlaw w K mg base T)⟩
end Lk14


namespace Lk14
open PySem PySem.Spec PyProof.Rows L2 DL
section
variable {P : Program} {w : World} {K : PySem.W.Frag} {mg : Str → Option Value} {base : Heap}
theorem H_Signature_init__ (T : Tx K mg) : HasM P w K mg base "Signature" "__init__" 1 P_Signature_init__ sp_sgi :=
  mk_Signature_init__ (k := 0) T ms_sgi (fun ds h Q E q => by unfold sp_sgi at q; repeat (first | (obtain ⟨rfl, _⟩ := q; rfl) | obtain ⟨_, q⟩ := q)) r_sgi
theorem H_Signature_add (T : Tx K mg) : HasMX P w K mg base "Signature" "_add" 3 P_Signature_add sp_sga :=
  mk_Signature_add (k := 0) T ms_sga mx_sga (fun ds h Q E q => by unfold sp_sga at q; repeat (first | (obtain ⟨rfl, _⟩ := q; rfl) | obtain ⟨_, q⟩ := q)) r_sga
theorem H_Signature_add_function (T : Tx K mg) : HasMX P w K mg base "Signature" "add_function" 4 P_Signature_add_function sp_sgf :=
  mk_Signature_add_function (k := 3) T ((H_Signature_add T).mono (by decide)) ms_sgf mx_sgf (fun ds h Q E q => by unfold sp_sgf at q; repeat (first | (obtain ⟨rfl, _⟩ := q; rfl) | obtain ⟨_, q⟩ := q)) r_sgf
theorem H_Signature_add_predicate (T : Tx K mg) : HasMX P w K mg base "Signature" "add_predicate" 4 P_Signature_add_predicate sp_sgp :=
  mk_Signature_add_predicate (k := 3) T ((H_Signature_add T).mono (by decide)) ms_sgp mx_sgp (fun ds h Q E q => by unfold sp_sgp at q; repeat (first | (obtain ⟨rfl, _⟩ := q; rfl) | obtain ⟨_, q⟩ := q)) r_sgp
theorem H_Signature_functions (T : Tx K mg) : HasM P w K mg base "Signature" "functions" 1 P_Signature_functions sp_sgl0 :=
  mk_Signature_functions (k := 0) T ms_sgl0 (fun ds h Q E q => by unfold sp_sgl0 at q; repeat (first | (obtain ⟨rfl, _⟩ := q; rfl) | obtain ⟨_, q⟩ := q)) r_sgl0
theorem H_Signature_predicates (T : Tx K mg) : HasM P w K mg base "Signature" "predicates" 1 P_Signature_predicates sp_sgl1 :=
  mk_Signature_predicates (k := 0) T ms_sgl1 (fun ds h Q E q => by unfold sp_sgl1 at q; repeat (first | (obtain ⟨rfl, _⟩ := q; rfl) | obtain ⟨_, q⟩ := q)) r_sgl1
theorem H_Signature_entry (T : Tx K mg) : HasMX P w K mg base "Signature" "_entry" 3 P_Signature_entry sp_sge :=
  mk_Signature_entry (k := 0) T ms_sge mx_sge (fun ds h Q E q => by unfold sp_sge at q; repeat (first | (obtain ⟨rfl, _⟩ := q; rfl) | obtain ⟨_, q⟩ := q)) r_sge
theorem H_Signature_arity (T : Tx K mg) : HasMX P w K mg base "Signature" "arity" 4 P_Signature_arity sp_sgr :=
  mk_Signature_arity (k := 3) T ((H_Signature_entry T).mono (by decide)) ms_sgr mx_sgr (fun ds h Q E q => by unfold sp_sgr at q; repeat (first | (obtain ⟨rfl, _⟩ := q; rfl) | obtain ⟨_, q⟩ := q)) r_sgr
theorem H_Signature_is_predicate_1a94 (T : Tx K mg) : HasMX P w K mg base "Signature" "is_predicate" 4 P_Signature_is_predicate_1a94 sp_sgk :=
  mk_Signature_is_predicate_1a94 (k := 3) T ((H_Signature_entry T).mono (by decide)) ms_sgk mx_sgk (fun ds h Q E q => by unfold sp_sgk at q; repeat (first | (obtain ⟨rfl, _⟩ := q; rfl) | obtain ⟨_, q⟩ := q)) r_sgk
theorem H_Signature_contains__ (T : Tx K mg) : HasM P w K mg base "Signature" "__contains__" 1 P_Signature_contains__ sp_sgc :=
  mk_Signature_contains__ (k := 0) T ms_sgc (fun ds h Q E q => by unfold sp_sgc at q; repeat (first | (obtain ⟨rfl, _⟩ := q; rfl) | obtain ⟨_, q⟩ := q)) r_sgc
theorem H_Signature_len__ (T : Tx K mg) : HasM P w K mg base "Signature" "__len__" 1 P_Signature_len__ sp_sgn :=
  mk_Signature_len__ (k := 0) T ms_sgn (fun ds h Q E q => by unfold sp_sgn at q; repeat (first | (obtain ⟨rfl, _⟩ := q; rfl) | obtain ⟨_, q⟩ := q)) r_sgn
theorem H_law_draws (T : Tx K mg) : Has P w K mg base "_law_draws" 1 P_law_draws sp_draws :=
  mk_law_draws (k := 0) T ms_draws (fun ds h Q E q => by unfold sp_draws at q; repeat (first | (obtain ⟨rfl, _⟩ := q; rfl) | obtain ⟨_, q⟩ := q)) r_draws
theorem H_law_take (T : Tx K mg) : Has P w K mg base "_law_take" 1 P_law_take sp_take :=
  mk_law_take (k := 0) T ms_take (fun ds h Q E q => by unfold sp_take at q; repeat (first | (obtain ⟨rfl, _⟩ := q; rfl) | obtain ⟨_, q⟩ := q)) r_take
theorem H_law_words (T : Tx K mg) : Has P w K mg base "_law_words" 2 P_law_words sp_words :=
  mk_law_words (k := 1) T ((H_law_take T).mono (by decide)) ms_words (fun ds h Q E q => by unfold sp_words at q; repeat (first | (obtain ⟨rfl, _⟩ := q; rfl) | obtain ⟨_, q⟩ := q)) r_words
theorem H_law_same_1a08 (T : Tx K mg) : ∀ n : Nat, Has P w K mg base "_law_same" (0 + n) P_law_same_1a08 (sp_same n)
  | 0 => void_law_same_1a08 T fun ds h Q E q => by
    unfold sp_same at q
    repeat (obtain ⟨_, q⟩ := q)
    omega
  | n + 1 => mk_law_same_1a08 (k := 0 + n) T (H_law_same_1a08 T n) ms_same (fun ds h Q E q => by unfold sp_same at q; repeat (first | (obtain ⟨rfl, _⟩ := q; rfl) | obtain ⟨_, q⟩ := q)) r_same14
theorem H_law_add (T : Tx K mg) : Has P w K mg base "_law_add" 5 P_law_add sp_add14 :=
  mk_law_add (k := 4) T ((H_Signature_add_predicate T).mono (by decide)) ((H_Signature_add_function T).mono (by decide)) ms_add14 (fun ds h Q E q => by unfold sp_add14 at q; repeat (first | (obtain ⟨rfl, _⟩ := q; rfl) | obtain ⟨_, q⟩ := q)) r_add14
theorem H_law_ask_f35a (T : Tx K mg) : Has P w K mg base "_law_ask" 5 P_law_ask_f35a sp_ask14 :=
  mk_law_ask_f35a (k := 4) T ((H_Signature_is_predicate_1a94 T).mono (by decide)) ((H_Signature_arity T).mono (by decide)) ms_ask14 (fun ds h Q E q => by unfold sp_ask14 at q; repeat (first | (obtain ⟨rfl, _⟩ := q; rfl) | obtain ⟨_, q⟩ := q)) r_ask14
theorem H_law_kind_ef40 (T : Tx K mg) : Has P w K mg base "_law_kind" 5 P_law_kind_ef40 sp_knd14 :=
  mk_law_kind_ef40 (k := 4) T ((H_Signature_is_predicate_1a94 T).mono (by decide)) ms_knd14 (fun ds h Q E q => by unfold sp_knd14 at q; repeat (first | (obtain ⟨rfl, _⟩ := q; rfl) | obtain ⟨_, q⟩ := q)) r_knd14
theorem H_law_due_2e6d (T : Tx K mg) : Has P w K mg base "_law_due" 1 P_law_due_2e6d sp_due14 :=
  mk_law_due_2e6d (k := 0) T ms_due14 (fun ds h Q E q => by unfold sp_due14 at q; repeat (first | (obtain ⟨rfl, _⟩ := q; rfl) | obtain ⟨_, q⟩ := q)) r_due14
theorem H_law_agrees (T : Tx K mg) : Has P w K mg base "_law_agrees" 102 P_law_agrees sp_agr :=
  mk_law_agrees (k := 100) T ((H_Signature_predicates T).mono (by decide)) ((H_Signature_functions T).mono (by decide)) ((H_law_same_1a08 T 100).mono (by decide)) ((H_Signature_len__ T).mono (by decide)) ((H_Signature_contains__ T).mono (by decide)) ((H_law_ask_f35a T).mono (by decide)) ((H_law_kind_ef40 T).mono (by decide)) ms_agr (fun ds h Q E q => by unfold sp_agr at q; repeat (first | (obtain ⟨rfl, _⟩ := q; rfl) | obtain ⟨_, q⟩ := q)) r_agr
theorem ms_law_end : MonoSp spLaw := fun ds h Q Q' E k ⟨ns, e, l, b, q⟩ => ⟨ns, e, l, b, fun h' => k _ _ (q h')⟩
theorem H_law_k14 (T : Tx K mg) : Has P w K mg base "law" 104 P_law_k14 spLaw :=
  mk_law_k14 (k := 102) T ((H_law_draws T).mono (by decide)) ((H_law_words T).mono (by decide)) ((H_Signature_init__ T).mono (by decide)) ((H_law_take T).mono (by decide)) ((H_law_due_2e6d T).mono (by decide)) ((H_law_add T).mono (by decide)) ((H_law_same_1a08 T 100).mono (by decide)) ((H_law_agrees T).mono (by decide)) ms_law_end (fun ds h Q E q => by unfold spLaw at q; repeat (first | (obtain ⟨rfl, _⟩ := q; rfl) | obtain ⟨_, q⟩ := q)) r_law14
end
end Lk14
theorem PySem.Challenge.cw_elenchus_k14_signatures_holds : PySem.Challenge.rw_elenchus_k14_signatures.Holds := by
  exact Lk14.holds_of (lv := 104) ⟨rfl, by decide, by decide⟩ fun w K mg base T => Lk14.H_law_k14 T


