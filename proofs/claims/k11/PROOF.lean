import PyProof.Rows.All
import Wide.All
import OpenK.AllK
import Wide.FinOn
import HandS.ForMost
import HandS.More
import HandS.Wide
import HandS.TupAny
import HandS.Style
import HandS.Deep
import HandS.IsInst
import HandS.Star
import HandS.RaiseMore
import HandS.SortInts
import HandS.WordsDict
import HandS.Walk
import HandS.TryOnly
import HandS.Small
import HandS.Words
import HandS.Ends
import KE.GoesMore
import KE.GoesEnum
import HandS.Iter
import HandS.List
import HandS.Dict
import HandS.SetFor
import PyProof.SetRoads
import PyProof.Rows.FactsT3
import PySem.Challenge.RW_unlikekeys_k11_texts_of_runs_and_histori
import HandS.Zip
set_option Elab.async false
set_option linter.all false
set_option maxRecDepth 100000
set_option maxHeartbeats 4000000
/-! A1: data trees, slots, what it means that a heap holds them; evaluation results; what stays behind an evaluation. -/
namespace L2.AL
open PySem PySem.Spec PyProof.Rows
/-- what stands around: the written part, the module's names, the world -/
structure Bk where
  K : PySem.W.Frag
  mg : Str → Option Value
  w : World
/-- a value by its content; scr: a list of ints that is only read; cd: a written dict with keys that are texts -/
inductive D where
  | non | bl (b : Bool) | int (i : Int) | str (x : Str)
  | tup (xs : List D) | lst (xs : List D) | dct (kvs : List (Key × D)) | fn (x : Str) | ty (n : String) | scr (ns : List Int) | cd (kvs : List (Str × D))
/-- an object that one name owns -/
inductive O where
  | lst (xs : List D) | dct (kvs : List (Key × D))
def O.toD : O → D
  | .lst xs => .lst xs
  | .dct kvs => .dct kvs
/-- what a slot holds -/
inductive S where
  | no | d (x : D) | own (o : O)
/-- what an expression gives: a value by content, the object of a slot, a new object -/
inductive E where
  | d (x : D) | sl (i : Nat) | fr (o : O)
structure Exc where
  cls : Str
  fs : List (Str × D)
inductive Res (α : Type) where
  | ok (a : α) (ρ : List S) | ex (e : Exc) (ρ : List S) | no
def Res.bind {α β : Type} : Res α → (α → List S → Res β) → Res β
  | .ok a ρ, k => k a ρ
  | .ex e ρ, _ => .ex e ρ
  | .no, _ => .no
@[simp] theorem Res.bind_ok {α β : Type} (a : α) (ρ : List S) (k : α → List S → Res β) : (Res.ok a ρ).bind k = k a ρ := rfl
@[simp] theorem Res.bind_ex {α β : Type} (e : Exc) (ρ : List S) (k : α → List S → Res β) : (Res.ex e ρ : Res α).bind k = .ex e ρ := rfl
@[simp] theorem Res.bind_no {α β : Type} (k : α → List S → Res β) : (Res.no : Res α).bind k = .no := rfl
section
variable (B : Bk) (G : Hp)
mutual
/-- the heap G holds the content -/
def Fz : V → D → Prop
  | v, .non => v = .non
  | v, .bl b => v = .bl b
  | v, .int i => v = .int i
  | v, .str x => v = .str x
  | v, .tup ds => ∃ a xs, v = .ref a ∧ SqT B.K G a xs ∧ FzL xs ds
  | v, .lst ds => ∃ a xs, v = .ref a ∧ G a = some (.lst xs) ∧ FzL xs ds
  | v, .dct ds => ∃ a kvs, v = .ref a ∧ G a = some (.dK kvs) ∧ FzK kvs ds
  | v, .fn x => ∃ a, v = .ref a ∧ B.mg x = some (.ref a)
  | v, .ty n => v = .ty n
  | v, .scr ns => ∃ a, v = .ref a ∧ SqL B.K G a (ns.map V.int)
  | v, .cd kvs => ∃ a, v = .ref a ∧ ((∃ es n, KDict B.K B.w a es n) ∧ ∀ z : Str, kvs.lookup z = none → PySem.W.nsIn B.K a z = some none) ∧ FzC a kvs
def FzL : List V → List D → Prop
  | [], [] => True
  | v :: vs, d :: ds => Fz v d ∧ FzL vs ds
  | [], _ :: _ => False
  | _ :: _, [] => False
def FzK : List (Key × V) → List (Key × D) → Prop
  | [], [] => True
  | v :: vs, d :: ds => v.1 = d.1 ∧ Fz v.2 d.2 ∧ FzK vs ds
  | [], _ :: _ => False
  | _ :: _, [] => False
/-- a written dict's lookups -/
def FzC : Addr → List (Str × D) → Prop
  | a, [] => True
  | a, d :: ds => (∃ u v, PySem.W.nsIn B.K a d.1 = some (some u) ∧ RelV v u ∧ Fz v d.2) ∧ FzC a ds
end
end
section
variable {B : Bk} {G G' : Hp}
theorem Same.rd {a : Addr} {u : HO} (s : Same G G') (h : Rd G a u) : Rd G' a u := by
  rcases h with h | ⟨o, h⟩
  · exact .inl (s _ _ h)
  · exact .inr ⟨o, s _ _ h⟩
theorem Same.sqt {a : Addr} {xs : List V} (e : Same G G') (h : SqT B.K G a xs) : SqT B.K G' a xs := by
  rcases h with h | h
  · exact .inl (Same.rd e h)
  · exact .inr h
mutual
theorem Fz.mono (s : Same G G') : ∀ (d : D) (v : V), Fz B G v d → Fz B G' v d
  | .non, v, h => by simpa [Fz] using h
  | .bl b, v, h => by simpa [Fz] using h
  | .int i, v, h => by simpa [Fz] using h
  | .str x, v, h => by simpa [Fz] using h
  | .tup ds, v, h => by
    obtain ⟨a, xs, e, hq, hr⟩ := (by simpa [Fz] using h : ∃ a xs, v = .ref a ∧ SqT B.K G a xs ∧ FzL B G xs ds)
    rw [Fz]; exact ⟨a, xs, e, Same.sqt s hq, FzL.mono s ds xs hr⟩
  | .lst ds, v, h => by
    rw [Fz] at h
    obtain ⟨a, xs, e, hq, hr⟩ := h
    rw [Fz]; exact ⟨a, xs, e, s _ _ hq, FzL.mono s ds xs hr⟩
  | .dct ds, v, h => by
    rw [Fz] at h
    obtain ⟨a, xs, e, hq, hr⟩ := h
    rw [Fz]; exact ⟨a, xs, e, s _ _ hq, FzK.mono s ds xs hr⟩
  | .fn x, v, h => by simpa [Fz] using h
  | .ty n, v, h => by simpa [Fz] using h
  | .scr ns, v, h => by
    rw [Fz] at h
    obtain ⟨a, e, hq⟩ := h
    rw [Fz]; exact ⟨a, e, Same.seq s hq⟩
  | .cd kvs, v, h => by
    rw [Fz] at h
    obtain ⟨a, e, hq, hr⟩ := h
    rw [Fz]; exact ⟨a, e, hq, FzC.mono s kvs a hr⟩
theorem FzL.mono (s : Same G G') : ∀ (ds : List D) (vs : List V), FzL B G vs ds → FzL B G' vs ds
  | [], [], h => by rw [FzL]; trivial
  | [], _ :: _, h => by rw [FzL] at h; exact h.elim
  | _ :: _, [], h => by rw [FzL] at h; exact h.elim
  | d :: ds, v :: vs, h => by
    rw [FzL] at h ⊢
    exact ⟨Fz.mono s d v h.1, FzL.mono s ds vs h.2⟩
theorem FzK.mono (s : Same G G') : ∀ (ds : List (Key × D)) (vs : List (Key × V)), FzK B G vs ds → FzK B G' vs ds
  | [], [], h => by rw [FzK]; trivial
  | [], _ :: _, h => by rw [FzK] at h; exact h.elim
  | _ :: _, [], h => by rw [FzK] at h; exact h.elim
  | d :: ds, v :: vs, h => by
    rw [FzK] at h ⊢
    exact ⟨h.1, Fz.mono s d.2 v.2 h.2.1, FzK.mono s ds vs h.2.2⟩
theorem FzC.mono (s : Same G G') : ∀ (ds : List (Str × D)) (a : Addr), FzC B G a ds → FzC B G' a ds
  | [], a, h => by rw [FzC]; trivial
  | d :: ds, a, h => by
    rw [FzC] at h ⊢
    obtain ⟨⟨u, v, h1, h2, h3⟩, h4⟩ := h
    exact ⟨⟨u, v, h1, h2, Fz.mono s d.2 v h3⟩, FzC.mono s ds a h4⟩
end
theorem FzL.length : ∀ {ds : List D} {vs : List V}, FzL B G vs ds → vs.length = ds.length
  | [], [], _ => rfl
  | [], _ :: _, h => by rw [FzL] at h; exact h.elim
  | _ :: _, [], h => by rw [FzL] at h; exact h.elim
  | _ :: ds, _ :: vs, h => by rw [FzL] at h; rw [List.length_cons, List.length_cons, FzL.length h.2]
theorem FzL.get : ∀ {ds : List D} {vs : List V} {i : Nat} {d : D}, FzL B G vs ds → ds[i]? = some d → ∃ v, vs[i]? = some v ∧ Fz B G v d
  | [], _, _, _, _, e => by simp at e
  | _ :: _, [], _, _, h, _ => by rw [FzL] at h; exact h.elim
  | _ :: ds, v :: vs, 0, _, h, e => by
    rw [FzL] at h; simp at e; subst e; exact ⟨v, rfl, h.1⟩
  | _ :: ds, v :: vs, i + 1, _, h, e => by
    rw [FzL] at h
    obtain ⟨u, e1, h1⟩ := FzL.get (i := i) h.2 (by simpa using e)
    exact ⟨u, by simpa using e1, h1⟩
theorem FzL.get' : ∀ {ds : List D} {vs : List V} {i : Nat} {v : V}, FzL B G vs ds → vs[i]? = some v → ∃ d, ds[i]? = some d ∧ Fz B G v d
  | _, [], _, _, _, e => by simp at e
  | [], _ :: _, _, _, h, _ => by rw [FzL] at h; exact h.elim
  | d :: ds, _ :: vs, 0, _, h, e => by
    rw [FzL] at h; simp at e; subst e; exact ⟨d, rfl, h.1⟩
  | _ :: ds, v :: vs, i + 1, _, h, e => by
    rw [FzL] at h
    obtain ⟨u, e1, h1⟩ := FzL.get' (i := i) h.2 (by simpa using e)
    exact ⟨u, by simpa using e1, h1⟩
theorem FzL.append : ∀ {ds es : List D} {vs us : List V}, FzL B G vs ds → FzL B G us es → FzL B G (vs ++ us) (ds ++ es)
  | [], _, [], _, _, h => h
  | [], _, _ :: _, _, h, _ => by rw [FzL] at h; exact h.elim
  | _ :: _, _, [], _, h, _ => by rw [FzL] at h; exact h.elim
  | _ :: ds, _, _ :: vs, _, h, h' => by
    rw [FzL] at h
    show FzL B G (_ :: (vs ++ _)) (_ :: (ds ++ _))
    rw [FzL]
    exact ⟨h.1, FzL.append h.2 h'⟩
theorem FzL.nil : FzL B G [] [] := by rw [FzL]; trivial
theorem FzL.cons {v : V} {d : D} {vs : List V} {ds : List D} (h : Fz B G v d) (h' : FzL B G vs ds) : FzL B G (v :: vs) (d :: ds) := by
  rw [FzL]; exact ⟨h, h'⟩
theorem FzL.one {v : V} {d : D} (h : Fz B G v d) : FzL B G [v] [d] := .cons h .nil
theorem FzL.drop : ∀ (n : Nat) {ds : List D} {vs : List V}, FzL B G vs ds → FzL B G (vs.drop n) (ds.drop n)
  | 0, _, _, h => h
  | _ + 1, [], [], _ => .nil
  | _ + 1, [], _ :: _, h => by rw [FzL] at h; exact h.elim
  | _ + 1, _ :: _, [], h => by rw [FzL] at h; exact h.elim
  | n + 1, _ :: ds, _ :: vs, h => by rw [FzL] at h; exact FzL.drop n h.2
theorem FzL.take : ∀ (n : Nat) {ds : List D} {vs : List V}, FzL B G vs ds → FzL B G (vs.take n) (ds.take n)
  | 0, _, _, _ => .nil
  | _ + 1, [], [], _ => .nil
  | _ + 1, [], _ :: _, h => by rw [FzL] at h; exact h.elim
  | _ + 1, _ :: _, [], h => by rw [FzL] at h; exact h.elim
  | n + 1, _ :: ds, _ :: vs, h => by rw [FzL] at h; exact .cons h.1 (FzL.take n h.2)
theorem FzL.set {v : V} {d : D} (r : Fz B G v d) : ∀ {ds : List D} {vs : List V} (i : Nat), FzL B G vs ds → FzL B G (vs.set i v) (ds.set i d)
  | [], [], _, _ => .nil
  | [], _ :: _, _, h => by rw [FzL] at h; exact h.elim
  | _ :: _, [], _, h => by rw [FzL] at h; exact h.elim
  | _ :: ds, _ :: vs, 0, h => by rw [FzL] at h; exact .cons r h.2
  | _ :: ds, _ :: vs, i + 1, h => by rw [FzL] at h; exact .cons h.1 (FzL.set r i h.2)
end
section
variable (B : Bk)
/-- an owned object's own object -/
def RO (G : Hp) (ho : HO) : O → Prop
  | .lst ds => ∃ xs, ho = .lst xs ∧ FzL B G xs ds
  | .dct ds => ∃ kvs, ho = .dK kvs ∧ FzK B G kvs ds
def SlotOk (G H : Hp) (v : Option V) : S → Prop
  | .no => True
  | .d x => ∃ u, v = some u ∧ Fz B G u x
  | .own o => ∃ a ho, v = some (.ref a) ∧ H a = some ho ∧ G a = none ∧ RO B G ho o
def Own (σ : St) (ρ : List S) (i : Nat) (a : Addr) : Prop := σ[i]? = some (some (.ref a)) ∧ ∃ o, ρ[i]? = some (.own o)
structure Rel (G : Hp) (σ : St) (ρ : List S) (H : Hp) : Prop where
  sub : Same G H
  len : σ.length = ρ.length
  slot : ∀ (i : Nat) (s : S), ρ[i]? = some s → ∃ v, σ[i]? = some v ∧ SlotOk B G H v s
  sep : ∀ i j a, Own σ ρ i a → Own σ ρ j a → i = j
/-- what stays, and what is behind -/
structure Post (σ : St) (ρ : List S) (H G : Hp) (σ' : St) (ρ' : List S) (H' G' : Hp) : Prop where
  grow : Same G G'
  dom : ∀ b, H' b = none → H b = none
  frame : ∀ b o, H b = some o → (∀ i, ¬ Own σ ρ i b) → H' b = some o
  keep : ∀ b o, H b = some o → G b = none → (∀ i, ¬ Own σ ρ i b) → G' b = none
  rel : Rel B G' σ' ρ' H'
  own : ∀ i a, Own σ' ρ' i a → Own σ ρ i a ∨ H a = none
/-- the value of an expression -/
def RE (G : Hp) (σ : St) (ρ : List S) (H : Hp) (u : V) : E → Prop
  | .d x => Fz B G u x
  | .sl i => σ[i]? = some (some u)
  | .fr o => ∃ a ho, u = .ref a ∧ H a = some ho ∧ G a = none ∧ RO B G ho o ∧ ∀ i, ¬ Own σ ρ i a
def Fresh (H : Hp) (u : V) : E → Prop
  | .fr _ => ∀ a, u = .ref a → H a = none
  | _ => True
/-- an exception: its class, its own dict -/
def RX (G H : Hp) (cls : Value) (d : Option Addr) (e : Exc) : Prop := ∃ a, B.mg e.cls = some (.ref a) ∧ cls = .ref a ∧
  ((e.fs = [] ∧ d = none) ∨ ∃ dd fs, d = some dd ∧ H dd = some (.xd fs) ∧ fs.map (·.1) = e.fs.map (·.1) ∧ FzL B G (fs.map (·.2)) (e.fs.map (·.2)))
/-- what is wanted of an exception that leaves -/
abbrev WX' := Value → Option Addr → St → Hp → Prop
end
section
variable {B : Bk} {G G' G1 G2 G3 H H' H1 H2 H3 : Hp} {σ σ' σ1 σ2 σ3 : St} {ρ ρ' ρ1 ρ2 ρ3 : List S}
theorem RO.mono {ho : HO} {o : O} (s : Same G G') (h : RO B G ho o) : RO B G' ho o := by
  cases o with
  | lst ds => obtain ⟨xs, e, r⟩ := h; exact ⟨xs, e, FzL.mono s _ _ r⟩
  | dct ds => obtain ⟨xs, e, r⟩ := h; exact ⟨xs, e, FzK.mono s _ _ r⟩
theorem RO.fz {ho : HO} {o : O} {a : Addr} (h : RO B G ho o) (e : G a = some ho) : Fz B G (.ref a) o.toD := by
  cases o with
  | lst ds =>
    obtain ⟨xs, rfl, r⟩ := h
    show Fz B G _ (.lst ds)
    rw [Fz]; exact ⟨a, xs, rfl, e, r⟩
  | dct ds =>
    obtain ⟨xs, rfl, r⟩ := h
    show Fz B G _ (.dct ds)
    rw [Fz]; exact ⟨a, xs, rfl, e, r⟩
theorem Post.refl (r : Rel B G σ ρ H) : Post B σ ρ H G σ ρ H G :=
  ⟨.refl _, fun _ h => h, fun _ _ h _ => h, fun _ _ _ h _ => h, r, fun _ _ h => .inl h⟩
theorem Post.notown (p : Post B σ1 ρ1 H1 G1 σ2 ρ2 H2 G2) {b : Addr} {o : HO} (h : H1 b = some o) (n : ∀ i, ¬ Own σ1 ρ1 i b) : ∀ i, ¬ Own σ2 ρ2 i b := fun i w => by
  rcases p.own i b w with z | z
  · exact n i z
  · rw [h] at z; cases z
theorem Post.trans (p : Post B σ1 ρ1 H1 G1 σ2 ρ2 H2 G2) (q : Post B σ2 ρ2 H2 G2 σ3 ρ3 H3 G3) : Post B σ1 ρ1 H1 G1 σ3 ρ3 H3 G3 where
  grow := p.grow.trans q.grow
  dom := fun b h => p.dom b (q.dom b h)
  frame := fun b o h n => q.frame b o (p.frame b o h n) (p.notown h n)
  keep := fun b o h g n => q.keep b o (p.frame b o h n) (p.keep b o h g n) (p.notown h n)
  rel := q.rel
  own := fun i a w => by
    rcases q.own i a w with z | z
    · exact p.own i a z
    · exact .inr (p.dom a z)
theorem RE.step {u : V} {v : E} (h : RE B G σ ρ H u v) (p : Post B σ ρ H G σ ρ' H' G') : RE B G' σ ρ' H' u v := by
  cases v with
  | d x => exact Fz.mono p.grow _ _ h
  | sl i => exact h
  | fr o =>
    obtain ⟨a, ho, e, e1, e2, r, n⟩ := h
    exact ⟨a, ho, e, p.frame a ho e1 n, p.keep a ho e1 e2 n, r.mono p.grow, p.notown e1 n⟩
/-! ### contents -/
def E.val (ρ : List S) : E → Option D
  | .d x => some x
  | .sl i => match ρ[i]? with
    | some (.d x) => some x
    | some (.own o) => some o.toD
    | _ => none
  | .fr o => some o.toD
theorem val_ok {u : V} {v : E} {x : D} (r : Rel B G σ ρ H) (h : RE B G σ ρ H u v) (e : v.val ρ = some x) : Fz B H u x := by
  cases v with
  | d y =>
    cases e
    exact Fz.mono r.sub _ _ h
  | sl i =>
    have h : σ[i]? = some (some u) := h
    simp only [E.val] at e
    split at e
    · rename_i y hy
      cases e
      obtain ⟨v, h1, w, h2, h3⟩ := r.slot i _ hy
      rw [h] at h1; cases h1; cases h2
      exact Fz.mono r.sub _ _ h3
    · rename_i o ho
      cases e
      obtain ⟨v, h1, a, ob, h2, h3, h4, h5⟩ := r.slot i _ ho
      rw [h] at h1; cases h1; cases h2
      exact (h5.mono r.sub).fz h3
    · cases e
  | fr o =>
    cases e
    obtain ⟨a, ho, rfl, e1, e2, r', n⟩ := h
    exact (r'.mono r.sub).fz e1
/-! ### freezing -/
/-- the object of a slot is given away: from now on it stands still -/
def freeze (i : Nat) (ρ : List S) : Option (D × List S) :=
  match ρ[i]? with
  | some (.d x) => some (x, ρ)
  | some (.own o) => some (o.toD, ρ.set i (.d o.toD))
  | _ => none
def keep1 : E → List S → Option (D × List S)
  | .d x, ρ => some (x, ρ)
  | .sl i, ρ => freeze i ρ
  | .fr o, ρ => some (o.toD, ρ)
def keepL : List E → List S → Option (List D × List S)
  | [], ρ => some ([], ρ)
  | v :: vs, ρ => match keep1 v ρ with
    | none => none
    | some (x, ρ1) => match keepL vs ρ1 with
      | none => none
      | some (xs, ρ2) => some (x :: xs, ρ2)
theorem getElem?_set_ne' {α : Type} {l : List α} {i j : Nat} {x : α} (h : i ≠ j) : (l.set i x)[j]? = l[j]? := by
  rw [List.getElem?_set_ne h]
theorem upd_self_same {G : Hp} {a : Addr} {o : HO} (h : G a = none) : Same G (upd G a o) := fun b u e => by rw [upd_ne (ne_of_none e h)]; exact e
theorem freeze_ok {i : Nat} {x : D} {u : V} (r : Rel B G σ ρ H) (h : σ[i]? = some (some u)) (e : freeze i ρ = some (x, ρ')) :
    ∃ G', Post B σ ρ H G σ ρ' H G' ∧ Fz B G' u x ∧ (∀ b, (∀ i, ¬ Own σ ρ i b) → G b = none → G' b = none) := by
  unfold freeze at e
  split at e
  · rename_i y hy
    cases e
    obtain ⟨v, h1, w, h2, h3⟩ := r.slot i _ hy
    rw [h] at h1; cases h1; cases h2
    exact ⟨G, .refl r, h3, fun _ _ h => h⟩
  · rename_i o ho
    cases e
    obtain ⟨v, h1, a, ob, h2, h3, h4, h5⟩ := r.slot i _ ho
    rw [h] at h1; cases h1; cases h2
    have sg : Same G (upd G a ob) := upd_self_same h4
    have ow : Own σ ρ i a := ⟨h, o, ho⟩
    have hi : i < ρ.length := by
      have := (List.getElem?_eq_some_iff.mp ho).1
      exact this
    have oo : ∀ j b, Own σ (ρ.set i (.d o.toD)) j b → Own σ ρ j b ∧ j ≠ i := fun j b ⟨w1, o', w2⟩ => by
      by_cases hj : i = j
      · subst hj
        rw [List.getElem?_set_self hi] at w2
        cases w2
      · rw [List.getElem?_set_ne hj] at w2
        exact ⟨⟨w1, o', w2⟩, fun z => hj z.symm⟩
    refine ⟨upd G a ob, ⟨sg, fun _ h => h, fun _ _ h _ => h, fun b q hb hg n => ?_, ⟨fun b q hb => ?_, by rw [List.length_set]; exact r.len, fun j s hs => ?_, fun j k b w1 w2 => r.sep j k b (oo j b w1).1 (oo k b w2).1⟩, fun j b w => .inl (oo j b w).1⟩, (h5.mono sg).fz upd_same, fun b n hg => ?_⟩
    · rw [upd_ne (fun z => n i (by rw [z]; exact ow))]; exact hg
    · by_cases hb' : b = a
      · subst hb'; rw [upd_same] at hb; cases hb; exact h3
      · rw [upd_ne hb'] at hb; exact r.sub b q hb
    · by_cases hj : i = j
      · subst hj
        rw [List.getElem?_set_self hi] at hs
        cases hs
        exact ⟨_, h, _, rfl, (h5.mono sg).fz upd_same⟩
      · rw [List.getElem?_set_ne hj] at hs
        obtain ⟨v, e1, e2⟩ := r.slot j s hs
        refine ⟨v, e1, ?_⟩
        cases s with
        | no => trivial
        | d y => obtain ⟨w, q1, q2⟩ := e2; exact ⟨w, q1, Fz.mono sg _ _ q2⟩
        | own o' =>
          obtain ⟨b, ob', q1, q2, q3, q4⟩ := e2
          subst q1
          refine ⟨b, ob', rfl, q2, ?_, q4.mono sg⟩
          rw [upd_ne]
          · exact q3
          · intro z
            subst z
            exact hj (r.sep i j b ow ⟨e1, o', hs⟩)
    · rw [upd_ne (fun z => n i (by rw [z]; exact ow))]; exact hg
  · cases e
/-- values that wait: new objects among them are younger than the beginning, and apart -/
structure Pend (B : Bk) (σ : St) (ρ0 : List S) (H0 G0 : Hp) (ρ : List S) (H G : Hp) (us : List V) (vs : List E) : Prop where
  post : Post B σ ρ0 H0 G0 σ ρ H G
  len : us.length = vs.length
  re : ∀ (i : Nat) (v : E), vs[i]? = some v → ∃ u, us[i]? = some u ∧ RE B G σ ρ H u v
  new : ∀ (i : Nat) (o : O) (a : Addr), vs[i]? = some (.fr o) → us[i]? = some (.ref a) → H0 a = none
  apart : ∀ (i j : Nat) (o o' : O) (a : Addr), vs[i]? = some (.fr o) → vs[j]? = some (.fr o') → us[i]? = some (.ref a) → us[j]? = some (.ref a) → i = j
theorem Pend.nil (r : Rel B G σ ρ H) : Pend B σ ρ H G ρ H G [] [] :=
  ⟨.refl r, rfl, fun i v e => by simp at e, fun i o a e => by simp at e, fun i j o o' a e => by simp at e⟩
theorem getElem?_snoc {α : Type} {l : List α} {x y : α} {i : Nat} (h : (l ++ [x])[i]? = some y) : l[i]? = some y ∨ (i = l.length ∧ y = x) := by
  by_cases hi : i < l.length
  · rw [List.getElem?_append_left hi] at h; exact .inl h
  · have hl : i < (l ++ [x]).length := (List.getElem?_eq_some_iff.mp h).1
    rw [List.length_append, List.length_singleton] at hl
    have e : i = l.length := by omega
    subst e
    rw [List.getElem?_append_right (Nat.le_refl _)] at h
    simp at h
    exact .inr ⟨rfl, h.symm⟩
theorem getElem?_snoc_of {α : Type} {l : List α} {x y : α} {i : Nat} (h : l[i]? = some y) : (l ++ [x])[i]? = some y := by
  rw [List.getElem?_append_left (List.getElem?_eq_some_iff.mp h).1]; exact h
theorem getElem?_snoc_last {α : Type} {l : List α} {x : α} : (l ++ [x])[l.length]? = some x := by
  rw [List.getElem?_append_right (Nat.le_refl _)]; simp
/-- one value more -/
theorem Pend.snoc {ρ0 : List S} {H0 G0 : Hp} {us : List V} {vs : List E} {u : V} {v : E} (p : Pend B σ ρ0 H0 G0 ρ H G us vs) (q : Post B σ ρ H G σ ρ' H' G') (re : RE B G' σ ρ' H' u v) (fr : Fresh H u v) :
    Pend B σ ρ0 H0 G0 ρ' H' G' (us ++ [u]) (vs ++ [v]) where
  post := p.post.trans q
  len := by simp [p.len]
  re := fun i w e => by
    rcases getElem?_snoc e with e | ⟨rfl, rfl⟩
    · obtain ⟨x, e1, e2⟩ := p.re i w e
      exact ⟨x, getElem?_snoc_of e1, e2.step q⟩
    · exact ⟨u, by rw [← p.len]; exact getElem?_snoc_last, re⟩
  new := fun i o a e e' => by
    rcases getElem?_snoc e with e | ⟨rfl, rfl⟩
    · obtain ⟨x, e1, e2⟩ := p.re i _ e
      rw [getElem?_snoc_of e1] at e'
      cases e'
      exact p.new i o a e e1
    · rw [← p.len, getElem?_snoc_last] at e'
      cases e'
      exact p.post.dom a (fr a rfl)
  apart := fun i j o o' a e e' w w' => by
    have old : ∀ {k : Nat} {q : O}, vs[k]? = some (.fr q) → (us ++ [u])[k]? = some (.ref a) → us[k]? = some (.ref a) ∧ ∃ ho, H a = some ho := fun {k q} e1 e2 => by
      obtain ⟨x, e3, e4⟩ := p.re k _ e1
      rw [getElem?_snoc_of e3] at e2
      cases e2
      obtain ⟨b, ho, e5, e6, _⟩ := e4
      cases e5
      exact ⟨e3, ho, e6⟩
    rcases getElem?_snoc e with e1 | ⟨i1, v1⟩
    · rcases getElem?_snoc e' with e2 | ⟨i2, v2⟩
      · exact p.apart i j o o' a e1 e2 (old e1 w).1 (old e2 w').1
      · obtain ⟨_, ho, h⟩ := old e1 w
        rw [i2, ← p.len, getElem?_snoc_last] at w'
        cases w'
        subst v2
        rw [fr a rfl] at h; cases h
    · rcases getElem?_snoc e' with e2 | ⟨i2, v2⟩
      · obtain ⟨_, ho, h⟩ := old e2 w'
        rw [i1, ← p.len, getElem?_snoc_last] at w
        cases w
        subst v1
        rw [fr a rfl] at h; cases h
      · rw [i1, i2]
theorem Pend.one {u : V} {v : E} (q : Post B σ ρ H G σ ρ' H' G') (r : Rel B G σ ρ H) (re : RE B G' σ ρ' H' u v) (fr : Fresh H u v) : Pend B σ ρ H G ρ' H' G' [u] [v] :=
  (Pend.nil r).snoc q re fr
end
end L2.AL
/-! A2: what an evaluation promises; one operand behind the other; names, constants, operators. -/
namespace L2.AL
open PySem PySem.Spec PyProof.Rows
section
variable (B : Bk) (W : WX')
section
variable (σ : St) (ρ : List S) (H G : Hp)
/-- a way by which an exception leaves -/
def Out (e : Exc) (ρ' : List S) : Prop := ∀ cls d H' G', Post B σ ρ H G σ ρ' H' G' → RX B G' H' cls d e → W cls d σ H'
def Aft (Q : VK) : Res E → Prop
  | .ok v ρ' => ∀ u H' G', Post B σ ρ H G σ ρ' H' G' → RE B G' σ ρ' H' u v → Fresh H u v → Q u H'
  | .ex e ρ' => Out B W σ ρ H G e ρ'
  | .no => False
def AftT (Q : Bool → Hp → Prop) : Res Bool → Prop
  | .ok b ρ' => ∀ H' G', Post B σ ρ H G σ ρ' H' G' → Q b H'
  | .ex e ρ' => Out B W σ ρ H G e ρ'
  | .no => False
def AftA (Q : List V → Hp → Prop) : Res (List E) → Prop
  | .ok vs ρ' => ∀ us H' G', Pend B σ ρ H G ρ' H' G' us vs → Q us H'
  | .ex e ρ' => Out B W σ ρ H G e ρ'
  | .no => False
/-- any such wish -/
structure Cl {β : Type} (Φ : Res β → Prop) : Prop where
  ex : ∀ e ρ', Φ (.ex e ρ') → Out B W σ ρ H G e ρ'
  no : ¬ Φ .no
end
def lift (f : List S → Res E) : TE := fun σ H Q => ∃ G ρ, Rel B G σ ρ H ∧ Aft B W σ ρ H G Q (f ρ)
def liftT (f : List S → Res Bool) : TT := fun σ H Q => ∃ G ρ, Rel B G σ ρ H ∧ AftT B W σ ρ H G Q (f ρ)
def liftA (f : List S → Res (List E)) : TA := fun σ H Q => ∃ G ρ, Rel B G σ ρ H ∧ AftA B W σ ρ H G Q (f ρ)
end
section
variable {B : Bk} {W : WX'} {G G0 G1 G' H H0 H1 H' : Hp} {σ : St} {ρ ρ0 ρ1 ρ' : List S} {us us' : List V} {vs vs' : List E} {β : Type} {Φ : Res β → Prop}
theorem Out.back {e : Exc} {ρ2 : List S} (h : Out B W σ ρ H G e ρ2) (p : Post B σ ρ H G σ ρ1 H1 G1) : Out B W σ ρ1 H1 G1 e ρ2 :=
  fun cls d H' G' q r => h cls d H' G' (p.trans q) r
theorem Cl.step (c : Cl B W σ ρ H G Φ) (p : Post B σ ρ H G σ ρ1 H1 G1) : Cl B W σ ρ1 H1 G1 Φ :=
  ⟨fun e ρ' h => (c.ex e ρ' h).back p, c.no⟩
theorem Aft.cl {Q : VK} : Cl B W σ ρ H G (Aft B W σ ρ H G Q) := ⟨fun _ _ h => h, fun h => h⟩
theorem AftT.cl {Q : Bool → Hp → Prop} : Cl B W σ ρ H G (AftT B W σ ρ H G Q) := ⟨fun _ _ h => h, fun h => h⟩
theorem AftA.cl {Q : List V → Hp → Prop} : Cl B W σ ρ H G (AftA B W σ ρ H G Q) := ⟨fun _ _ h => h, fun h => h⟩
theorem Pend.len1 (p : Pend B σ ρ0 H0 G0 ρ H G us vs) : us.length = vs.length := p.len
/-- two heaps of values that wait -/
theorem Pend.append (p : Pend B σ ρ0 H0 G0 ρ H G us vs) (q : Pend B σ ρ H G ρ' H' G' us' vs') : Pend B σ ρ0 H0 G0 ρ' H' G' (us ++ us') (vs ++ vs') where
  post := p.post.trans q.post
  len := by rw [List.length_append, List.length_append, p.len, q.len]
  re := fun i v e => by
    by_cases hi : i < vs.length
    · rw [List.getElem?_append_left hi] at e
      obtain ⟨u, e1, e2⟩ := p.re i v e
      exact ⟨u, by rw [List.getElem?_append_left (by rw [p.len]; exact hi)]; exact e1, e2.step q.post⟩
    · rw [List.getElem?_append_right (by omega)] at e
      obtain ⟨u, e1, e2⟩ := q.re _ v e
      exact ⟨u, by rw [List.getElem?_append_right (by rw [p.len]; omega), p.len]; exact e1, e2⟩
  new := fun i o a e e' => by
    by_cases hi : i < vs.length
    · rw [List.getElem?_append_left hi] at e
      rw [List.getElem?_append_left (by rw [p.len]; exact hi)] at e'
      exact p.new i o a e e'
    · rw [List.getElem?_append_right (by omega)] at e
      rw [List.getElem?_append_right (by rw [p.len]; omega), p.len] at e'
      exact p.post.dom a (q.new _ o a e e')
  apart := fun i j o o' a e e' w w' => by
    have old : ∀ {k : Nat} {x : O}, vs[k]? = some (.fr x) → us[k]? = some (.ref a) → ∃ ho, H a = some ho := fun {k x} e1 e2 => by
      obtain ⟨y, e3, e4⟩ := p.re k _ e1
      rw [e3] at e2; cases e2
      obtain ⟨b, ho, e5, e6, _⟩ := e4
      cases e5
      exact ⟨ho, e6⟩
    by_cases hi : i < vs.length
    · rw [List.getElem?_append_left hi] at e
      rw [List.getElem?_append_left (by rw [p.len]; exact hi)] at w
      by_cases hj : j < vs.length
      · rw [List.getElem?_append_left hj] at e'
        rw [List.getElem?_append_left (by rw [p.len]; exact hj)] at w'
        exact p.apart i j o o' a e e' w w'
      · rw [List.getElem?_append_right (by omega)] at e'
        rw [List.getElem?_append_right (by rw [p.len]; omega), p.len] at w'
        obtain ⟨ho, h⟩ := old e w
        rw [q.new _ o' a e' w'] at h; cases h
    · rw [List.getElem?_append_right (by omega)] at e
      rw [List.getElem?_append_right (by rw [p.len]; omega), p.len] at w
      by_cases hj : j < vs.length
      · rw [List.getElem?_append_left hj] at e'
        rw [List.getElem?_append_left (by rw [p.len]; exact hj)] at w'
        obtain ⟨ho, h⟩ := old e' w'
        rw [q.new _ o a e w] at h; cases h
      · rw [List.getElem?_append_right (by omega)] at e'
        rw [List.getElem?_append_right (by rw [p.len]; omega), p.len] at w'
        have := q.apart _ _ o o' a e e' w w'
        omega
/-- the next operand -/
theorem lift_next {f : List S → Res E} {k : E → List S → Res β} (p : Pend B σ ρ0 H0 G0 ρ H G us vs) (c : Cl B W σ ρ0 H0 G0 Φ) (h : Φ ((f ρ).bind k)) :
    lift B W f σ H (fun u H1 => ∃ v ρ1 G1, Pend B σ ρ0 H0 G0 ρ1 H1 G1 (us ++ [u]) (vs ++ [v]) ∧ Φ (k v ρ1)) := by
  refine ⟨G, ρ, p.post.rel, ?_⟩
  cases e : f ρ with
  | ok v ρ1 =>
    rw [e] at h
    exact fun u H' G' q re fr => ⟨v, ρ1, G', p.snoc q re fr, h⟩
  | ex x ρ1 =>
    rw [e] at h
    exact (c.ex x ρ1 h).back p.post
  | no =>
    rw [e] at h
    exact c.no h
theorem lift_first {f : List S → Res E} {k : E → List S → Res β} (r : Rel B G σ ρ H) (c : Cl B W σ ρ H G Φ) (h : Φ ((f ρ).bind k)) :
    lift B W f σ H (fun u H1 => ∃ v ρ1 G1, Pend B σ ρ H G ρ1 H1 G1 [u] [v] ∧ Φ (k v ρ1)) := lift_next (Pend.nil r) c h
theorem lift_mono {f : List S → Res E} {Q Q' : VK} (h : lift B W f σ H Q) (w : ∀ u H, Q u H → Q' u H) : lift B W f σ H Q' := by
  obtain ⟨G, ρ, r, h⟩ := h
  refine ⟨G, ρ, r, ?_⟩
  cases e : f ρ with
  | ok v ρ1 => rw [e] at h; exact fun u H' G' p re fr => w _ _ (h u H' G' p re fr)
  | ex x ρ1 => rw [e] at h; exact h
  | no => rw [e] at h; exact h
theorem liftT_mono {f : List S → Res Bool} {Q Q' : Bool → Hp → Prop} (h : liftT B W f σ H Q) (w : ∀ u H, Q u H → Q' u H) : liftT B W f σ H Q' := by
  obtain ⟨G, ρ, r, h⟩ := h
  refine ⟨G, ρ, r, ?_⟩
  cases e : f ρ with
  | ok v ρ1 => rw [e] at h; exact fun H' G' p => w _ _ (h H' G' p)
  | ex x ρ1 => rw [e] at h; exact h
  | no => rw [e] at h; exact h
theorem liftA_mono {f : List S → Res (List E)} {Q Q' : List V → Hp → Prop} (h : liftA B W f σ H Q) (w : ∀ u H, Q u H → Q' u H) : liftA B W f σ H Q' := by
  obtain ⟨G, ρ, r, h⟩ := h
  refine ⟨G, ρ, r, ?_⟩
  cases e : f ρ with
  | ok v ρ1 => rw [e] at h; exact fun u H' G' p => w _ _ (h u H' G' p)
  | ex x ρ1 => rw [e] at h; exact h
  | no => rw [e] at h; exact h
theorem liftT_next {f : List S → Res Bool} {k : Bool → List S → Res β} (p : Pend B σ ρ0 H0 G0 ρ H G us vs) (c : Cl B W σ ρ0 H0 G0 Φ) (h : Φ ((f ρ).bind k)) :
    liftT B W f σ H (fun b H1 => ∃ ρ1 G1, Post B σ ρ H G σ ρ1 H1 G1 ∧ Φ (k b ρ1)) := by
  refine ⟨G, ρ, p.post.rel, ?_⟩
  cases e : f ρ with
  | ok v ρ1 =>
    rw [e] at h
    exact fun H' G' q => ⟨ρ1, G', q, h⟩
  | ex x ρ1 =>
    rw [e] at h
    exact (c.ex x ρ1 h).back p.post
  | no =>
    rw [e] at h
    exact c.no h
theorem liftA_next {f : List S → Res (List E)} {k : List E → List S → Res β} (p : Pend B σ ρ0 H0 G0 ρ H G us vs) (c : Cl B W σ ρ0 H0 G0 Φ) (h : Φ ((f ρ).bind k)) :
    liftA B W f σ H (fun us' H1 => ∃ vs' ρ1 G1, Pend B σ ρ0 H0 G0 ρ1 H1 G1 (us ++ us') (vs ++ vs') ∧ Φ (k vs' ρ1)) := by
  refine ⟨G, ρ, p.post.rel, ?_⟩
  cases e : f ρ with
  | ok v ρ1 =>
    rw [e] at h
    exact fun us' H' G' q => ⟨v, ρ1, G', p.append q, h⟩
  | ex x ρ1 =>
    rw [e] at h
    exact (c.ex x ρ1 h).back p.post
  | no =>
    rw [e] at h
    exact c.no h
theorem liftA_first {f : List S → Res (List E)} {k : List E → List S → Res β} (r : Rel B G σ ρ H) (c : Cl B W σ ρ H G Φ) (h : Φ ((f ρ).bind k)) :
    liftA B W f σ H (fun us' H1 => ∃ vs' ρ1 G1, Pend B σ ρ H G ρ1 H1 G1 us' vs' ∧ Φ (k vs' ρ1)) := liftA_next (Pend.nil r) c h
/-! ### a value's top in the heap, its items frozen -/
def Tz (B : Bk) (G H : Hp) (u : V) : D → Prop
  | .lst ds => ∃ a xs, u = .ref a ∧ H a = some (.lst xs) ∧ FzL B G xs ds
  | .dct ds => ∃ a kvs, u = .ref a ∧ H a = some (.dK kvs) ∧ FzK B G kvs ds
  | x => Fz B G u x
theorem Fz.tz {u : V} {x : D} (s : Same G H) (h : Fz B G u x) : Tz B G H u x := by
  cases x with
  | lst ds => rw [Fz] at h; obtain ⟨a, xs, e, q, r⟩ := h; exact ⟨a, xs, e, s _ _ q, r⟩
  | dct ds => rw [Fz] at h; obtain ⟨a, xs, e, q, r⟩ := h; exact ⟨a, xs, e, s _ _ q, r⟩
  | _ => exact h
theorem RO.tz {ho : HO} {o : O} {a : Addr} (e : H a = some ho) (h : RO B G ho o) : Tz B G H (.ref a) o.toD := by
  cases o with
  | lst ds => obtain ⟨xs, rfl, r⟩ := h; exact ⟨a, xs, rfl, e, r⟩
  | dct ds => obtain ⟨xs, rfl, r⟩ := h; exact ⟨a, xs, rfl, e, r⟩
theorem Tz.fz {u : V} {x : D} (s : Same G H) (h : Tz B G H u x) : Fz B H u x := by
  cases x with
  | lst ds => obtain ⟨a, xs, e, q, r⟩ := h; rw [Fz]; exact ⟨a, xs, e, q, FzL.mono s _ _ r⟩
  | dct ds => obtain ⟨a, xs, e, q, r⟩ := h; rw [Fz]; exact ⟨a, xs, e, q, FzK.mono s _ _ r⟩
  | _ => exact Fz.mono s _ _ h
theorem Rel.val {u : V} {v : E} {x : D} (r : Rel B G σ ρ H) (h : RE B G σ ρ H u v) (e : v.val ρ = some x) : Tz B G H u x := by
  cases v with
  | d y =>
    cases e
    exact Fz.tz r.sub h
  | sl i =>
    have h : σ[i]? = some (some u) := h
    simp only [E.val] at e
    split at e
    · rename_i y hy
      cases e
      obtain ⟨v, h1, w, h2, h3⟩ := r.slot i _ hy
      rw [h] at h1; cases h1; cases h2
      exact Fz.tz r.sub h3
    · rename_i o ho
      cases e
      obtain ⟨v, h1, a, ob, h2, h3, h4, h5⟩ := r.slot i _ ho
      rw [h] at h1; cases h1; cases h2
      exact h5.tz h3
    · cases e
  | fr o =>
    cases e
    obtain ⟨a, ho, rfl, e1, e2, r', n⟩ := h
    exact r'.tz e1
/-! ### a result -/
/-- at most one object is new: the result -/
structure New (B : Bk) (G H : Hp) (u : V) (v : E) (H' G' : Hp) : Prop where
  grow : Same G G'
  stay : Same H H'
  sub : Same G' H'
  keep : ∀ b o, H b = some o → G b = none → G' b = none
  val : match v with
    | .d x => Fz B G' u x
    | .sl _ => False
    | .fr o => ∃ a ho, u = .ref a ∧ H a = none ∧ H' a = some ho ∧ G' a = none ∧ RO B G' ho o
theorem New.scalar {u : V} {x : D} (s : Same G H) (h : Fz B G u x) : New B G H u (.d x) H G := ⟨.refl _, .refl _, s, fun _ _ _ h => h, h⟩
theorem New.tup {p : Addr} {us : List V} {ds : List D} (s : Same G H) (hp : H p = none) (h : FzL B G us ds) : New B G H (.ref p) (.d (.tup ds)) (upd H p (.tup us)) (upd G p (.tup us)) := by
  have sg : Same G (upd G p (.tup us)) := upd_self_same (s.free hp)
  refine ⟨sg, upd_self_same hp, fun b o e => ?_, fun b o e g => ?_, ?_⟩
  · by_cases hb : b = p
    · subst hb; rw [upd_same] at e ⊢; exact e
    · rw [upd_ne hb] at e ⊢; exact s b o e
  · rw [upd_ne (ne_of_none e hp)]; exact g
  · show Fz B _ _ (.tup ds)
    rw [Fz]
    exact ⟨p, us, rfl, SqT.of upd_same, FzL.mono sg _ _ h⟩
theorem New.own {p : Addr} {ho : HO} {o : O} (s : Same G H) (hp : H p = none) (h : RO B G ho o) : New B G H (.ref p) (.fr o) (upd H p ho) G :=
  ⟨.refl _, upd_self_same hp, fun b u e => by rw [upd_ne (ne_of_none e (s.free hp))]; exact s b u e, fun _ _ _ g => g, p, ho, rfl, hp, upd_same, s.free hp, h⟩
theorem New.post {u : V} {v : E} (p : Post B σ ρ0 H0 G0 σ ρ H G) (n : New B G H u v H' G') : Post B σ ρ0 H0 G0 σ ρ H' G' ∧ RE B G' σ ρ H' u v ∧ Fresh H0 u v := by
  have r : Rel B G' σ ρ H' := ⟨n.sub, p.rel.len, fun i s e => by
    obtain ⟨x, e1, e2⟩ := p.rel.slot i s e
    refine ⟨x, e1, ?_⟩
    cases s with
    | no => trivial
    | d y => obtain ⟨w, q1, q2⟩ := e2; exact ⟨w, q1, Fz.mono n.grow _ _ q2⟩
    | own o =>
      obtain ⟨a, ho, q1, q2, q3, q4⟩ := e2
      exact ⟨a, ho, q1, n.stay _ _ q2, n.keep _ _ q2 q3, q4.mono n.grow⟩, p.rel.sep⟩
  have q : Post B σ ρ H G σ ρ H' G' := ⟨n.grow, fun b e => Same.free n.stay e, fun b o e _ => n.stay b o e, fun b o e g _ => n.keep b o e g, r, fun _ _ w => .inl w⟩
  refine ⟨p.trans q, ?_, ?_⟩
  · have nv := n.val
    cases v with
    | d x => exact nv
    | sl i => exact nv.elim
    | fr o =>
      obtain ⟨a, ho, e, h0, h1, h2, h3⟩ := nv
      refine ⟨a, ho, e, h1, h2, h3, fun i w => ?_⟩
      obtain ⟨w1, o', w2⟩ := w
      obtain ⟨x, e1, b, hb, e2, e3, _⟩ := p.rel.slot i _ w2
      rw [w1] at e1; cases e1; cases e2
      rw [h0] at e3; cases e3
  · have nv := n.val
    cases v with
    | d x => trivial
    | sl i => trivial
    | fr o =>
      obtain ⟨a, ho, e, h0, h1, h2, h3⟩ := nv
      intro b eb
      rw [e] at eb; cases eb
      exact p.dom _ h0
/-- the end of an evaluation -/
theorem Aft.fin {Q : VK} {u : V} {v : E} (h : Aft B W σ ρ0 H0 G0 Q (.ok v ρ)) (p : Post B σ ρ0 H0 G0 σ ρ H G) (n : New B G H u v H' G') : Q u H' := by
  obtain ⟨p', r, f⟩ := n.post p
  exact h u H' G' p' r f
end
/-! ### rules -/
section
variable {X : Cx} {W : WX'}
abbrev _root_.L2.Cx.bk (X : Cx) : Bk := ⟨X.K, X.mg, X.w⟩
abbrev PEa (X : Cx) (W : WX') (e : Expr) (f : List S → Res E) : Prop := PE X e (lift X.bk W f)
abbrev PTa (X : Cx) (W : WX') (e : Expr) (f : List S → Res Bool) : Prop := PT X e (liftT X.bk W f)
abbrev PAa (X : Cx) (W : WX') (es : List Expr) (f : List S → Res (List E)) : Prop := PA X es (liftA X.bk W f)
theorem pe_imp {e : Expr} {t t' : TE} (h : PE X e t) (w : ∀ σ H Q, t' σ H Q → t σ H Q) : PE X e t' := ⟨fun pins s σ H Q I q => h.run pins s σ H Q I (w σ H Q q)⟩
theorem pt_imp {e : Expr} {t t' : TT} (h : PT X e t) (w : ∀ σ H Q, t' σ H Q → t σ H Q) : PT X e t' := ⟨fun pins s σ H Q I q => h.run pins s σ H Q I (w σ H Q q)⟩
theorem pa_imp {es : List Expr} {t t' : TA} (h : PA X es t) (w : ∀ σ H Q, t' σ H Q → t σ H Q) : PA X es t' := ⟨fun pos pins s σ H Q I q => h.run pos pins s σ H Q I (w σ H Q q)⟩
/-- a name of the def -/
def aVar (i : Nat) : List S → Res E := fun ρ => match ρ[i]? with
  | some (.d x) => .ok (.d x) ρ
  | some (.own _) => .ok (.sl i) ρ
  | _ => .no
theorem a_var (i : Nat) {x : Str} {pos : Pos} (hN : X.N[i]? = some x := by rfl) (hv : Vis X.env.scope x := by first | exact Or.inl rfl | exact Or.inr (Or.inl rfl) | exact Or.inr (Or.inr rfl))
    (hd : (x == ("__debug__" : Str)) = false := by decide) (hcd : (x == ("__classdict__" : Str)) = false := by decide) : PEa X W (.Name x pos) (aVar i) := by
  refine pe_imp (pe_var hN hv hd hcd) fun σ H Q ⟨G, ρ, r, h⟩ => ?_
  unfold aVar at h
  split at h
  · rename_i y hy
    obtain ⟨v, e1, w, e2, e3⟩ := r.slot i _ hy
    exact ⟨w, by rw [e1, e2], h w H G (.refl r) e3 trivial⟩
  · rename_i o ho
    obtain ⟨v, e1, a, ob, e2, e3, e4, e5⟩ := r.slot i _ ho
    exact ⟨.ref a, by rw [e1, e2], h _ H G (.refl r) (by show σ[i]? = _; rw [e1, e2]) trivial⟩
  · exact h.elim
/-- constants -/
def aK (x : D) : List S → Res E := fun ρ => .ok (.d x) ρ
theorem a_const {e : Expr} {v : V} {x : D} (h : PE X e (tC v)) (z : ∀ G, Fz X.bk G v x) : PEa X W e (aK x) :=
  pe_imp h fun σ H Q ⟨G, ρ, r, h⟩ => h v H G (.refl r) (z G) trivial
theorem a_int {i : Int} {j pos} : PEa X W (.Constant (.int i) j pos) (aK (.int i)) := a_const pe_int fun G => by rw [Fz]
theorem a_bl {b : Bool} {j pos} : PEa X W (.Constant (.bool b) j pos) (aK (.bl b)) := a_const pe_bl fun G => by rw [Fz]
theorem a_non {j pos} : PEa X W (.Constant .none j pos) (aK .non) := a_const pe_non fun G => by rw [Fz]
theorem a_str {x : Str} {j pos} : PEa X W (.Constant (.str x) j pos) (aK (.str x)) := a_const pe_str fun G => by rw [Fz]
/-- a name of the module whose value stands still -/
def GC (B : Bk) (x : Str) (d : D) : Prop := ∃ u v, B.mg x = some u ∧ RelV v u ∧ ∀ G, Fz B G v d
theorem a_glob {x : Str} {d : D} {pos : Pos} (h : GC X.bk x d) (hg : Gl X x := by rfl) (hd : (x == ("__debug__" : Str)) = false := by decide) : PEa X W (.Name x pos) (aK d) := by
  obtain ⟨u, v, e, r, z⟩ := h
  exact a_const (pe_glob hg e r hd) z
/-- what a rule by values asks, met by a function of contents -/
def Snd2 (B : Bk) (g : D → D → Option E) (r : R2) : Prop :=
  ∀ (x y : D) (v : E) (a b : V) (G H : Hp) (Q : VK), g x y = some v → Same G H → Tz B G H a x → Tz B G H b y → (∀ u H' G', New B G H u v H' G' → Q u H') → r a b H Q
def app2 (g : D → D → Option E) (va vb : E) (ρ : List S) : Res E := match va.val ρ, vb.val ρ with
  | some x, some y => match g x y with
    | some v => .ok v ρ
    | none => .no
  | _, _ => .no
def aOp2 (g : D → D → Option E) (fa fb : List S → Res E) : List S → Res E := fun ρ => (fa ρ).bind fun va ρ1 => (fb ρ1).bind fun vb ρ2 => app2 g va vb ρ2
section
variable {a b : Expr} {fa fb : List S → Res E} {pos : Pos} {g : D → D → Option E} {r : R2}
theorem op2_imp (sn : Snd2 X.bk g r) (σ : St) (H : Hp) (Q : VK) (h : lift X.bk W (aOp2 g fa fb) σ H Q) : tOp r (lift X.bk W fa) (lift X.bk W fb) σ H Q := by
  obtain ⟨G, ρ, rl, h⟩ := h
  refine lift_mono (lift_first rl (Aft.cl (Q := Q)) h) fun u1 H1 ⟨va, ρa, Ga, P1, h1⟩ => ?_
  refine lift_mono (lift_next P1 (Aft.cl (Q := Q)) h1) fun u2 H2 ⟨vb, ρb, Gb, P2, h2⟩ => ?_
  obtain ⟨x1, ex1, rx1⟩ := P2.re 0 va rfl
  obtain ⟨x2, ex2, rx2⟩ := P2.re 1 vb rfl
  cases ex1
  cases ex2
  unfold app2 at h2
  split at h2
  · rename_i dx dy hx hy
    split at h2
    · rename_i z hz
      exact sn dx dy z _ _ Gb H2 Q hz P2.post.rel.sub (P2.post.rel.val rx1 hx) (P2.post.rel.val rx2 hy) fun w H' G' n => h2.fin P2.post n
    · exact h2.elim
  · exact h2.elim
theorem a_bin {op : Operator} (ho : OpR X (binaryOp op) r) (sn : Snd2 X.bk g r) (ha : PEa X W a fa) (hb : PEa X W b fb) : PEa X W (.BinOp a op b pos) (aOp2 g fa fb) :=
  pe_imp (pe_op ho ha hb) (op2_imp sn)
theorem a_cmp {op : CmpOp} (ho : OpR X (compareOp op) r) (sn : Snd2 X.bk g r) (ha : PEa X W a fa) (hb : PEa X W b fb) (hm : behindInMarks op b = false := by first | exact nomark _ | rfl) : PEa X W (.Compare a [op] [b] pos) (aOp2 g fa fb) :=
  pe_imp (pe_cmpR ho ha hb hm) (op2_imp sn)
theorem a_ix (hr : IxR X r) (sn : Snd2 X.bk g r) (ha : PEa X W a fa) (hb : PEa X W b fb) (hs : PlainIx b := by intro _ _; rfl) : PEa X W (.Subscript a b pos) (aOp2 g fa fb) :=
  pe_imp (pe_ix hr ha hb hs) (op2_imp sn)
end
end
end L2.AL
/-! A3: operators by content. -/
namespace L2.AL
open PySem PySem.Spec PyProof.Rows
section
variable {B : Bk} {G H : Hp}
theorem tz_non {u : V} (h : Tz B G H u .non) : u = .non := by simpa [Tz, Fz] using h
theorem tz_int {u : V} {i : Int} (h : Tz B G H u (.int i)) : u = .int i := by simpa [Tz, Fz] using h
theorem tz_bl {u : V} {i : Bool} (h : Tz B G H u (.bl i)) : u = .bl i := by simpa [Tz, Fz] using h
theorem tz_str {u : V} {i : Str} (h : Tz B G H u (.str i)) : u = .str i := by simpa [Tz, Fz] using h
theorem tz_tup {u : V} {ds : List D} (h : Tz B G H u (.tup ds)) : ∃ a xs, u = .ref a ∧ SqT B.K G a xs ∧ FzL B G xs ds := by
  have h : Fz B G u (.tup ds) := h
  rw [Fz] at h
  exact h
theorem fz_non : Fz B G .non .non := by rw [Fz]
theorem fz_int (i : Int) : Fz B G (.int i) (.int i) := by rw [Fz]
theorem fz_bl (i : Bool) : Fz B G (.bl i) (.bl i) := by rw [Fz]
theorem fz_str (i : Str) : Fz B G (.str i) (.str i) := by rw [Fz]
end
abbrev eInt (i : Int) : E := .d (.int i)
abbrev eBl (b : Bool) : E := .d (.bl b)
abbrev eStr (x : Str) : E := .d (.str x)
/-! ### arithmetic -/
def gAdd : D → D → Option E
  | .int i, .int j => some (eInt (i + j))
  | .str x, .str y => if x.length + y.length ≤ sizeLine then some (eStr (x ++ y)) else none
  | .lst x, .lst y => if x.length + y.length ≤ sizeLine then some (.fr (.lst (x ++ y))) else none
  | .tup x, .tup y => if x.length + y.length ≤ sizeLine then some (.d (.tup (x ++ y))) else none
  | _, _ => none
def gSub : D → D → Option E
  | .int i, .int j => some (eInt (i - j))
  | _, _ => none
def gMul : D → D → Option E
  | .int i, .int j => if i.natAbs.log2 + j.natAbs.log2 < 1000000 then some (eInt (i * j)) else none
  | _, _ => none
def gMod : D → D → Option E
  | .int i, .int j => if 0 < j then some (eInt (i % j)) else none
  | _, _ => none
def gDiv : D → D → Option E
  | .int i, .int j => if 0 < j ∧ j.natAbs.log2 < 9000 then some (eInt (i / j)) else none
  | _, _ => none
def gPow : D → D → Option E
  | .int i, .int j => if 0 ≤ j ∧ (Builtin.Int.intBits i : Int) * j ≤ 2 ^ 27 then some (eInt (i ^ j.toNat)) else none
  | _, _ => none
section
variable {X : Cx}
theorem op_powB : OpR X (binaryOp .Pow) (rI (fun i j => 0 ≤ j ∧ (Builtin.Int.intBits i : Int) * j ≤ 2 ^ 27) fun i j => .int (i ^ j.toNat)) := opI fun _ _ _ _ _ _ _ hc q => PyProof.Rows.pow_int hc.1 hc.2 q
end
section
variable {B : Bk}
theorem rI0_snd {g : D → D → Option E} {f : Int → Int → Int} (hg : ∀ x y v, g x y = some v → ∃ i j, x = .int i ∧ y = .int j ∧ v = eInt (f i j)) : Snd2 B g (rI0 fun i j => .int (f i j)) := by
  intro x y v a b G H Q e s hx hy q
  obtain ⟨i, j, rfl, rfl, rfl⟩ := hg x y v e
  exact ⟨i, j, tz_int hx, tz_int hy, q _ _ _ (.scalar s (fz_int _))⟩
theorem rI_snd {g : D → D → Option E} {C : Int → Int → Prop} {f : Int → Int → Int} (hg : ∀ x y v, g x y = some v → ∃ i j, x = .int i ∧ y = .int j ∧ C i j ∧ v = eInt (f i j)) : Snd2 B g (rI C fun i j => .int (f i j)) := by
  intro x y v a b G H Q e s hx hy q
  obtain ⟨i, j, rfl, rfl, c, rfl⟩ := hg x y v e
  exact ⟨i, j, tz_int hx, tz_int hy, c, q _ _ _ (.scalar s (fz_int _))⟩
theorem sub_snd : Snd2 B gSub (rI0 fun i j => .int (i - j)) := rI0_snd fun x y v e => by
  cases x <;> cases y <;> simp [gSub] at e
  exact ⟨_, _, rfl, rfl, e.symm⟩
theorem mul_snd : Snd2 B gMul (rI CMulW fun i j => .int (i * j)) := rI_snd fun x y v e => by
  cases x <;> cases y <;> simp [gMul] at e
  exact ⟨_, _, rfl, rfl, e.1, e.2.symm⟩
theorem mod_snd : Snd2 B gMod (rI (fun _ j => 0 < j) fun i j => .int (i % j)) := rI_snd fun x y v e => by
  cases x <;> cases y <;> simp [gMod] at e
  exact ⟨_, _, rfl, rfl, e.1, e.2.symm⟩
theorem div_snd : Snd2 B gDiv (rI CDivW fun i j => .int (i / j)) := rI_snd fun x y v e => by
  cases x <;> cases y <;> simp [gDiv] at e
  exact ⟨_, _, rfl, rfl, e.1, e.2.symm⟩
theorem pow_snd : Snd2 B gPow (rI (fun i j => 0 ≤ j ∧ (Builtin.Int.intBits i : Int) * j ≤ 2 ^ 27) fun i j => .int (i ^ j.toNat)) := rI_snd fun x y v e => by
  cases x <;> cases y <;> simp [gPow] at e
  exact ⟨_, _, rfl, rfl, e.1, e.2.symm⟩
abbrev rAddA (K : PySem.W.Frag) : R2 := fun x y H Q => ((rI0 fun i j => .int (i + j)) x y H Q ∨ (∃ i j, x = .str i ∧ y = .str j ∧ i.length + j.length ≤ sizeLine ∧ Q (.str (i ++ j)) H)) ∨ (rCat x y H Q ∨ rCatA K x y H Q)
theorem op_addA {X : Cx} : OpR X (binaryOp .Add) (rAddA X.K) := (op_add.or op_add_str).or (op_cat.or op_catA)
theorem add_snd : Snd2 B gAdd (rAddA B.K) := by
  intro x y v a b G H Q e s hx hy q
  cases x <;> cases y <;> simp [gAdd] at e
  · subst e
    exact .inl (.inl ⟨_, _, tz_int hx, tz_int hy, q _ _ _ (.scalar s (fz_int _))⟩)
  · obtain ⟨h, rfl⟩ := e
    exact .inl (.inr ⟨_, _, tz_str hx, tz_str hy, h, q _ _ _ (.scalar s (fz_str _))⟩)
  · rename_i ds es
    obtain ⟨h, rfl⟩ := e
    obtain ⟨p, xs, rfl, h1, r1⟩ := tz_tup hx
    obtain ⟨p', ys, rfl, h2, r2⟩ := tz_tup hy
    have l1 := r1.length
    have l2 := r2.length
    refine .inr (.inr ⟨p, p', xs, ys, rfl, rfl, Same.sqt s h1, Same.sqt s h2, by omega, fun e => ?_, fun e e' => ?_, fun e e' r hr => q _ _ _ (.tup s hr (r1.append r2))⟩)
    · subst e
      have : ds = [] := List.length_eq_zero_iff.mp (by simpa using l1.symm)
      subst this
      exact q _ _ _ (.scalar s hy)
    · subst e'
      have : es = [] := List.length_eq_zero_iff.mp (by simpa using l2.symm)
      subst this
      exact q _ _ _ (.scalar s (by rw [List.append_nil]; exact hx))
  · rename_i ds es
    obtain ⟨h, rfl⟩ := e
    obtain ⟨p, xs, rfl, h1, r1⟩ := hx
    obtain ⟨p', ys, rfl, h2, r2⟩ := hy
    have l1 := r1.length
    have l2 := r2.length
    exact .inr (.inl ⟨p, p', xs, ys, rfl, rfl, h1, h2, by omega, fun r hr => q _ _ _ (.own s hr ⟨_, rfl, r1.append r2⟩)⟩)
/-! ### == of contents -/
mutual
def D.py : D → Option PyData
  | .non => some .none
  | .bl b => some (.bool b)
  | .int i => some (.int i)
  | .str x => some (.str x)
  | .tup xs => (D.pyL xs).map .tuple
  | .lst xs => (D.pyL xs).map .list
  | .dct _ => none
  | .fn _ => none
  | .ty _ => none
  | .scr _ => none
  | .cd _ => none
def D.pyL : List D → Option (List PyData)
  | [] => some []
  | x :: xs => match D.py x, D.pyL xs with
    | some a, some as => some (a :: as)
    | _, _ => none
end
mutual
theorem dp_of {G : Hp} : ∀ (x : D) (u : V) (p : PyData), x.py = some p → Fz B G u x → Dp B.K G u p
  | .non, u, p, e, h => by rw [D.py] at e; cases e; rw [Fz] at h; subst h; exact .non
  | .bl b, u, p, e, h => by rw [D.py] at e; cases e; rw [Fz] at h; subst h; exact .bl b
  | .int i, u, p, e, h => by rw [D.py] at e; cases e; rw [Fz] at h; subst h; exact .int i
  | .str x, u, p, e, h => by rw [D.py] at e; cases e; rw [Fz] at h; subst h; exact .str x
  | .tup xs, u, p, e, h => by
    rw [D.py] at e
    obtain ⟨ps, e1, rfl⟩ := Option.map_eq_some_iff.mp e
    rw [Fz] at h
    obtain ⟨a, vs, rfl, h1, h2⟩ := h
    exact .tup h1 (dpL_of xs vs ps e1 h2)
  | .lst xs, u, p, e, h => by
    rw [D.py] at e
    obtain ⟨ps, e1, rfl⟩ := Option.map_eq_some_iff.mp e
    rw [Fz] at h
    obtain ⟨a, vs, rfl, h1, h2⟩ := h
    exact .lst (SqL.of h1) (dpL_of xs vs ps e1 h2)
  | .dct _, _, _, e, _ => by rw [D.py] at e; cases e
  | .fn _, _, _, e, _ => by rw [D.py] at e; cases e
  | .ty _, _, _, e, _ => by rw [D.py] at e; cases e
  | .scr _, _, _, e, _ => by rw [D.py] at e; cases e
  | .cd _, _, _, e, _ => by rw [D.py] at e; cases e
theorem dpL_of {G : Hp} : ∀ (xs : List D) (us : List V) (ps : List PyData), D.pyL xs = some ps → FzL B G us xs → DpAll B.K G us ps
  | [], [], ps, e, h => by rw [D.pyL] at e; cases e; exact .nil
  | [], _ :: _, _, _, h => by rw [FzL] at h; exact h.elim
  | _ :: _, [], _, _, h => by rw [FzL] at h; exact h.elim
  | x :: xs, u :: us, ps, e, h => by
    rw [FzL] at h
    rw [D.pyL] at e
    split at e
    · rename_i a as e1 e2
      cases e
      exact .cons (dp_of x u a e1 h.1) (dpL_of xs us as e2 h.2)
    · cases e
end
/-- == -/
def D.eq? (x y : D) : Option Bool := match x, y with
  | .int i, .int j => some (i == j)
  | .str i, .str j => some (i == j)
  | .bl i, .bl j => some (i == j)
  | x, y => match x.py, y.py with
    | some a, some b => if SeqAt.shaped a = true ∧ SeqAt.shaped b = true then some (PyData.eqv a b) else none
    | _, _ => none
def gEq (x y : D) : Option E := (x.eq? y).map eBl
def gNe (x y : D) : Option E := (x.eq? y).map fun b => eBl (!b)
theorem dec_beq {α : Type} [DecidableEq α] (i j : α) : decide (i = j) = (i == j) := by
  rw [Bool.eq_iff_iff]; simp
theorem eq_cases {x y : D} {b : Bool} (h : x.eq? y = some b) : (∃ i j, x = .int i ∧ y = .int j ∧ b = (i == j)) ∨ (∃ i j, x = .str i ∧ y = .str j ∧ b = (i == j)) ∨ (∃ i j, x = .bl i ∧ y = .bl j ∧ b = (i == j)) ∨
    ∃ p q, x.py = some p ∧ y.py = some q ∧ SeqAt.shaped p = true ∧ SeqAt.shaped q = true ∧ b = PyData.eqv p q := by
  unfold D.eq? at h
  split at h
  · cases h; exact .inl ⟨_, _, rfl, rfl, rfl⟩
  · cases h; exact .inr (.inl ⟨_, _, rfl, rfl, rfl⟩)
  · cases h; exact .inr (.inr (.inl ⟨_, _, rfl, rfl, rfl⟩))
  · split at h
    · rename_i p q e1 e2
      split at h
      · rename_i hs
        cases h
        exact .inr (.inr (.inr ⟨p, q, e1, e2, hs.1, hs.2, rfl⟩))
      · cases h
    · cases h
abbrev rEqA (K : PySem.W.Frag) : R2 := fun x y H Q => rEq x y H Q ∨ rEqD K x y H Q
abbrev rNeA (K : PySem.W.Frag) : R2 := fun x y H Q => rNe x y H Q ∨ rNeD K x y H Q
theorem op_eqA {X : Cx} (hu : X.A.units + 64 < cLine) : OpR X (compareOp .Eq) (rEqA X.K) := op_eq.or (op_eqD hu)
theorem op_neA {X : Cx} (hu : X.A.units + 64 < cLine) : OpR X (compareOp .NotEq) (rNeA X.K) := op_ne.or (op_neD hu)
theorem eq_snd : Snd2 B gEq (rEqA B.K) := by
  intro x y v a b G H Q e s hx hy q
  obtain ⟨k, e1, rfl⟩ := Option.map_eq_some_iff.mp e
  have fin := q _ _ _ (.scalar s (fz_bl k))
  rcases eq_cases e1 with ⟨i, j, rfl, rfl, rfl⟩ | ⟨i, j, rfl, rfl, rfl⟩ | ⟨i, j, rfl, rfl, rfl⟩ | ⟨p, r, e2, e3, s1, s2, rfl⟩
  · rw [tz_int hx, tz_int hy]; exact .inl ⟨rfl, by rw [dec_int]; exact fin⟩
  · rw [tz_str hx, tz_str hy]; exact .inl ⟨rfl, by rw [dec_str]; exact fin⟩
  · rw [tz_bl hx, tz_bl hy]; exact .inl ⟨rfl, by rw [dec_bl]; exact fin⟩
  · exact .inr ⟨p, r, dp_of _ _ _ e2 (hx.fz s), dp_of _ _ _ e3 (hy.fz s), s1, s2, fin⟩
theorem ne_snd : Snd2 B gNe (rNeA B.K) := by
  intro x y v a b G H Q e s hx hy q
  obtain ⟨k, e1, rfl⟩ := Option.map_eq_some_iff.mp e
  have fin := q _ _ _ (.scalar s (fz_bl (!k)))
  rcases eq_cases e1 with ⟨i, j, rfl, rfl, rfl⟩ | ⟨i, j, rfl, rfl, rfl⟩ | ⟨i, j, rfl, rfl, rfl⟩ | ⟨p, r, e2, e3, s1, s2, rfl⟩
  · rw [tz_int hx, tz_int hy]; exact .inl ⟨rfl, by rw [dec_int]; exact fin⟩
  · rw [tz_str hx, tz_str hy]; exact .inl ⟨rfl, by rw [dec_str]; exact fin⟩
  · rw [tz_bl hx, tz_bl hy]; exact .inl ⟨rfl, by rw [dec_bl]; exact fin⟩
  · exact .inr ⟨p, r, dp_of _ _ _ e2 (hx.fz s), dp_of _ _ _ e3 (hy.fz s), s1, s2, fin⟩
/-! ### order -/
def gLt : D → D → Option E
  | .int i, .int j => some (eBl (decide (i < j)))
  | .str i, .str j => some (eBl (decide (i.cps.toList < j.cps.toList)))
  | _, _ => none
def gLe : D → D → Option E
  | .int i, .int j => some (eBl (decide (i ≤ j)))
  | .str i, .str j => some (eBl (!decide (j.cps.toList < i.cps.toList)))
  | _, _ => none
def gGt : D → D → Option E
  | .int i, .int j => some (eBl (decide (j < i)))
  | _, _ => none
def gGe : D → D → Option E
  | .int i, .int j => some (eBl (decide (j ≤ i)))
  | _, _ => none
theorem gt_snd : Snd2 B gGt (rI0 fun i j => .bl (decide (j < i))) := by
  intro x y v a b G H Q e s hx hy q
  cases x <;> cases y <;> simp [gGt] at e
  subst e
  exact ⟨_, _, tz_int hx, tz_int hy, q _ _ _ (.scalar s (fz_bl _))⟩
theorem ge_snd : Snd2 B gGe (rI0 fun i j => .bl (decide (j ≤ i))) := by
  intro x y v a b G H Q e s hx hy q
  cases x <;> cases y <;> simp [gGe] at e
  subst e
  exact ⟨_, _, tz_int hx, tz_int hy, q _ _ _ (.scalar s (fz_bl _))⟩
abbrev rLtA : R2 := fun x y H Q => (rI0 fun i j => .bl (decide (i < j))) x y H Q ∨ (∃ i j, x = .str i ∧ y = .str j ∧ Q (.bl (decide (i.cps.toList < j.cps.toList))) H)
theorem op_ltA {X : Cx} : OpR X (compareOp .Lt) rLtA := op_lt.or op_lt_str
theorem lt_snd : Snd2 B gLt rLtA := by
  intro x y v a b G H Q e s hx hy q
  cases x <;> cases y <;> simp only [gLt, Option.some.injEq, reduceCtorEq] at e
  · subst e; exact .inl ⟨_, _, tz_int hx, tz_int hy, q _ _ _ (.scalar s (fz_bl _))⟩
  · subst e; exact .inr ⟨_, _, tz_str hx, tz_str hy, q _ _ _ (.scalar s (fz_bl _))⟩
abbrev rLeA : R2 := fun x y H Q => (rI0 fun i j => .bl (decide (i ≤ j))) x y H Q ∨ (∃ i j, x = .str i ∧ y = .str j ∧ Q (.bl (!decide (j.cps.toList < i.cps.toList))) H)
theorem op_leA {X : Cx} : OpR X (compareOp .LtE) rLeA := op_le.or op_le_str
theorem le_snd : Snd2 B gLe rLeA := by
  intro x y v a b G H Q e s hx hy q
  cases x <;> cases y <;> simp only [gLe, Option.some.injEq, reduceCtorEq] at e
  · subst e; exact .inl ⟨_, _, tz_int hx, tz_int hy, q _ _ _ (.scalar s (fz_bl _))⟩
  · subst e; exact .inr ⟨_, _, tz_str hx, tz_str hy, q _ _ _ (.scalar s (fz_bl _))⟩
/-! ### in -/
def D.flat : D → Bool
  | .non => true
  | .bl _ => true
  | .int _ => true
  | .str _ => true
  | _ => false
/-- == of flat contents -/
def D.eqf : D → D → Bool
  | .non, .non => true
  | .bl a, .bl b => a == b
  | .bl a, .int b => (if a then 1 else 0) == b
  | .int a, .bl b => a == (if b then 1 else 0)
  | .int a, .int b => a == b
  | .str a, .str b => a == b
  | _, _ => false
def D.inF (x : D) (xs : List D) : Bool := xs.any fun y => D.eqf y x
def D.key? : D → Option Key
  | .int i => some (.inl i)
  | .str x => some (.inr x)
  | _ => none
def kget (kvs : List (Key × D)) (k : Key) : Option D := (kvs.find? fun kv => decide (kv.1 = k)).map (·.2)
def D.in? : D → D → Option Bool
  | .str c, .str z => match c.cps.toList with
    | [k] => some (decide (k ∈ z.cps.toList))
    | _ => none
  | x, .lst ys => if x.flat = true ∧ ys.all D.flat = true then some (x.inF ys) else none
  | x, .tup ys => if x.flat = true ∧ ys.all D.flat = true then some (x.inF ys) else none
  | x, .dct kvs => x.key?.map fun k => (kget kvs k).isSome
  | .str z, .cd kvs => some (kvs.lookup z).isSome
  | _, _ => none
def gIn (x y : D) : Option E := (x.in? y).map eBl
def gNi (x y : D) : Option E := (x.in? y).map fun b => eBl (!b)
theorem flat_v {G : Hp} {x : D} {u : V} (h : Fz B G u x) (f : x.flat = true) : flatV u = true := by
  cases x <;> simp [D.flat] at f <;> rw [Fz] at h <;> subst h <;> rfl
theorem flats_v {G : Hp} : ∀ {ds : List D} {us : List V}, FzL B G us ds → ds.all D.flat = true → us.all flatV = true
  | [], [], _, _ => rfl
  | [], _ :: _, h, _ => by rw [FzL] at h; exact h.elim
  | _ :: _, [], h, _ => by rw [FzL] at h; exact h.elim
  | d :: ds, u :: us, h, f => by
    rw [FzL] at h
    rw [List.all_cons, Bool.and_eq_true] at f ⊢
    exact ⟨flat_v h.1 f.1, flats_v h.2 f.2⟩
theorem eqf_v {G : Hp} {x y : D} {u v : V} (h : Fz B G u x) (h' : Fz B G v y) (f : x.flat = true) (f' : y.flat = true) : eqV u v = x.eqf y := by
  cases x <;> simp [D.flat] at f <;> rw [Fz] at h <;> subst h <;> cases y <;> simp [D.flat] at f' <;> rw [Fz] at h' <;> subst h' <;> rfl
theorem inF_v {G : Hp} {x : D} {v : V} (h : Fz B G v x) (f : x.flat = true) : ∀ {ds : List D} {us : List V}, FzL B G us ds → ds.all D.flat = true → inV v us = x.inF ds
  | [], [], _, _ => rfl
  | [], _ :: _, h, _ => by rw [FzL] at h; exact h.elim
  | _ :: _, [], h, _ => by rw [FzL] at h; exact h.elim
  | d :: ds, u :: us, h1, f1 => by
    rw [FzL] at h1
    rw [List.all_cons, Bool.and_eq_true] at f1
    have q := inF_v h f h1.2 f1.2
    unfold inV D.inF at q ⊢
    rw [List.any_cons, List.any_cons, eqf_v h1.1 h f1.1 f, q]
theorem key_v {G : Hp} {x : D} {u : V} {k : Key} (h : Fz B G u x) (e : x.key? = some k) : u = kV k := by
  cases x <;> simp [D.key?] at e <;> subst e <;> rw [Fz] at h <;> exact h
theorem kget_v {G : Hp} {k : Key} : ∀ {ds : List (Key × D)} {kvs : List (Key × V)}, FzK B G kvs ds → match kget ds k with
    | some d => ∃ v, valV kvs k = some v ∧ Fz B G v d
    | none => valV kvs k = none
  | [], [], _ => rfl
  | [], _ :: _, h => by rw [FzK] at h; exact h.elim
  | _ :: _, [], h => by rw [FzK] at h; exact h.elim
  | d :: ds, p :: kvs, h => by
    rw [FzK] at h
    by_cases hk : d.1 = k
    · have e1 : kget (d :: ds) k = some d.2 := by unfold kget; rw [List.find?_cons_of_pos (by simpa using hk)]; rfl
      rw [e1]
      exact ⟨p.2, valV_pos (h.1.trans hk), h.2.1⟩
    · have e1 : kget (d :: ds) k = kget ds k := by unfold kget; rw [List.find?_cons_of_neg (by simpa using hk)]
      rw [e1, valV_neg (fun z => hk (h.1.symm.trans z))]
      exact kget_v h.2.2
theorem kget_some {G : Hp} {k : Key} {ds : List (Key × D)} {kvs : List (Key × V)} {d : D} (h : FzK B G kvs ds) (e : kget ds k = some d) : ∃ v, valV kvs k = some v ∧ Fz B G v d := by
  have := kget_v (k := k) h
  rw [e] at this; exact this
theorem kget_none {G : Hp} {k : Key} {ds : List (Key × D)} {kvs : List (Key × V)} (h : FzK B G kvs ds) (e : kget ds k = none) : valV kvs k = none := by
  have := kget_v (k := k) h
  rw [e] at this; exact this
theorem kget_isSome {G : Hp} {k : Key} {ds : List (Key × D)} {kvs : List (Key × V)} (h : FzK B G kvs ds) : (valV kvs k).isSome = (kget ds k).isSome := by
  cases e : kget ds k with
  | some d => obtain ⟨v, e1, _⟩ := kget_some h e; rw [e1]; rfl
  | none => rw [kget_none h e]; rfl
/-- a written dict is looked up -/
theorem cd_get {G : Hp} {a : Addr} {z : Str} : ∀ {kvs : List (Str × D)} {d : D}, FzC B G a kvs → kvs.lookup z = some d → ∃ u v, PySem.W.nsIn B.K a z = some (some u) ∧ RelV v u ∧ Fz B G v d
  | [], _, _, e => by cases e
  | p :: kvs, d, h, e => by
    rw [FzC] at h
    rw [List.lookup_cons] at e
    split at e
    · rename_i hb
      have hz : z = p.1 := by simpa using hb
      cases e
      subst hz
      exact h.1
    · exact cd_get h.2 e
/-- in, for any of these -/
def rInA (K : PySem.W.Frag) (w : World) (neg : Bool) : R2 := fun x y H Q => ∃ b, Q (.bl (if neg then !b else b)) H ∧
  ((∃ c : Nat, ∃ z : Str, ∃ s : Str, x = .str s ∧ s.cps.toList = [c] ∧ y = .str z ∧ b = decide (c ∈ z.cps.toList)) ∨
   (∃ p xs, y = .ref p ∧ (SqL K H p xs ∨ SqT K H p xs) ∧ flatV x = true ∧ xs.all flatV = true ∧ b = inV x xs) ∨
   (∃ p kvs k, y = .ref p ∧ H p = some (.dK kvs) ∧ x = kV k ∧ b = (valV kvs k).isSome) ∨
   (∃ p es n z r, y = .ref p ∧ KDict K w p es n ∧ x = .str z ∧ PySem.W.nsIn K p z = some r ∧ b = r.isSome))
theorem op_inA {X : Cx} (hu : X.A.units + 64 < cLine) : OpR X (compareOp .In) (rInA X.K X.w false) := by
  intro pins s σ H x y v u Q I rx ry h
  obtain ⟨b, q, h | h | h | h⟩ := h
  · obtain ⟨c, z, sg, rfl, e, rfl, rfl⟩ := h
    have es : sg = ⟨#[c]⟩ := by
      cases sg with
      | mk cps => simp at e; congr 1; apply Array.toList_inj.mp; simpa using e
    subst es
    exact op_in_sign pins s σ H _ _ v u Q I rx ry ⟨c, z, rfl, rfl, q⟩
  · obtain ⟨p, xs, rfl, hq, f1, f2, rfl⟩ := h
    exact op_in_seq pins s σ H _ _ v u Q I rx ry ⟨p, xs, rfl, hq, f1, f2, q⟩
  · obtain ⟨p, kvs, k, rfl, hq, rfl, rfl⟩ := h
    obtain rfl : u = Value.ref p := ry
    exact d_in (by omega) I (DGet.k hq) rx fun s' I' => ⟨.bl _, H, I', rfl, q⟩
  · obtain ⟨p, es, n, z, r, rfl, kd, rfl, e, rfl⟩ := h
    exact op_in_kd kd pins s σ H _ _ v u Q I rx ry ⟨z, r, rfl, rfl, e, q⟩
theorem op_niA {X : Cx} (hu : X.A.units + 64 < cLine) : OpR X (compareOp .NotIn) (rInA X.K X.w true) := by
  intro pins s σ H x y v u Q I rx ry h
  obtain ⟨b, q, h | h | h | h⟩ := h
  · obtain ⟨c, z, sg, rfl, e, rfl, rfl⟩ := h
    have es : sg = ⟨#[c]⟩ := by
      cases sg with
      | mk cps => simp at e; congr 1; apply Array.toList_inj.mp; simpa using e
    subst es
    exact op_notIn_sign pins s σ H _ _ v u Q I rx ry ⟨c, z, rfl, rfl, q⟩
  · obtain ⟨p, xs, rfl, hq, f1, f2, rfl⟩ := h
    exact op_notIn_seq pins s σ H _ _ v u Q I rx ry ⟨p, xs, rfl, hq, f1, f2, q⟩
  · obtain ⟨p, kvs, k, rfl, hq, rfl, rfl⟩ := h
    obtain rfl : u = Value.ref p := ry
    exact d_notIn (by omega) I (DGet.k hq) rx fun s' I' => ⟨.bl _, H, I', rfl, q⟩
  · obtain ⟨p, es, n, z, r, rfl, kd, rfl, e, rfl⟩ := h
    exact op_notIn_kd kd pins s σ H _ _ v u Q I rx ry ⟨z, r, rfl, rfl, e, q⟩
theorem in_any {x y : D} {b : Bool} {u v : V} {G H : Hp} (e : x.in? y = some b) (s : Same G H) (hx : Tz B G H u x) (hy : Tz B G H v y) :
    (∃ c : Nat, ∃ z : Str, ∃ s : Str, u = .str s ∧ s.cps.toList = [c] ∧ v = .str z ∧ b = decide (c ∈ z.cps.toList)) ∨
   (∃ p xs, v = .ref p ∧ (SqL B.K H p xs ∨ SqT B.K H p xs) ∧ flatV u = true ∧ xs.all flatV = true ∧ b = inV u xs) ∨
   (∃ p kvs k, v = .ref p ∧ H p = some (.dK kvs) ∧ u = kV k ∧ b = (valV kvs k).isSome) ∨
   (∃ p es n z r, v = .ref p ∧ KDict B.K B.w p es n ∧ u = .str z ∧ PySem.W.nsIn B.K p z = some r ∧ b = r.isSome) := by
  unfold D.in? at e
  split at e
  · split at e
    · rename_i k hk
      cases e
      exact .inl ⟨k, _, _, tz_str hx, hk, tz_str hy, rfl⟩
    · cases e
  · split at e
    · rename_i ys hf
      cases e
      obtain ⟨p, xs, rfl, h1, h2⟩ := hy
      have h2 := FzL.mono s _ _ h2
      have hx' := hx.fz s
      exact .inr (.inl ⟨p, xs, rfl, .inl (SqL.of h1), flat_v hx' hf.1, flats_v h2 hf.2, (inF_v hx' hf.1 h2 hf.2).symm⟩)
    · cases e
  · split at e
    · rename_i ys hf
      cases e
      obtain ⟨p, xs, rfl, h1, h2⟩ := tz_tup hy
      have h2 := FzL.mono s _ _ h2
      have hx' := hx.fz s
      exact .inr (.inl ⟨p, xs, rfl, .inr (Same.sqt s h1), flat_v hx' hf.1, flats_v h2 hf.2, (inF_v hx' hf.1 h2 hf.2).symm⟩)
    · cases e
  · obtain ⟨k, e1, rfl⟩ := Option.map_eq_some_iff.mp e
    obtain ⟨p, kvs, rfl, h1, h2⟩ := hy
    exact .inr (.inr (.inl ⟨p, kvs, k, rfl, h1, key_v (hx.fz s) e1, (kget_isSome h2).symm⟩))
  · cases e
    rename_i z kvs
    have hy : Fz B G v (.cd kvs) := hy
    rw [Fz] at hy
    obtain ⟨a, rfl, ⟨⟨es, n, kd⟩, hn⟩, hc⟩ := hy
    cases el : kvs.lookup z with
    | some d =>
      obtain ⟨u0, v0, e0, _, _⟩ := cd_get hc el
      exact .inr (.inr (.inr ⟨a, es, n, z, _, rfl, kd, tz_str hx, e0, rfl⟩))
    | none => exact .inr (.inr (.inr ⟨a, es, n, z, _, rfl, kd, tz_str hx, hn z el, rfl⟩))
  · cases e
theorem in_snd : Snd2 B gIn (rInA B.K B.w false) := by
  intro x y v a b G H Q e s hx hy q
  obtain ⟨k, e1, rfl⟩ := Option.map_eq_some_iff.mp e
  exact ⟨k, q _ _ _ (.scalar s (fz_bl k)), in_any e1 s hx hy⟩
theorem ni_snd : Snd2 B gNi (rInA B.K B.w true) := by
  intro x y v a b G H Q e s hx hy q
  obtain ⟨k, e1, rfl⟩ := Option.map_eq_some_iff.mp e
  exact ⟨k, q _ _ _ (.scalar s (fz_bl (!k))), in_any e1 s hx hy⟩
/-! ### is -/
def D.is? : D → D → Option Bool
  | .bl a, .bl b => some (decide (a = b))
  | .non, .non => some true
  | .bl _, .non => some false
  | .int _, .non => some false
  | .str _, .non => some false
  | .tup _, .non => some false
  | .lst _, .non => some false
  | .dct _, .non => some false
  | _, _ => none
def gIs (x y : D) : Option E := (x.is? y).map eBl
def gIsn (x y : D) : Option E := (x.is? y).map fun b => eBl (!b)
abbrev rIsA : R2 := fun x y H Q => (y = .non ∧ Q (.bl (decide (x = .non))) H) ∨ rIsB x y H Q
abbrev rIsnA : R2 := fun x y H Q => (y = .non ∧ Q (.bl (!decide (x = .non))) H) ∨ rNotB x y H Q
theorem op_isA {X : Cx} : OpR X (compareOp .Is) rIsA := op_isN.or op_isBl
theorem op_isnA {X : Cx} : OpR X (compareOp .IsNot) rIsnA := op_notN.or op_notBl
theorem is_any {x y : D} {b : Bool} {u v : V} {G H : Hp} (e : x.is? y = some b) (hx : Tz B G H u x) (hy : Tz B G H v y) :
    (v = .non ∧ b = decide (u = .non)) ∨ ∃ p q : Bool, u = .bl p ∧ v = .bl q ∧ b = decide (p = q) := by
  unfold D.is? at e
  split at e <;> cases e
  · exact .inr ⟨_, _, tz_bl hx, tz_bl hy, rfl⟩
  · exact .inl ⟨tz_non hy, by rw [tz_non hx]; simp⟩
  · exact .inl ⟨tz_non hy, by rw [tz_bl hx]; simp⟩
  · exact .inl ⟨tz_non hy, by rw [tz_int hx]; simp⟩
  · exact .inl ⟨tz_non hy, by rw [tz_str hx]; simp⟩
  · obtain ⟨p, xs, rfl, _⟩ := tz_tup hx; exact .inl ⟨tz_non hy, by simp⟩
  · obtain ⟨p, xs, rfl, _⟩ := hx; exact .inl ⟨tz_non hy, by simp⟩
  · obtain ⟨p, xs, rfl, _⟩ := hx; exact .inl ⟨tz_non hy, by simp⟩
theorem is_snd : Snd2 B gIs rIsA := by
  intro x y v a b G H Q e s hx hy q
  obtain ⟨k, e1, rfl⟩ := Option.map_eq_some_iff.mp e
  have fin := q _ _ _ (.scalar s (fz_bl k))
  rcases is_any e1 hx hy with ⟨h1, h2⟩ | ⟨p, r, h1, h2, h3⟩
  · exact .inl ⟨h1, by rw [← h2]; exact fin⟩
  · exact .inr ⟨p, r, h1, h2, by rw [← h3]; exact fin⟩
theorem isn_snd : Snd2 B gIsn rIsnA := by
  intro x y v a b G H Q e s hx hy q
  obtain ⟨k, e1, rfl⟩ := Option.map_eq_some_iff.mp e
  have fin := q _ _ _ (.scalar s (fz_bl (!k)))
  rcases is_any e1 hx hy with ⟨h1, h2⟩ | ⟨p, r, h1, h2, h3⟩
  · exact .inl ⟨h1, by rw [← h2]; exact fin⟩
  · exact .inr ⟨p, r, h1, h2, by rw [← h3]; exact fin⟩
/-! ### a place -/
def gIx : D → D → Option E
  | .lst xs, .int i => (atI xs i).map .d
  | .tup xs, .int i => (atI xs i).map .d
  | .scr ns, .int i => (atI ns i).map eInt
  | .str z, .int i => if z.length ≤ sizeLine then (atI z.cps.toList i).map (fun c => eStr ⟨#[c]⟩) else none
  | .dct kvs, k => k.key?.bind fun k => (kget kvs k).map .d
  | .cd kvs, .str z => (kvs.lookup z).map .d
  | _, _ => none
theorem atI_map {α β : Type} {f : α → β} {xs : List α} {i : Int} : atI (xs.map f) i = (atI xs i).map f := by
  unfold atI
  rw [List.length_map]
  cases ixN xs.length i with
  | none => rfl
  | some j => simp
theorem FzL.at {G : Hp} {ds : List D} {us : List V} {i : Int} {d : D} (h : FzL B G us ds) (e : atI ds i = some d) : ∃ u, atI us i = some u ∧ Fz B G u d := by
  unfold atI at e ⊢
  rw [h.length]
  cases hx : ixN ds.length i with
  | none => rw [hx] at e; cases e
  | some j =>
    rw [hx] at e
    exact h.get (i := j) e
def rIxDK : R2 := fun x y H Q => ∃ p kvs k v, x = .ref p ∧ y = kV k ∧ H p = some (.dK kvs) ∧ valV kvs k = some v ∧ Q v H
theorem ix_dK {X : Cx} (hu : X.A.units + 64 < cLine) : IxR X rIxDK := by
  intro value slice pins s σ H x y v u Q I rx ry h hs
  obtain ⟨p, kvs, k, z, rfl, rfl, hp, hv, q⟩ := h
  obtain rfl : v = Value.ref p := rx
  have g : DGet H p (kV k) (some z) := by rw [← hv]; exact DGet.k hp
  exact tail_any (dict_typeIs I g) PySem.F.slot_dict_getitem.lookup (d_getItem (by omega) I g ry fun w' s' I' r' => ⟨z, H, I', r', q⟩) hs
abbrev rIxA (K : PySem.W.Frag) (w : World) : R2 := fun x y H Q => (rIx K x y H Q ∨ rIxDK x y H Q) ∨ rIxD K w x y H Q
theorem ix_any {X : Cx} (hu : X.A.units + 64 < cLine) : IxR X (rIxA X.K X.w) := (ix_seq.or (ix_dK hu)).or ix_kdict
theorem ix_snd : Snd2 B gIx (rIxA B.K B.w) := by
  intro x y v a b G H Q e s hx hy q
  unfold gIx at e
  split at e
  · obtain ⟨d, e1, rfl⟩ := Option.map_eq_some_iff.mp e
    obtain ⟨p, us, rfl, h1, h2⟩ := hx
    obtain ⟨u, e2, hf⟩ := h2.at e1
    exact .inl (.inl (.inl ⟨p, us, _, u, rfl, tz_int hy, SqL.of h1, e2, q _ _ _ (.scalar s hf)⟩))
  · obtain ⟨d, e1, rfl⟩ := Option.map_eq_some_iff.mp e
    obtain ⟨p, us, rfl, h1, h2⟩ := tz_tup hx
    obtain ⟨u, e2, hf⟩ := h2.at e1
    exact .inl (.inl (.inr (.inl ⟨p, us, _, u, rfl, tz_int hy, Same.sqt s h1, e2, q _ _ _ (.scalar s hf)⟩)))
  · rename_i ns i
    obtain ⟨d, e1, rfl⟩ := Option.map_eq_some_iff.mp e
    have hx : Fz B G a (.scr ns) := hx
    rw [Fz] at hx
    obtain ⟨p, rfl, h1⟩ := hx
    exact .inl (.inl (.inl ⟨p, _, _, .int d, rfl, tz_int hy, Same.seq s h1, by rw [atI_map, e1]; rfl, q _ _ _ (.scalar s (fz_int _))⟩))
  · split at e
    · rename_i hz
      obtain ⟨c, e1, rfl⟩ := Option.map_eq_some_iff.mp e
      exact .inl (.inl (.inr (.inr ⟨_, _, c, tz_str hx, tz_int hy, hz, e1, q _ _ _ (.scalar s (fz_str _))⟩)))
    · cases e
  · obtain ⟨k, e1, e2⟩ := Option.bind_eq_some_iff.mp e
    obtain ⟨d, e3, rfl⟩ := Option.map_eq_some_iff.mp e2
    obtain ⟨p, kvs, rfl, h1, h2⟩ := hx
    obtain ⟨w, e4, hf⟩ := kget_some h2 e3
    exact .inl (.inr ⟨p, kvs, k, w, rfl, key_v (hy.fz s) e1, h1, e4, q _ _ _ (.scalar s hf)⟩)
  · rename_i kvs z
    obtain ⟨d, e1, rfl⟩ := Option.map_eq_some_iff.mp e
    have hx : Fz B G a (.cd kvs) := hx
    rw [Fz] at hx
    obtain ⟨p, rfl, ⟨⟨es, n, kd⟩, hn⟩, hc⟩ := hx
    obtain ⟨u0, v0, e0, r0, f0⟩ := cd_get hc e1
    exact .inr ⟨p, z, v0, rfl, tz_str hy, ⟨es, n, u0, kd.at_, kd.lit, e0, r0⟩, q _ _ _ (.scalar s f0)⟩
  · cases e
end
end L2.AL
/-! A4: tests, displays, slices, built-in calls. -/
namespace L2.AL
open PySem PySem.Spec PyProof.Rows
section
variable {X : Cx} {W : WX'} {a b c e : Expr} {rest es : List Expr} {fa fb fc : List S → Res E} {ta tb : List S → Res Bool} {fs : List S → Res (List E)} {pos : Pos}
/-! ### tests -/
/-- a value that is a truth, as a test -/
def aT (f : List S → Res E) : List S → Res Bool := fun ρ => (f ρ).bind fun v ρ1 => match v with
  | .d (.bl b) => .ok b ρ1
  | _ => .no
theorem aT_imp {B : Bk} {σ : St} {H : Hp} {Q : Bool → Hp → Prop} {f : List S → Res E} (h : liftT B W (aT f) σ H Q) : lift B W f σ H (fun x H' => ∃ k, x = .bl k ∧ Q k H') := by
  obtain ⟨G, ρ, r, h⟩ := h
  refine lift_mono (lift_first r (AftT.cl (Q := Q)) h) fun u H1 ⟨v, ρ1, G1, P, h1⟩ => ?_
  obtain ⟨x, e, re⟩ := P.re 0 v rfl
  cases e
  split at h1
  · rename_i k
    have re : Fz B G1 u (.bl k) := re
    rw [Fz] at re
    exact ⟨k, re, h1 _ _ P.post⟩
  · exact h1.elim
theorem a_tval {f : List S → Res E} (h : PEa X W a f) (he : ∀ whole, isTrue a X.env whole = (do let v ← whole; standAt a.pos; holding [v] (truthy v)) := by intro _; rfl) : PTa X W a (aT f) :=
  pt_imp (pt_val h he) fun σ H Q q => aT_imp q
theorem a_tcmp {op : CmpOp} {g : D → D → Option E} {r : R2} (ho : OpR X (compareOp op) r) (sn : Snd2 X.bk g r) (ha : PEa X W a fa) (hb : PEa X W b fb) (hm : behindInMarks op b = false := by first | exact nomark _ | rfl) : PTa X W (.Compare a [op] [b] pos) (aT (aOp2 g fa fb)) :=
  pt_imp (pt_cmpR ho ha hb hm) fun σ H Q q => op2_imp sn σ H _ (aT_imp q)
/-- truth of contents -/
def D.truth : D → Option Bool
  | .non => some false
  | .bl b => some b
  | .int i => some (i != 0)
  | .str x => if x.length ≤ sizeLine then some ((x.length : Int) != 0) else none
  | .lst xs => some (!xs.isEmpty)
  | .tup xs => some (!xs.isEmpty)
  | .dct xs => some (!xs.isEmpty)
  | _ => none
def aTruth (f : List S → Res E) : List S → Res Bool := fun ρ => (f ρ).bind fun v ρ1 => match (v.val ρ1).bind D.truth with
  | some b => .ok b ρ1
  | none => .no
theorem FzL.isEmpty {B : Bk} {G : Hp} {us : List V} {ds : List D} (h : FzL B G us ds) : us.isEmpty = ds.isEmpty := by
  have := h.length
  cases us <;> cases ds <;> simp_all
theorem FzK.isEmpty {B : Bk} {G : Hp} {us : List (Key × V)} {ds : List (Key × D)} (h : FzK B G us ds) : us.isEmpty = ds.isEmpty := by
  cases us <;> cases ds <;> first | rfl | (rw [FzK] at h; exact h.elim)
theorem truth_v {B : Bk} {G H : Hp} {x : D} {u : V} {k : Bool} (s : Same G H) (h : Tz B G H u x) (e : x.truth = some k) : TruV B.K u H k := by
  cases x <;> simp only [D.truth, Option.some.injEq, reduceCtorEq] at e
  · rw [tz_non h]; exact e.symm
  · rw [tz_bl h]; exact e.symm
  · rw [tz_int h]; exact e.symm
  · rw [tz_str h]
    split at e
    · rename_i hz; cases e; exact ⟨hz, rfl⟩
    · cases e
  · obtain ⟨p, xs, rfl, h1, h2⟩ := tz_tup h
    exact .inr (.inl ⟨xs, Same.sqt s h1, by rw [h2.isEmpty]; exact e.symm⟩)
  · obtain ⟨p, xs, rfl, h1, h2⟩ := h
    exact .inl ⟨xs, SqL.of h1, by rw [h2.isEmpty]; exact e.symm⟩
  · obtain ⟨p, xs, rfl, h1, h2⟩ := h
    exact .inr (.inr ⟨xs, h1, by rw [h2.isEmpty]; exact e.symm⟩)
theorem a_truth {f : List S → Res E} (h : PEa X W a f) (he : ∀ whole, isTrue a X.env whole = (do let v ← whole; standAt a.pos; holding [v] (truthy v)) := by intro _; rfl) : PTa X W a (aTruth f) :=
  pt_imp (pt_truth h he) fun σ H Q ⟨G, ρ, r, h⟩ => by
    refine lift_mono (lift_first r (AftT.cl (Q := Q)) h) fun u H1 ⟨v, ρ1, G1, P, h1⟩ => ?_
    obtain ⟨x, e, re⟩ := P.re 0 v rfl
    cases e
    split at h1
    · rename_i k hk
      obtain ⟨d, e1, e2⟩ := Option.bind_eq_some_iff.mp hk
      exact ⟨k, truth_v P.post.rel.sub (P.post.rel.val re e1) e2, h1 _ _ P.post⟩
    · exact h1.elim
def aNotT (t : List S → Res Bool) : List S → Res Bool := fun ρ => (t ρ).bind fun c ρ1 => .ok (!c) ρ1
theorem a_notT (h : PTa X W a ta) : PTa X W (.UnaryOp .Not a pos) (aNotT ta) :=
  pt_imp (pt_not h) fun σ H Q ⟨G, ρ, r, h⟩ => by
    refine liftT_mono (liftT_next (Pend.nil r) (AftT.cl (Q := Q)) h) fun c H1 ⟨ρ1, G1, p, h1⟩ => h1 _ _ p
def aAndT (t u : List S → Res Bool) : List S → Res Bool := fun ρ => (t ρ).bind fun c ρ1 => if c = true then u ρ1 else .ok false ρ1
def aOrT (t u : List S → Res Bool) : List S → Res Bool := fun ρ => (t ρ).bind fun c ρ1 => if c = true then .ok true ρ1 else u ρ1
abbrev PWa (X : Cx) (W : WX') (e : Expr) (f : List S → Res Bool) : Prop := PW X e (liftT X.bk W f)
theorem pw_imp {e : Expr} {t t' : TT} (h : PW X e t) (w : ∀ σ H Q, t' σ H Q → t σ H Q) : PW X e t' := ⟨fun wh pins s σ H Q I q => h.run wh pins s σ H Q I (w σ H Q q)⟩
theorem a_and1 (h : PTa X W a ta) : PWa X W (.BoolOp .And [a] pos) ta := pw_and1 h
theorem a_or1 (h : PTa X W a ta) : PWa X W (.BoolOp .Or [a] pos) ta := pw_or1 h
/-- on from a test's end -/
theorem aftT_go {B : Bk} {σ : St} {ρ ρ1 : List S} {H H1 G G1 : Hp} {Q : Bool → Hp → Prop} {r : Res Bool} (p : Post B σ ρ H G σ ρ1 H1 G1) (h : AftT B W σ ρ H G Q r) : AftT B W σ ρ1 H1 G1 Q r := by
  cases r with
  | ok b ρ' => exact fun H' G' q => h H' G' (p.trans q)
  | ex x ρ' => exact Out.back h p
  | no => exact h
theorem fresh_back {B : Bk} {σ : St} {ρ ρ1 : List S} {H H1 G G1 : Hp} {u : V} {v : E} (p : Post B σ ρ H G σ ρ1 H1 G1) (h : Fresh H1 u v) : Fresh H u v := by
  cases v with
  | d x => trivial
  | sl i => trivial
  | fr o => exact fun a e => p.dom a (h a e)
theorem aft_go {B : Bk} {σ : St} {ρ ρ1 : List S} {H H1 G G1 : Hp} {Q : VK} {r : Res E} (p : Post B σ ρ H G σ ρ1 H1 G1) (h : Aft B W σ ρ H G Q r) : Aft B W σ ρ1 H1 G1 Q r := by
  cases r with
  | ok b ρ' => exact fun u H' G' q re fr => h u H' G' (p.trans q) re (fresh_back p fr)
  | ex x ρ' => exact Out.back h p
  | no => exact h
theorem a_andT (ha : PTa X W a ta) (hb : PWa X W (.BoolOp .And (b :: rest) pos) tb) : PWa X W (.BoolOp .And (a :: b :: rest) pos) (aAndT ta tb) :=
  pw_imp (pw_and ha hb) fun σ H Q ⟨G, ρ, r, h⟩ => by
    refine liftT_mono (liftT_next (Pend.nil r) (AftT.cl (Q := Q)) h) fun c H1 ⟨ρ1, G1, p, h1⟩ => ?_
    cases c with
    | true => rw [if_pos rfl] at h1 ⊢; exact ⟨G1, ρ1, p.rel, aftT_go p h1⟩
    | false => rw [if_neg Bool.false_ne_true] at h1 ⊢; exact h1 _ _ p
theorem a_orT (ha : PTa X W a ta) (hb : PWa X W (.BoolOp .Or (b :: rest) pos) tb) : PWa X W (.BoolOp .Or (a :: b :: rest) pos) (aOrT ta tb) :=
  pw_imp (pw_or ha hb) fun σ H Q ⟨G, ρ, r, h⟩ => by
    refine liftT_mono (liftT_next (Pend.nil r) (AftT.cl (Q := Q)) h) fun c H1 ⟨ρ1, G1, p, h1⟩ => ?_
    cases c with
    | false => rw [if_neg Bool.false_ne_true] at h1 ⊢; exact ⟨G1, ρ1, p.rel, aftT_go p h1⟩
    | true => rw [if_pos rfl] at h1 ⊢; exact h1 _ _ p
/-! ### and, or, not as values, a if t else b -/
def aAndV (f g : List S → Res E) : List S → Res E := fun ρ => (aT f ρ).bind fun c ρ1 => if c = true then g ρ1 else .ok (.d (.bl false)) ρ1
def aOrV (f g : List S → Res E) : List S → Res E := fun ρ => (aT f ρ).bind fun c ρ1 => if c = true then .ok (.d (.bl true)) ρ1 else g ρ1
def aNotV (f : List S → Res E) : List S → Res E := fun ρ => (aT f ρ).bind fun c ρ1 => .ok (.d (.bl (!c))) ρ1
/-- a first part that is a truth, then on -/
theorem aTV {B : Bk} {σ : St} {H G : Hp} {ρ : List S} {Q : VK} {f : List S → Res E} {k : Bool → List S → Res E} (r : Rel B G σ ρ H) (h : Aft B W σ ρ H G Q ((aT f ρ).bind k)) :
    lift B W f σ H (fun x H1 => ∃ c, x = .bl c ∧ ∃ ρ1 G1, Post B σ ρ H G σ ρ1 H1 G1 ∧ Aft B W σ ρ H G Q (k c ρ1)) := by
  refine aT_imp ⟨G, ρ, r, ?_⟩
  cases e : aT f ρ with
  | ok c ρ1 => rw [e] at h; exact fun H' G' p => ⟨ρ1, G', p, h⟩
  | ex x ρ1 => rw [e] at h; exact h
  | no => rw [e] at h; exact h
theorem a_one {op} (h : PEa X W a fa) : PEa X W (.BoolOp op [a] pos) fa := pe_one h
theorem a_andV (ha : PEa X W a fa) (hb : PEa X W (.BoolOp .And (b :: rest) pos) fb) : PEa X W (.BoolOp .And (a :: b :: rest) pos) (aAndV fa fb) :=
  pe_imp (pe_and ha hb) fun σ H Q ⟨G, ρ, r, h⟩ => by
    refine lift_mono (aTV r h) fun x H1 ⟨c, e, ρ1, G1, p, h1⟩ => ⟨c, e, ?_⟩
    cases c with
    | true => rw [if_pos rfl] at h1 ⊢; exact ⟨G1, ρ1, p.rel, aft_go p h1⟩
    | false => rw [if_neg Bool.false_ne_true] at h1 ⊢; exact h1.fin p (.scalar p.rel.sub (fz_bl _))
theorem a_orV (ha : PEa X W a fa) (hb : PEa X W (.BoolOp .Or (b :: rest) pos) fb) : PEa X W (.BoolOp .Or (a :: b :: rest) pos) (aOrV fa fb) :=
  pe_imp (pe_or ha hb) fun σ H Q ⟨G, ρ, r, h⟩ => by
    refine lift_mono (aTV r h) fun x H1 ⟨c, e, ρ1, G1, p, h1⟩ => ⟨c, e, ?_⟩
    cases c with
    | false => rw [if_neg Bool.false_ne_true] at h1 ⊢; exact ⟨G1, ρ1, p.rel, aft_go p h1⟩
    | true => rw [if_pos rfl] at h1 ⊢; exact h1.fin p (.scalar p.rel.sub (fz_bl _))
theorem a_notV (ha : PEa X W a fa) : PEa X W (.UnaryOp .Not a pos) (aNotV fa) :=
  pe_imp (pe_not ha) fun σ H Q ⟨G, ρ, r, h⟩ => by
    refine lift_mono (aTV r h) fun x H1 ⟨c, e, ρ1, G1, p, h1⟩ => ⟨c, e, ?_⟩
    exact h1.fin p (.scalar p.rel.sub (fz_bl _))
def aIf (t : List S → Res Bool) (f g : List S → Res E) : List S → Res E := fun ρ => (t ρ).bind fun c ρ1 => if c = true then f ρ1 else g ρ1
theorem a_ifx (hc : PTa X W c ta) (ha : PEa X W a fa) (hb : PEa X W b fb) : PEa X W (.IfExp c a b pos) (aIf ta fa fb) :=
  pe_imp (pe_ifExp hc ha hb) fun σ H Q ⟨G, ρ, r, h⟩ => by
    refine liftT_mono (liftT_next (Pend.nil r) (Aft.cl (Q := Q)) h) fun c H1 ⟨ρ1, G1, p, h1⟩ => ?_
    cases c with
    | true => rw [if_pos rfl] at h1 ⊢; exact ⟨G1, ρ1, p.rel, aft_go p h1⟩
    | false => rw [if_neg Bool.false_ne_true] at h1 ⊢; exact ⟨G1, ρ1, p.rel, aft_go p h1⟩
/-! ### a < b < c -/
/-- two operands, an answer that is a truth, then on -/
def aChain (g g' : D → D → Option E) (fa fb fc : List S → Res E) : List S → Res E := fun ρ => (fa ρ).bind fun va ρ1 => (fb ρ1).bind fun vb ρ2 =>
  match va.val ρ2, vb with
  | some x, .d y => match g x y with
    | some (.d (.bl true)) => (fc ρ2).bind fun vc ρ3 => app2 g' (.d y) vc ρ3
    | some (.d (.bl false)) => .ok (.d (.bl false)) ρ2
    | _ => .no
  | _, _ => .no
theorem chain_imp {B : Bk} {g g' : D → D → Option E} {r r' : R2} (sn : Snd2 B g r) (sn' : Snd2 B g' r') (nb : ∀ x y v, g x y = some v → ∃ k, v = eBl k) (σ : St) (H : Hp) (Q : VK) (h : lift B W (aChain g g' fa fb fc) σ H Q) :
    tChain r r' (lift B W fa) (lift B W fb) (lift B W fc) σ H Q := by
  obtain ⟨G, ρ, rl, h⟩ := h
  refine lift_mono (lift_first rl (Aft.cl (Q := Q)) h) fun u1 H1 ⟨va, ρa, Ga, P1, h1⟩ => ?_
  refine lift_mono (lift_next P1 (Aft.cl (Q := Q)) h1) fun u2 H2 ⟨vb, ρb, Gb, P2, h2⟩ => ?_
  obtain ⟨x1, ex1, rx1⟩ := P2.re 0 va rfl
  obtain ⟨x2, ex2, rx2⟩ := P2.re 1 vb rfl
  cases ex1
  cases ex2
  split at h2
  · rename_i dx dy hx
    have fy : Fz B Gb u2 dy := rx2
    have ty : Tz B Gb H2 u2 dy := Fz.tz P2.post.rel.sub fy
    cases eg : g dx dy with
    | none => rw [eg] at h2; exact h2.elim
    | some z =>
      refine sn dx dy z _ _ Gb H2 _ eg P2.post.rel.sub (P2.post.rel.val rx1 hx) ty fun w H' G' n => ?_
      obtain ⟨k, rfl⟩ := nb _ _ _ eg
      have hw : Fz B G' w (.bl k) := n.val
      rw [Fz] at hw
      obtain ⟨p3, _, _⟩ := n.post P2.post
      refine ⟨k, hw, ?_⟩
      rw [eg] at h2
      cases k with
      | false => rw [if_neg Bool.false_ne_true]; exact h2.fin p3 (.scalar p3.rel.sub (fz_bl _))
      | true =>
        rw [if_pos rfl]
        have pd : Pend B σ ρ H G ρb H' G' [u2] [.d dy] := by
          refine ⟨p3, rfl, fun i v e => ?_, fun i o a e => ?_, fun i j o o' a e => ?_⟩
          · cases i with
            | zero => cases e; exact ⟨u2, rfl, Fz.mono n.grow _ _ fy⟩
            | succ i => simp at e
          · cases i with
            | zero => cases e
            | succ i => simp at e
          · cases i with
            | zero => cases e
            | succ i => simp at e
        refine lift_mono (lift_next pd (Aft.cl (Q := Q)) h2) fun u3 H3 ⟨vc, ρc, Gc, P3, h3⟩ => ?_
        obtain ⟨x3, ex3, rx3⟩ := P3.re 0 _ rfl
        obtain ⟨x4, ex4, rx4⟩ := P3.re 1 vc rfl
        cases ex3
        cases ex4
        unfold app2 at h3
        split at h3
        · rename_i d1 dz hx' hz
          split at h3
          · rename_i z' hz'
            exact sn' d1 dz z' _ _ Gc H3 Q hz' P3.post.rel.sub (P3.post.rel.val rx3 hx') (P3.post.rel.val rx4 hz) fun w H' G' n => h3.fin P3.post n
          · exact h3.elim
        · exact h3.elim
  · exact h2.elim
theorem a_chain {op op' : CmpOp} {g g' : D → D → Option E} {r r' : R2} (ho : OpR X (compareOp op) r) (ho' : OpR X (compareOp op') r') (sn : Snd2 X.bk g r) (sn' : Snd2 X.bk g' r') (nb : ∀ x y v, g x y = some v → ∃ k, v = eBl k)
    (ha : PEa X W a fa) (hb : PEa X W b fb) (hc : PEa X W c fc) (hm : lastMarks [op, op'] [b, c] = false := by with_unfolding_all rfl) : PEa X W (.Compare a [op, op'] [b, c] pos) (aChain g g' fa fb fc) :=
  pe_imp (pe_chain ho ho' ha hb hc hm) (chain_imp sn sn' nb)
theorem a_tchain {op op' : CmpOp} {g g' : D → D → Option E} {r r' : R2} (ho : OpR X (compareOp op) r) (ho' : OpR X (compareOp op') r') (sn : Snd2 X.bk g r) (sn' : Snd2 X.bk g' r') (nb : ∀ x y v, g x y = some v → ∃ k, v = eBl k)
    (ha : PEa X W a fa) (hb : PEa X W b fb) (hc : PEa X W c fc) (hm : lastMarks [op, op'] [b, c] = false := by with_unfolding_all rfl) : PTa X W (.Compare a [op, op'] [b, c] pos) (aT (aChain g g' fa fb fc)) :=
  pt_imp (pt_chain ho ho' ha hb hc hm) fun σ H Q q => chain_imp sn sn' nb σ H _ (aT_imp q)
theorem le_bl (x y : D) (v : E) (e : gLe x y = some v) : ∃ k, v = eBl k := by
  cases x <;> cases y <;> simp only [gLe, Option.some.injEq, reduceCtorEq] at e <;> exact ⟨_, e.symm⟩
theorem lt_bl (x y : D) (v : E) (e : gLt x y = some v) : ∃ k, v = eBl k := by
  cases x <;> cases y <;> simp only [gLt, Option.some.injEq, reduceCtorEq] at e <;> exact ⟨_, e.symm⟩
/-! ### argument lists, displays -/
def aNil : List S → Res (List E) := fun ρ => .ok [] ρ
def aCons (f : List S → Res E) (r : List S → Res (List E)) : List S → Res (List E) := fun ρ => (f ρ).bind fun v ρ1 => (r ρ1).bind fun vs ρ2 => .ok (v :: vs) ρ2
theorem a_nil : PAa X W [] aNil := pa_imp pa_nil fun σ H Q ⟨G, ρ, r, h⟩ => h [] H G (Pend.nil r)
theorem a_cons (he : PEa X W e fa) (hr : PAa X W es fs) (hs : starEach (e :: es) X.env = (false, eval e X.env) :: starEach es X.env := by rfl) : PAa X W (e :: es) (aCons fa fs) :=
  pa_imp (pa_cons he hr hs) fun σ H Q ⟨G, ρ, r, h⟩ => by
    refine lift_mono (lift_first r (AftA.cl (Q := Q)) h) fun u H1 ⟨v, ρ1, G1, P1, h1⟩ => ?_
    refine liftA_mono (liftA_next P1 (AftA.cl (Q := Q)) h1) fun us H2 ⟨vs, ρ2, G2, P2, h2⟩ => ?_
    exact h2 _ _ _ P2
/-- contents of an argument list -/
def valL (ρ : List S) : List E → Option (List D)
  | [] => some []
  | v :: vs => match v.val ρ, valL ρ vs with
    | some x, some xs => some (x :: xs)
    | _, _ => none
def TzL (B : Bk) (G H : Hp) : List V → List D → Prop
  | [], [] => True
  | u :: us, d :: ds => Tz B G H u d ∧ TzL B G H us ds
  | [], _ :: _ => False
  | _ :: _, [] => False
theorem Pend.tail {B : Bk} {σ : St} {ρ0 ρ : List S} {H0 G0 H G : Hp} {u : V} {v : E} {us : List V} {vs : List E} (p : Pend B σ ρ0 H0 G0 ρ H G (u :: us) (v :: vs)) : Pend B σ ρ0 H0 G0 ρ H G us vs :=
  ⟨p.post, by simpa using p.len, fun i w e => p.re (i + 1) w e, fun i o a e e' => p.new (i + 1) o a e e', fun i j o o' a e e' w w' => by have := p.apart (i + 1) (j + 1) o o' a e e' w w'; omega⟩
theorem Pend.vals {B : Bk} {σ : St} {ρ0 ρ : List S} {H0 G0 H G : Hp} : ∀ {us : List V} {vs : List E} {xs : List D}, Pend B σ ρ0 H0 G0 ρ H G us vs → valL ρ vs = some xs → TzL B G H us xs
  | [], [], xs, _, e => by cases e; trivial
  | [], _ :: _, _, p, _ => by have := p.len; simp at this
  | _ :: _, [], _, p, _ => by have := p.len; simp at this
  | u :: us, v :: vs, xs, p, e => by
    simp only [valL] at e
    split at e
    · rename_i x ys e1 e2
      cases e
      obtain ⟨w, ew, rw'⟩ := p.re 0 v rfl
      cases ew
      exact ⟨p.post.rel.val rw' e1, Pend.vals p.tail e2⟩
    · cases e
/-- the first of some values is given away -/
theorem Pend.keep1 {B : Bk} {σ : St} {ρ0 ρ ρ' : List S} {H0 G0 H G : Hp} {u : V} {v : E} {us : List V} {vs : List E} {x : D} (p : Pend B σ ρ0 H0 G0 ρ H G (u :: us) (v :: vs)) (e : keep1 v ρ = some (x, ρ')) :
    ∃ G', Pend B σ ρ0 H0 G0 ρ' H G' us vs ∧ Fz B G' u x ∧ Same G G' := by
  obtain ⟨w, ew, rw'⟩ := p.re 0 v rfl
  cases ew
  have fr_of : ∀ {i : Nat} {o : O}, (v :: vs)[i]? = some (.fr o) → ∃ a ho, (u :: us)[i]? = some (.ref a) ∧ H a = some ho ∧ G a = none ∧ RO B G ho o ∧ ∀ j, ¬ Own σ ρ j a := fun {i o} e => by
    obtain ⟨y, e1, a, ho, rfl, r1, r2, r3, r4⟩ := p.re i _ e
    exact ⟨a, ho, e1, r1, r2, r3, r4⟩
  cases v with
  | d y =>
    cases e
    exact ⟨G, p.tail, rw', .refl _⟩
  | sl i =>
    obtain ⟨G', q, hf, hk⟩ := freeze_ok p.post.rel rw' e
    refine ⟨G', ⟨p.post.trans q, p.tail.len, fun j w ej => ?_, fun j o a ej e' => p.tail.new j o a ej e', p.tail.apart⟩, hf, q.grow⟩
    obtain ⟨y, e1, e2⟩ := p.tail.re j w ej
    exact ⟨y, e1, e2.step q⟩
  | fr o =>
    cases e
    obtain ⟨a, ho, rfl, r1, r2, r3, r4⟩ := rw'
    have h0 := p.new 0 o a rfl rfl
    have sg : Same G (upd G a ho) := upd_self_same r2
    have q : Post B σ ρ0 H0 G0 σ ρ H (upd G a ho) := by
      refine ⟨p.post.grow.trans sg, p.post.dom, p.post.frame, fun b ob hb hg n => ?_, ⟨fun b ob hb => ?_, p.post.rel.len, fun j s hs => ?_, p.post.rel.sep⟩, p.post.own⟩
      · rw [upd_ne (ne_of_none hb h0)]; exact p.post.keep b ob hb hg n
      · by_cases hb' : b = a
        · subst hb'; rw [upd_same] at hb; cases hb; exact r1
        · rw [upd_ne hb'] at hb; exact p.post.rel.sub b ob hb
      · obtain ⟨w, e1, e2⟩ := p.post.rel.slot j s hs
        refine ⟨w, e1, ?_⟩
        cases s with
        | no => trivial
        | d y => obtain ⟨w', q1, q2⟩ := e2; exact ⟨w', q1, Fz.mono sg _ _ q2⟩
        | own o' =>
          obtain ⟨b, ob', q1, q2, q3, q4⟩ := e2
          subst q1
          refine ⟨b, ob', rfl, q2, ?_, q4.mono sg⟩
          rw [upd_ne]
          · exact q3
          · intro z
            subst z
            exact r4 j ⟨e1, o', hs⟩
    refine ⟨upd G a ho, ⟨q, p.tail.len, fun j w ej => ?_, p.tail.new, p.tail.apart⟩, (r3.mono sg).fz upd_same, sg⟩
    obtain ⟨y, e1, e2⟩ := p.tail.re j w ej
    refine ⟨y, e1, ?_⟩
    cases w with
    | d z => exact Fz.mono sg _ _ e2
    | sl k => exact e2
    | fr o' =>
      obtain ⟨b, ob, rfl, t1, t2, t3, t4⟩ := e2
      refine ⟨b, ob, rfl, t1, ?_, t3.mono sg, t4⟩
      rw [upd_ne]
      · exact t2
      · intro z
        subst z
        have := p.apart 0 (j + 1) o o' b rfl ej rfl e1
        omega
theorem Pend.keepL {B : Bk} {σ : St} {ρ0 : List S} {H0 G0 H : Hp} : ∀ {us : List V} {vs : List E} {xs : List D} {ρ ρ' : List S} {G : Hp}, Pend B σ ρ0 H0 G0 ρ H G us vs → keepL vs ρ = some (xs, ρ') →
    ∃ G', Post B σ ρ0 H0 G0 σ ρ' H G' ∧ FzL B G' us xs ∧ Same G G'
  | [], [], xs, ρ, ρ', G, p, e => by cases e; exact ⟨G, p.post, .nil, .refl _⟩
  | [], _ :: _, _, _, _, _, p, _ => by have := p.len; simp at this
  | _ :: _, [], _, _, _, _, p, _ => by have := p.len; simp at this
  | u :: us, v :: vs, xs, ρ, ρ', G, p, e => by
    simp only [AL.keepL] at e
    split at e
    · cases e
    · rename_i x ρ1 e1
      split at e
      · cases e
      · rename_i ys ρ2 e2
        cases e
        obtain ⟨G1, p1, f1, s1⟩ := p.keep1 e1
        obtain ⟨G2, p2, f2, s2⟩ := Pend.keepL p1 e2
        exact ⟨G2, p2, .cons (Fz.mono s2 _ _ f1) f2, s1.trans s2⟩
/-- (a, b, ..) -/
def aTup (fs : List S → Res (List E)) : List S → Res E := fun ρ => (fs ρ).bind fun vs ρ1 => match keepL vs ρ1 with
  | some (xs, ρ2) => if xs.length ≤ sizeLine then .ok (.d (.tup xs)) ρ2 else .no
  | none => .no
/-- [a, b, ..] -/
def aLst (fs : List S → Res (List E)) : List S → Res E := fun ρ => (fs ρ).bind fun vs ρ1 => match keepL vs ρ1 with
  | some (xs, ρ2) => if xs.length ≤ sizeLine then .ok (.fr (.lst xs)) ρ2 else .no
  | none => .no
theorem a_tup {x1 : Nat} (h : PAa X W es fs) : PEa X W (.Tuple es x1 pos) (aTup fs) :=
  pe_imp (pe_tup h) fun σ H Q ⟨G, ρ, r, h⟩ => by
    refine liftA_mono (liftA_first r (Aft.cl (Q := Q)) h) fun us H1 ⟨vs, ρ1, G1, P, h1⟩ => ?_
    split at h1
    · rename_i xs ρ2 e
      split at h1
      · rename_i hz
        obtain ⟨G2, p, f, _⟩ := P.keepL e
        exact ⟨by rw [f.length]; exact hz, fun q hq => h1.fin p (.tup p.rel.sub hq f)⟩
      · exact h1.elim
    · exact h1.elim
theorem a_lst (h : PAa X W es fs) : PEa X W (.List es pos) (aLst fs) :=
  pe_imp (pe_lst h) fun σ H Q ⟨G, ρ, r, h⟩ => by
    refine liftA_mono (liftA_first r (Aft.cl (Q := Q)) h) fun us H1 ⟨vs, ρ1, G1, P, h1⟩ => ?_
    split at h1
    · rename_i xs ρ2 e
      split at h1
      · rename_i hz
        obtain ⟨G2, p, f, _⟩ := P.keepL e
        exact ⟨by rw [f.length]; exact hz, fun q hq => h1.fin p (.own p.rel.sub hq ⟨us, rfl, f⟩)⟩
      · exact h1.elim
    · exact h1.elim
/-! ### calls of built-ins, by content -/
def SndL (B : Bk) (g : List D → Option E) (r : List V → Hp → VK → Prop) : Prop :=
  ∀ (xs : List D) (v : E) (as : List V) (G H : Hp) (Q : VK), g xs = some v → Same G H → TzL B G H as xs → (∀ u H' G', New B G H u v H' G' → Q u H') → r as H Q
def aCall (g : List D → Option E) (fs : List S → Res (List E)) : List S → Res E := fun ρ => (fs ρ).bind fun vs ρ1 => match (valL ρ1 vs).bind g with
  | some v => .ok v ρ1
  | none => .no
theorem call_imp {B : Bk} {g : List D → Option E} {r : List V → Hp → VK → Prop} (sn : SndL B g r) (σ : St) (H : Hp) (Q : VK) (h : lift B W (aCall g fs) σ H Q) : tCB r (liftA B W fs) σ H Q := by
  obtain ⟨G, ρ, rl, h⟩ := h
  refine liftA_mono (liftA_first rl (Aft.cl (Q := Q)) h) fun us H1 ⟨vs, ρ1, G1, P, h1⟩ => ?_
  split at h1
  · rename_i v e
    obtain ⟨xs, e1, e2⟩ := Option.bind_eq_some_iff.mp e
    exact sn xs v us G1 H1 Q e2 P.post.rel.sub (P.vals e1) fun u H' G' n => h1.fin P.post n
  · exact h1.elim
section
variable {x : Str} {p : Pos} {id T : String} {g : List D → Option E} {r : List V → Hp → VK → Prop}
theorem a_callB (hc : CallR X (.builtin id) r) (sn : SndL X.bk g r) (hm : X.mg x = none) (hv : bootBuiltins x = some (.builtin id)) (ha : PAa X W (e :: es) fs) (hg : Gl X x := by rfl) (hn : x ≠ "__name__" := by decide) (hdb : (x == ("__debug__" : Str)) = false := by decide)
    (he : starEach (e :: es) X.env = (false, eval e X.env) :: starEach es X.env := by rfl) (hpl : (backTo pos (starEach es X.env)).any (·.1) = false := by rfl) : PEa X W (.Call (.Name x p) (e :: es) [] pos) (aCall g fs) :=
  pe_imp (pe_callB hc hg hm hv ha hn hdb he hpl) (call_imp sn)
theorem a_callT (hc : CallR X (.type T) r) (sn : SndL X.bk g r) (hm : X.mg x = none) (hv : bootBuiltins x = some (.type T)) (ha : PAa X W (e :: es) fs) (hg : Gl X x := by rfl) (hn : x ≠ "__name__" := by decide) (hdb : (x == ("__debug__" : Str)) = false := by decide)
    (he : starEach (e :: es) X.env = (false, eval e X.env) :: starEach es X.env := by rfl) (hpl : (backTo pos (starEach es X.env)).any (·.1) = false := by rfl) : PEa X W (.Call (.Name x p) (e :: es) [] pos) (aCall g fs) :=
  pe_imp (pe_callTy hc hg hm hv ha hn hdb he hpl) (call_imp sn)
end
end
end L2.AL
/-! A5: starred parts, slices, the built-ins by content, methods, stores. -/
namespace L2.AL
open PySem PySem.Spec PyProof.Rows
section
variable {X : Cx} {W : WX'} {a b c e o : Expr} {rest es : List Expr} {fa fb fc : List S → Res E} {fs : List S → Res (List E)} {pos : Pos}
/-! ### *e in a display or a call -/
def D.seq? : D → Option (List D)
  | .tup xs => some xs
  | .lst xs => some xs
  | _ => none
def aStar (f : List S → Res E) (r : List S → Res (List E)) : List S → Res (List E) := fun ρ => (f ρ).bind fun v ρ1 => match (v.val ρ1).bind D.seq? with
  | some xs => (r ρ1).bind fun vs ρ2 => .ok (xs.map E.d ++ vs) ρ2
  | none => .no
theorem pend_items {B : Bk} {σ : St} {ρ0 ρ : List S} {H0 G0 H G : Hp} {us : List V} {ds : List D} (p : Post B σ ρ0 H0 G0 σ ρ H G) (h : FzL B G us ds) : Pend B σ ρ0 H0 G0 ρ H G us (ds.map E.d) := by
  refine ⟨p, by rw [List.length_map]; exact h.length, fun i v e => ?_, fun i o a e => ?_, fun i j o o' a e => ?_⟩
  · rw [List.getElem?_map] at e
    obtain ⟨d, e1, rfl⟩ := Option.map_eq_some_iff.mp e
    obtain ⟨u, e2, hf⟩ := h.get e1
    exact ⟨u, e2, hf⟩
  · rw [List.getElem?_map] at e
    obtain ⟨d, e1, e2⟩ := Option.map_eq_some_iff.mp e
    cases e2
  · rw [List.getElem?_map] at e
    obtain ⟨d, e1, e2⟩ := Option.map_eq_some_iff.mp e
    cases e2
theorem seq_of {B : Bk} {G H : Hp} {u : V} {x : D} {xs : List D} (s : Same G H) (h : Tz B G H u x) (e : x.seq? = some xs) : ∃ p us, u = .ref p ∧ (SqT B.K H p us ∨ SqL B.K H p us) ∧ FzL B G us xs := by
  cases x <;> simp only [D.seq?, Option.some.injEq, reduceCtorEq] at e
  · subst e
    obtain ⟨p, us, rfl, h1, h2⟩ := tz_tup h
    exact ⟨p, us, rfl, .inl (Same.sqt s h1), h2⟩
  · subst e
    obtain ⟨p, us, rfl, h1, h2⟩ := h
    exact ⟨p, us, rfl, .inr (SqL.of h1), h2⟩
theorem a_star {p : Pos} (he : PEa X W e fa) (hr : PAa X W es fs) (hs : starEach (.Starred e p :: es) X.env = (true, eval e X.env) :: starEach es X.env := by rfl) : PAa X W (.Starred e p :: es) (aStar fa fs) :=
  pa_imp (StX.pa_star he hr hs) fun σ H Q ⟨G, ρ, r, h⟩ => by
    refine lift_mono (lift_first r (AftA.cl (Q := Q)) h) fun u H1 ⟨v, ρ1, G1, P1, h1⟩ => ?_
    obtain ⟨w, ew, rw'⟩ := P1.re 0 v rfl
    cases ew
    split at h1
    · rename_i xs hx
      obtain ⟨d, e1, e2⟩ := Option.bind_eq_some_iff.mp hx
      obtain ⟨q, us, rfl, hq, hf⟩ := seq_of P1.post.rel.sub (P1.post.rel.val rw' e1) e2
      refine ⟨q, us, rfl, hq, ?_⟩
      exact liftA_mono (liftA_next (pend_items P1.post hf) (AftA.cl (Q := Q)) h1) fun ys H2 ⟨vs, ρ2, G2, P2, h2⟩ => h2 _ _ _ P2
    · exact h1.elim
/-! ### slices -/
def AftO (B : Bk) (W : WX') (σ : St) (ρ : List S) (H G : Hp) (Q : Option Int → Hp → Prop) : Res (Option Int) → Prop
  | .ok b ρ' => ∀ H' G', Post B σ ρ H G σ ρ' H' G' → Q b H'
  | .ex e ρ' => Out B W σ ρ H G e ρ'
  | .no => False
def liftO (B : Bk) (W : WX') (f : List S → Res (Option Int)) : TO := fun σ H Q => ∃ G ρ, Rel B G σ ρ H ∧ AftO B W σ ρ H G Q (f ρ)
theorem AftO.cl {B : Bk} {σ : St} {ρ : List S} {H G : Hp} {Q : Option Int → Hp → Prop} : Cl B W σ ρ H G (AftO B W σ ρ H G Q) := ⟨fun _ _ h => h, fun h => h⟩
abbrev POa (X : Cx) (W : WX') (e : Option Expr) (f : List S → Res (Option Int)) : Prop := PO X e (liftO X.bk W f)
def aPartN : List S → Res (Option Int) := fun ρ => .ok none ρ
def aPart (f : List S → Res E) : List S → Res (Option Int) := fun ρ => (f ρ).bind fun v ρ1 => match v with
  | .d (.int i) => .ok (some i) ρ1
  | _ => .no
theorem po_imp {e : Option Expr} {t t' : TO} (h : PO X e t) (w : ∀ σ H Q, t' σ H Q → t σ H Q) : PO X e t' := ⟨fun pins s σ H Q I q => h.run pins s σ H Q I (w σ H Q q)⟩
theorem a_partN : POa X W none aPartN := po_imp po_none fun σ H Q ⟨G, ρ, r, h⟩ => h H G (.refl r)
theorem a_part (h : PEa X W e fa) : POa X W (some e) (aPart fa) := po_imp (po_some h) fun σ H Q ⟨G, ρ, r, h⟩ => by
  refine lift_mono (lift_first r (AftO.cl (Q := Q)) h) fun u H1 ⟨v, ρ1, G1, P1, h1⟩ => ?_
  obtain ⟨w, ew, rw'⟩ := P1.re 0 v rfl
  cases ew
  split at h1
  · rename_i i
    have rw' : Fz X.bk G1 u (.int i) := rw'
    rw [Fz] at rw'
    exact ⟨i, rw', h1 _ _ P1.post⟩
  · exact h1.elim
theorem liftO_mono {B : Bk} {σ : St} {H : Hp} {f : List S → Res (Option Int)} {Q Q' : Option Int → Hp → Prop} (h : liftO B W f σ H Q) (w : ∀ u H, Q u H → Q' u H) : liftO B W f σ H Q' := by
  obtain ⟨G, ρ, r, h⟩ := h
  refine ⟨G, ρ, r, ?_⟩
  cases e : f ρ with
  | ok v ρ1 => rw [e] at h; exact fun H' G' p => w _ _ (h H' G' p)
  | ex x ρ1 => rw [e] at h; exact h
  | no => rw [e] at h; exact h
theorem Pend.step {B : Bk} {σ : St} {ρ0 ρ ρ' : List S} {H0 G0 H G H' G' : Hp} {us : List V} {vs : List E} (p : Pend B σ ρ0 H0 G0 ρ H G us vs) (q : Post B σ ρ H G σ ρ' H' G') : Pend B σ ρ0 H0 G0 ρ' H' G' us vs :=
  ⟨p.post.trans q, p.len, fun i v e => let ⟨u, e1, e2⟩ := p.re i v e; ⟨u, e1, e2.step q⟩, p.new, p.apart⟩
theorem liftO_next {B : Bk} {σ : St} {ρ0 ρ : List S} {H0 G0 H G : Hp} {us : List V} {vs : List E} {β : Type} {Φ : Res β → Prop} {f : List S → Res (Option Int)} {k : Option Int → List S → Res β} (p : Pend B σ ρ0 H0 G0 ρ H G us vs) (c : Cl B W σ ρ0 H0 G0 Φ) (h : Φ ((f ρ).bind k)) :
    liftO B W f σ H (fun b H1 => ∃ ρ1 G1, Pend B σ ρ0 H0 G0 ρ1 H1 G1 us vs ∧ Φ (k b ρ1)) := by
  refine ⟨G, ρ, p.post.rel, ?_⟩
  cases e : f ρ with
  | ok v ρ1 =>
    rw [e] at h
    exact fun H' G' q => ⟨ρ1, G', p.step q, h⟩
  | ex x ρ1 =>
    rw [e] at h
    exact (c.ex x ρ1 h).back p.post
  | no =>
    rw [e] at h
    exact c.no h
def cutG {α : Type} (xs : List α) (lo hi : Option Int) : List α := (xs.drop (HT.sIx xs.length 0 lo)).take (HT.sIx xs.length xs.length hi - HT.sIx xs.length 0 lo)
def gSl : D → Option Int → Option Int → Option E
  | .lst xs, lo, hi => some (.fr (.lst (cutG xs lo hi)))
  | .tup xs, lo, hi => some (.d (.tup (cutG xs lo hi)))
  | .str z, lo, hi => if z.length ≤ sizeLine then some (eStr (cutS z lo hi)) else none
  | _, _, _ => none
theorem FzL.cut {B : Bk} {G : Hp} {us : List V} {ds : List D} (h : FzL B G us ds) (lo hi : Option Int) : FzL B G (cutV us lo hi) (cutG ds lo hi) := by
  unfold cutV cutG
  rw [h.length]
  exact FzL.take _ (FzL.drop _ h)
theorem cutG_whole {α : Type} {xs : List α} {lo hi : Option Int} (h : HT.sIx xs.length 0 lo = 0 ∧ HT.sIx xs.length xs.length hi = xs.length) : cutG xs lo hi = xs := by
  unfold cutG
  rw [h.1, h.2]
  simp
def rSlX (K : PySem.W.Frag) : V → Option Int → Option Int → Hp → VK → Prop := fun x lo hi H Q => rSlL K x lo hi H Q ∨ (rSlA K x lo hi H Q ∨ rSlS x lo hi H Q)
theorem sl_any : SlR X (rSlX X.K) := sl_list.or (sl_tupA.or sl_str)
theorem sl_snd {B : Bk} {x : D} {lo hi : Option Int} {v : E} {u : V} {G H : Hp} {Q : VK} (e : gSl x lo hi = some v) (s : Same G H) (h : Tz B G H u x) (q : ∀ w H' G', New B G H w v H' G' → Q w H') : rSlX B.K u lo hi H Q := by
  cases x <;> simp only [gSl, Option.some.injEq, reduceCtorEq] at e
  · split at e
    · rename_i hz
      cases e
      exact .inr (.inr ⟨_, tz_str h, hz, q _ _ _ (.scalar s (fz_str _))⟩)
    · cases e
  · subst e
    obtain ⟨p, us, rfl, h1, h2⟩ := tz_tup h
    refine .inr (.inl ⟨p, us, rfl, Same.sqt s h1, fun hw => ?_, fun hw r hr => q _ _ _ (.tup s hr (h2.cut lo hi))⟩)
    rw [h2.length] at hw
    refine q _ _ _ (.scalar s ?_)
    rw [cutG_whole hw]
    exact h
  · subst e
    obtain ⟨p, us, rfl, h1, h2⟩ := h
    exact .inl ⟨p, us, rfl, SqL.of h1, fun r hr => q _ _ _ (.own s hr ⟨_, rfl, h2.cut lo hi⟩)⟩
def aSlice (f : List S → Res E) (fl fh : List S → Res (Option Int)) : List S → Res E := fun ρ => (f ρ).bind fun v ρ1 => (fl ρ1).bind fun lo ρ2 => (fh ρ2).bind fun hi ρ3 => match (v.val ρ3).bind fun x => gSl x lo hi with
  | some w => .ok w ρ3
  | none => .no
theorem a_slice {lo hi : Option Expr} {fl fh : List S → Res (Option Int)} {p2 : Pos} (he : PEa X W e fa) (hl : POa X W lo fl) (hu : POa X W hi fh) : PEa X W (.Subscript e (.Slice lo hi none p2) pos) (aSlice fa fl fh) :=
  pe_imp (pe_slice sl_any he hl hu) fun σ H Q ⟨G, ρ, r, h⟩ => by
    refine lift_mono (lift_first r (Aft.cl (Q := Q)) h) fun u H1 ⟨v, ρ1, G1, P1, h1⟩ => ?_
    refine liftO_mono (liftO_next P1 (Aft.cl (Q := Q)) h1) fun l H2 ⟨ρ2, G2, P2, h2⟩ => ?_
    refine liftO_mono (liftO_next P2 (Aft.cl (Q := Q)) h2) fun k H3 ⟨ρ3, G3, P3, h3⟩ => ?_
    obtain ⟨w, ew, rw'⟩ := P3.re 0 v rfl
    cases ew
    split at h3
    · rename_i z hz
      obtain ⟨d, e1, e2⟩ := Option.bind_eq_some_iff.mp hz
      exact sl_snd e2 P3.post.rel.sub (P3.post.rel.val rw' e1) fun w H' G' n => h3.fin P3.post n
    · exact h3.elim
/-! ### built-ins by content -/
theorem tzl1 {B : Bk} {G H : Hp} {us : List V} {x : D} (h : TzL B G H us [x]) : ∃ u, us = [u] ∧ Tz B G H u x := by
  match us, h with
  | [u], h => exact ⟨u, rfl, h.1⟩
theorem tzl2 {B : Bk} {G H : Hp} {us : List V} {x y : D} (h : TzL B G H us [x, y]) : ∃ u v, us = [u, v] ∧ Tz B G H u x ∧ Tz B G H v y := by
  match us, h with
  | [u, v], h => exact ⟨u, v, rfl, h.1, h.2.1⟩
def gLen : List D → Option E
  | [.lst xs] => some (eInt xs.length)
  | [.tup xs] => some (eInt xs.length)
  | [.scr xs] => some (eInt xs.length)
  | [.str z] => if z.length ≤ sizeLine then some (eInt z.length) else none
  | [.dct kvs] => some (eInt kvs.length)
  | _ => none
theorem FzK.length {B : Bk} {G : Hp} : ∀ {us : List (Key × V)} {ds : List (Key × D)}, FzK B G us ds → us.length = ds.length
  | [], [], _ => rfl
  | [], _ :: _, h => by rw [FzK] at h; exact h.elim
  | _ :: _, [], h => by rw [FzK] at h; exact h.elim
  | _ :: _, _ :: _, h => by rw [FzK] at h; rw [List.length_cons, List.length_cons, FzK.length h.2.2]
abbrev rLenA (K : PySem.W.Frag) : List V → Hp → VK → Prop := fun xs H Q => (∃ x n, xs = [x] ∧ LenV K x H n ∧ Q (.int n) H) ∨ (∃ a kvs, xs = [V.ref a] ∧ H a = some (.dK kvs) ∧ Q (.int kvs.length) H)
theorem call_lenA : CallR X (.builtin "len") (rLenA X.K) := call_len.or call_lenD
theorem len_snd {B : Bk} : SndL B gLen (rLenA B.K) := by
  intro xs v us G H Q e s hx q
  unfold gLen at e
  split at e
  · cases e
    obtain ⟨u, rfl, p, ws, rfl, h1, h2⟩ := tzl1 hx
    exact .inl ⟨_, _, rfl, .inl ⟨ws, SqL.of h1, rfl⟩, by rw [h2.length]; exact q _ _ _ (.scalar s (fz_int _))⟩
  · cases e
    obtain ⟨u, rfl, h⟩ := tzl1 hx
    obtain ⟨p, ws, rfl, h1, h2⟩ := tz_tup h
    exact .inl ⟨_, _, rfl, .inr ⟨ws, Same.sqt s h1, rfl⟩, by rw [h2.length]; exact q _ _ _ (.scalar s (fz_int _))⟩
  · cases e
    rename_i ns
    obtain ⟨u, rfl, h⟩ := tzl1 hx
    have h : Fz B G u (.scr ns) := h
    rw [Fz] at h
    obtain ⟨p, rfl, h1⟩ := h
    exact .inl ⟨_, _, rfl, .inl ⟨_, Same.seq s h1, rfl⟩, by rw [List.length_map]; exact q _ _ _ (.scalar s (fz_int _))⟩
  · split at e
    · rename_i hz
      cases e
      obtain ⟨u, rfl, h⟩ := tzl1 hx
      exact .inl ⟨_, _, rfl, by rw [tz_str h]; exact ⟨hz, rfl⟩, q _ _ _ (.scalar s (fz_int _))⟩
    · cases e
  · cases e
    obtain ⟨u, rfl, p, ws, rfl, h1, h2⟩ := tzl1 hx
    exact .inr ⟨_, _, rfl, h1, by rw [h2.length]; exact q _ _ _ (.scalar s (fz_int _))⟩
  · cases e
def gAbs : List D → Option E
  | [.int i] => some (eInt (if i < 0 then -i else i))
  | _ => none
theorem abs_snd {B : Bk} : SndL B gAbs (fun xs H Q => ∃ i, xs = [.int i] ∧ Q (.int (if i < 0 then -i else i)) H) := by
  intro xs v us G H Q e s hx q
  unfold gAbs at e
  split at e
  · cases e
    obtain ⟨u, rfl, h⟩ := tzl1 hx
    exact ⟨_, by rw [tz_int h], q _ _ _ (.scalar s (fz_int _))⟩
  · cases e
def gMax : List D → Option E
  | [.int i, .int j] => some (eInt (if j > i then j else i))
  | _ => none
def gMin : List D → Option E
  | [.int i, .int j] => some (eInt (if j < i then j else i))
  | _ => none
theorem max_snd {B : Bk} : SndL B gMax (fun xs H Q => ∃ i j, xs = [.int i, .int j] ∧ Q (.int (if j > i then j else i)) H) := by
  intro xs v us G H Q e s hx q
  unfold gMax at e
  split at e
  · cases e
    obtain ⟨u, w, rfl, h, h'⟩ := tzl2 hx
    exact ⟨_, _, by rw [tz_int h, tz_int h'], q _ _ _ (.scalar s (fz_int _))⟩
  · cases e
theorem min_snd {B : Bk} : SndL B gMin (fun xs H Q => ∃ i j, xs = [.int i, .int j] ∧ Q (.int (if j < i then j else i)) H) := by
  intro xs v us G H Q e s hx q
  unfold gMin at e
  split at e
  · cases e
    obtain ⟨u, w, rfl, h, h'⟩ := tzl2 hx
    exact ⟨_, _, by rw [tz_int h, tz_int h'], q _ _ _ (.scalar s (fz_int _))⟩
  · cases e
def gInt : List D → Option E
  | [.int i] => some (eInt i)
  | [.bl k] => some (eInt (if k then 1 else 0))
  | [.str z] => if z.length ≤ 640 then (PySem.intText? z).map eInt else none
  | _ => none
abbrev rIntA : List V → Hp → VK → Prop := fun xs H Q => ((∃ i, xs = [.int i] ∧ Q (.int i) H) ∨ ∃ k, xs = [.bl k] ∧ Q (.int (if k then 1 else 0)) H) ∨ (∃ a n, xs = [.str a] ∧ PySem.intText? a = some n ∧ a.length ≤ 640 ∧ Q (.int n) H)
theorem call_intA : CallR X (.type "int") rIntA := call_int1.or call_int_str
theorem int_snd {B : Bk} : SndL B gInt rIntA := by
  intro xs v us G H Q e s hx q
  unfold gInt at e
  split at e
  · cases e
    obtain ⟨u, rfl, h⟩ := tzl1 hx
    exact .inl (.inl ⟨_, by rw [tz_int h], q _ _ _ (.scalar s (fz_int _))⟩)
  · cases e
    obtain ⟨u, rfl, h⟩ := tzl1 hx
    exact .inl (.inr ⟨_, by rw [tz_bl h], q _ _ _ (.scalar s (fz_int _))⟩)
  · split at e
    · rename_i hz
      obtain ⟨n, e1, rfl⟩ := Option.map_eq_some_iff.mp e
      obtain ⟨u, rfl, h⟩ := tzl1 hx
      exact .inr ⟨_, n, by rw [tz_str h], e1, hz, q _ _ _ (.scalar s (fz_int _))⟩
    · cases e
  · cases e
def gStr : List D → Option E
  | [.int i] => if i.natAbs.log2 < 1920 then some (eStr (toString i)) else none
  | [.str z] => some (eStr z)
  | _ => none
abbrev rStrA : List V → Hp → VK → Prop := fun xs H Q => (∃ i, xs = [.int i] ∧ i.natAbs.log2 < 1920 ∧ Q (.str (toString i)) H) ∨ (∃ a, xs = [.str a] ∧ Q (.str a) H)
theorem call_strA : CallR X (.type "str") rStrA := call_str_int.or SkE.call_str_str
theorem str_snd {B : Bk} : SndL B gStr rStrA := by
  intro xs v us G H Q e s hx q
  unfold gStr at e
  split at e
  · split at e
    · rename_i hz
      cases e
      obtain ⟨u, rfl, h⟩ := tzl1 hx
      exact .inl ⟨_, by rw [tz_int h], hz, q _ _ _ (.scalar s (fz_str _))⟩
    · cases e
  · cases e
    obtain ⟨u, rfl, h⟩ := tzl1 hx
    exact .inr ⟨_, by rw [tz_str h], q _ _ _ (.scalar s (fz_str _))⟩
  · cases e
/-- a list of truths, of ints, of texts -/
def D.bls? : List D → Option (List Bool)
  | [] => some []
  | .bl b :: r => (D.bls? r).map (b :: ·)
  | _ :: _ => none
def D.ints? : List D → Option (List Int)
  | [] => some []
  | .int b :: r => (D.ints? r).map (b :: ·)
  | _ :: _ => none
def D.strs? : List D → Option (List Str)
  | [] => some []
  | .str b :: r => (D.strs? r).map (b :: ·)
  | _ :: _ => none
theorem bls_v {B : Bk} {G : Hp} : ∀ {ds : List D} {us : List V} {bs : List Bool}, FzL B G us ds → D.bls? ds = some bs → us = bs.map V.bl
  | [], [], _, _, e => by cases e; rfl
  | [], _ :: _, _, h, _ => by rw [FzL] at h; exact h.elim
  | _ :: _, [], _, h, _ => by rw [FzL] at h; exact h.elim
  | d :: ds, u :: us, bs, h, e => by
    rw [FzL] at h
    cases d <;> simp only [D.bls?, reduceCtorEq] at e
    obtain ⟨r, e1, rfl⟩ := Option.map_eq_some_iff.mp e
    have h1 := h.1
    rw [Fz] at h1
    rw [h1, bls_v h.2 e1]; rfl
theorem ints_v {B : Bk} {G : Hp} : ∀ {ds : List D} {us : List V} {bs : List Int}, FzL B G us ds → D.ints? ds = some bs → us = bs.map V.int
  | [], [], _, _, e => by cases e; rfl
  | [], _ :: _, _, h, _ => by rw [FzL] at h; exact h.elim
  | _ :: _, [], _, h, _ => by rw [FzL] at h; exact h.elim
  | d :: ds, u :: us, bs, h, e => by
    rw [FzL] at h
    cases d <;> simp only [D.ints?, reduceCtorEq] at e
    obtain ⟨r, e1, rfl⟩ := Option.map_eq_some_iff.mp e
    have h1 := h.1
    rw [Fz] at h1
    rw [h1, ints_v h.2 e1]; rfl
theorem strs_v {B : Bk} {G : Hp} : ∀ {ds : List D} {us : List V} {bs : List Str}, FzL B G us ds → D.strs? ds = some bs → us = bs.map V.str
  | [], [], _, _, e => by cases e; rfl
  | [], _ :: _, _, h, _ => by rw [FzL] at h; exact h.elim
  | _ :: _, [], _, h, _ => by rw [FzL] at h; exact h.elim
  | d :: ds, u :: us, bs, h, e => by
    rw [FzL] at h
    cases d <;> simp only [D.strs?, reduceCtorEq] at e
    obtain ⟨r, e1, rfl⟩ := Option.map_eq_some_iff.mp e
    have h1 := h.1
    rw [Fz] at h1
    rw [h1, strs_v h.2 e1]; rfl
@[simp] theorem bls_map (bs : List Bool) : D.bls? (bs.map .bl) = some bs := by
  induction bs with
  | nil => rfl
  | cons b r ih => simp [D.bls?, ih]
@[simp] theorem ints_map (bs : List Int) : D.ints? (bs.map .int) = some bs := by
  induction bs with
  | nil => rfl
  | cons b r ih => simp [D.ints?, ih]
@[simp] theorem strs_map (bs : List Str) : D.strs? (bs.map .str) = some bs := by
  induction bs with
  | nil => rfl
  | cons b r ih => simp [D.strs?, ih]
theorem fz_ints {B : Bk} {G : Hp} : ∀ ns : List Int, FzL B G (ns.map V.int) (ns.map .int)
  | [] => .nil
  | n :: r => .cons (fz_int n) (fz_ints r)
theorem fz_strs {B : Bk} {G : Hp} : ∀ ns : List Str, FzL B G (ns.map V.str) (ns.map .str)
  | [] => .nil
  | n :: r => .cons (fz_str n) (fz_strs r)
def gAll : List D → Option E
  | [.lst xs] => (D.bls? xs).map fun bs => eBl (bs.all id)
  | _ => none
def gAny : List D → Option E
  | [.lst xs] => (D.bls? xs).map fun bs => eBl (bs.any id)
  | _ => none
theorem all_snd {B : Bk} : SndL B gAll (rAll B.K) := by
  intro xs v us G H Q e s hx q
  unfold gAll at e
  split at e
  · obtain ⟨bs, e1, rfl⟩ := Option.map_eq_some_iff.mp e
    obtain ⟨u, rfl, p, ws, rfl, h1, h2⟩ := tzl1 hx
    rw [bls_v h2 e1] at h1
    exact ⟨p, bs, rfl, SqL.of h1, q _ _ _ (.scalar s (fz_bl _))⟩
  · cases e
theorem any_snd {B : Bk} : SndL B gAny (rAny B.K) := by
  intro xs v us G H Q e s hx q
  unfold gAny at e
  split at e
  · obtain ⟨bs, e1, rfl⟩ := Option.map_eq_some_iff.mp e
    obtain ⟨u, rfl, p, ws, rfl, h1, h2⟩ := tzl1 hx
    rw [bls_v h2 e1] at h1
    exact ⟨p, bs, rfl, SqL.of h1, q _ _ _ (.scalar s (fz_bl _))⟩
  · cases e
def gTuple : List D → Option E
  | [.lst xs] => some (.d (.tup xs))
  | [.tup xs] => some (.d (.tup xs))
  | _ => none
abbrev rTupA (K : PySem.W.Frag) : List V → Hp → VK → Prop := fun xs H Q => ∃ p ys, xs = [.ref p] ∧ ((SqL K H p ys ∧ ∀ l, H l = none → Q (.ref l) (upd H l (.tup ys))) ∨ (SqT K H p ys ∧ Q (.ref p) H))
theorem tuple_snd {B : Bk} : SndL B gTuple (rTupA B.K) := by
  intro xs v us G H Q e s hx q
  unfold gTuple at e
  split at e
  · cases e
    obtain ⟨u, rfl, p, ws, rfl, h1, h2⟩ := tzl1 hx
    exact ⟨p, ws, rfl, .inl ⟨SqL.of h1, fun l hl => q _ _ _ (.tup s hl h2)⟩⟩
  · cases e
    obtain ⟨u, rfl, h⟩ := tzl1 hx
    obtain ⟨p, ws, rfl, h1, h2⟩ := tz_tup h
    exact ⟨p, ws, rfl, .inr ⟨Same.sqt s h1, q _ _ _ (.scalar s h)⟩⟩
  · cases e
def gList : List D → Option E
  | [.lst xs] => some (.fr (.lst xs))
  | [.tup xs] => some (.fr (.lst xs))
  | _ => none
abbrev rListA (K : PySem.W.Frag) : List V → Hp → VK → Prop := fun xs H Q => ∃ p ys, xs = [.ref p] ∧ (SqL K H p ys ∨ SqT K H p ys) ∧ ∀ l, H l = none → Q (.ref l) (upd H l (.lst ys))
theorem list_snd {B : Bk} : SndL B gList (rListA B.K) := by
  intro xs v us G H Q e s hx q
  unfold gList at e
  split at e
  · cases e
    obtain ⟨u, rfl, p, ws, rfl, h1, h2⟩ := tzl1 hx
    exact ⟨p, ws, rfl, .inl (SqL.of h1), fun l hl => q _ _ _ (.own s hl ⟨_, rfl, h2⟩)⟩
  · cases e
    obtain ⟨u, rfl, h⟩ := tzl1 hx
    obtain ⟨p, ws, rfl, h1, h2⟩ := tz_tup h
    exact ⟨p, ws, rfl, .inr (Same.sqt s h1), fun l hl => q _ _ _ (.own s hl ⟨_, rfl, h2⟩)⟩
  · cases e
/-- sorted, of ints -/
def sortI (ns : List Int) : List Int := ns.mergeSort (fun a b => decide (a ≤ b))
theorem sortI_perm (ns : List Int) : (sortI ns).Perm ns := List.mergeSort_perm _ _
theorem sortI_asc (ns : List Int) : (sortI ns).Pairwise (· ≤ ·) := by
  have h := List.pairwise_mergeSort (le := fun a b : Int => decide (a ≤ b)) (fun a b c h1 h2 => by simp at *; omega) (fun a b => by simp; omega) ns
  exact h.imp fun h => by simpa using h
theorem sortI_of {ns ns' : List Int} (h : ns'.Perm ns) (h' : ns'.Pairwise (· ≤ ·)) : ns' = sortI ns := PySem.W.ksm_same (h.trans (sortI_perm ns).symm) h' (sortI_asc ns)
def gSorted : List D → Option E
  | [.lst xs] => (D.ints? xs).map fun ns => .fr (.lst ((sortI ns).map .int))
  | _ => none
theorem sorted_snd {B : Bk} : SndL B gSorted (rSortedI B.K) := by
  intro xs v us G H Q e s hx q
  unfold gSorted at e
  split at e
  · obtain ⟨ns, e1, rfl⟩ := Option.map_eq_some_iff.mp e
    obtain ⟨u, rfl, p, ws, rfl, h1, h2⟩ := tzl1 hx
    rw [ints_v h2 e1] at h1
    refine ⟨p, ns, rfl, SqL.of h1, fun ns' r hp ha hr => ?_⟩
    rw [sortI_of hp ha]
    exact q _ _ _ (.own s hr ⟨_, rfl, fz_ints _⟩)
  · cases e
/-! ### isinstance -/
def D.tyn : D → String
  | .non => "NoneType"
  | .bl _ => "bool"
  | .int _ => "int"
  | .str _ => "str"
  | .tup _ => "tuple"
  | .lst _ => "list"
  | .dct _ => "dict"
  | .scr _ => "list"
  | .cd _ => "written dict"
  | .fn _ => "function"
  | .ty _ => "type"
inductive Ty5 where | int | bool | str | tuple | list | dict
def Ty5.nm : Ty5 → String
  | .int => "int" | .bool => "bool" | .str => "str" | .tuple => "tuple" | .list => "list" | .dict => "dict"
/-- whether a content is of a built-in class -/
def D.isi : D → Ty5 → Option Bool
  | .non, _ => some false
  | .bl _, .bool => some true
  | .bl _, .int => some true
  | .bl _, _ => some false
  | .int _, .int => some true
  | .int _, _ => some false
  | .str _, .str => some true
  | .str _, _ => some false
  | .tup _, .tuple => some true
  | .tup _, _ => some false
  | .lst _, .list => some true
  | .lst _, _ => some false
  | .dct _, .dict => some true
  | .dct _, _ => some false
  | _, _ => none
def gIsi : List D → Option E
  | [x, .ty n] => if n = "int" then (x.isi .int).map eBl else if n = "bool" then (x.isi .bool).map eBl else if n = "str" then (x.isi .str).map eBl else if n = "tuple" then (x.isi .tuple).map eBl
    else if n = "list" then (x.isi .list).map eBl else if n = "dict" then (x.isi .dict).map eBl else none
  | _ => none
theorem kit_non (t : Ty5) : kitB "NoneType" t.nm = some false := by cases t <;> decide +kernel
theorem kit_bool (t : Ty5) : kitB "bool" t.nm = some (match t with | .bool => true | .int => true | _ => false) := by cases t <;> decide +kernel
theorem kit_int (t : Ty5) : kitB "int" t.nm = some (match t with | .int => true | _ => false) := by cases t <;> decide +kernel
theorem kit_str (t : Ty5) : kitB "str" t.nm = some (match t with | .str => true | _ => false) := by cases t <;> decide +kernel
theorem kit_tuple (t : Ty5) : kitB "tuple" t.nm = some (match t with | .tuple => true | _ => false) := by cases t <;> decide +kernel
theorem kit_list (t : Ty5) : kitB "list" t.nm = some (match t with | .list => true | _ => false) := by cases t <;> decide +kernel
theorem kit_dict (t : Ty5) : kitB "dict" t.nm = some (match t with | .dict => true | _ => false) := by cases t <;> decide +kernel
theorem tyx_tup {B : Bk} {H : Hp} {a : Addr} {xs : List V} (h : SqT B.K H a xs) : TyX B.K H (.ref a) (.type "tuple") := by
  rcases h with (h | ⟨o, h⟩) | ⟨o, its, n, h, c, _⟩
  · exact .base (.tup h)
  · exact .fTuple h
  · exact .kTuple h c
theorem isi_v {B : Bk} {G H : Hp} {x : D} {u : V} {t : Ty5} {k : Bool} (s : Same G H) (h : Tz B G H u x) (e : x.isi t = some k) : ∃ ty, TyX B.K H u ty ∧ PySem.W.kitOne B.K ty (.type t.nm) = some k := by
  cases x
  · rw [tz_non h]; exact ⟨_, .base .non, by rw [kit_ty (kit_non t)]; cases t <;> exact e⟩
  · rw [tz_bl h]; exact ⟨_, .base (.bl _), by rw [kit_ty (kit_bool t)]; cases t <;> exact e⟩
  · rw [tz_int h]; exact ⟨_, .base (.int _), by rw [kit_ty (kit_int t)]; cases t <;> exact e⟩
  · rw [tz_str h]; exact ⟨_, .base (.str _), by rw [kit_ty (kit_str t)]; cases t <;> exact e⟩
  · obtain ⟨p, us, rfl, h1, h2⟩ := tz_tup h; exact ⟨_, tyx_tup (Same.sqt s h1), by rw [kit_ty (kit_tuple t)]; cases t <;> exact e⟩
  · obtain ⟨p, us, rfl, h1, h2⟩ := h; exact ⟨_, .base (.lst h1), by rw [kit_ty (kit_list t)]; cases t <;> exact e⟩
  · obtain ⟨p, us, rfl, h1, h2⟩ := h; exact ⟨_, .base (.dK h1), by rw [kit_ty (kit_dict t)]; cases t <;> exact e⟩
  all_goals (cases t <;> cases e)
theorem isi_snd {B : Bk} : SndL B gIsi (rIsi B.K) := by
  intro xs v us G H Q e s hx q
  unfold gIsi at e
  split at e
  · rename_i x n
    obtain ⟨u, w, rfl, h, h'⟩ := tzl2 hx
    have h' : Fz B G w (.ty n) := h'
    rw [Fz] at h'
    subst h'
    have fin : ∀ t : Ty5, n = t.nm → (x.isi t).map eBl = some v → rIsi B.K [u, .ty n] H Q := fun t en e => by
      obtain ⟨k, e1, rfl⟩ := Option.map_eq_some_iff.mp e
      obtain ⟨ty, h1, h2⟩ := isi_v s h e1
      subst en
      exact ⟨u, _, ty, _, k, rfl, .ty _, h1, h2, q _ _ _ (.scalar s (fz_bl _))⟩
    split at e
    · rename_i en; exact fin .int en e
    · split at e
      · rename_i en; exact fin .bool en e
      · split at e
        · rename_i en; exact fin .str en e
        · split at e
          · rename_i en; exact fin .tuple en e
          · split at e
            · rename_i en; exact fin .list en e
            · split at e
              · rename_i en; exact fin .dict en e
              · cases e
  · cases e
/-! ### repr -/
def D.repr? (x : D) : Option Str := match x.py with
  | some p => if PyData.showable p = true ∧ p.depth ≤ 64 ∧ p.shown.length ≤ sizeLine then some p.shown else none
  | none => none
def gRepr : List D → Option E
  | [x] => x.repr?.map eStr
  | _ => none
def rReprA (K : PySem.W.Frag) : List V → Hp → VK → Prop := fun xs H Q => ∃ x p, xs = [x] ∧ Dp K H x p ∧ PyData.showable p = true ∧ p.depth ≤ 64 ∧ p.shown.length ≤ sizeLine ∧ Q (.str p.shown) H
theorem repr_snd {B : Bk} : SndL B gRepr (rReprA B.K) := by
  intro xs v us G H Q e s hx q
  unfold gRepr at e
  split at e
  · obtain ⟨z, e1, rfl⟩ := Option.map_eq_some_iff.mp e
    obtain ⟨u, rfl, h⟩ := tzl1 hx
    unfold D.repr? at e1
    split at e1
    · rename_i p hp
      split at e1
      · rename_i hc
        cases e1
        exact ⟨u, p, rfl, dp_of _ _ _ hp (h.fz s), hc.1, hc.2.1, hc.2.2, q _ _ _ (.scalar s (fz_str _))⟩
      · cases e1
    · cases e1
  · cases e
theorem py_hasDict : ∀ {d : PyData} {K : PySem.W.Frag} {H : Hp} {x : V}, Dp K H x d → d.hasDict = false := by
  intro d
  have : ∀ (d : PyData), (∀ (K : PySem.W.Frag) (H : Hp) (x : V), Dp K H x d → d.hasDict = false) := by
    intro d
    refine PyData.rec (motive_1 := fun d => ∀ (K : PySem.W.Frag) (H : Hp) (x : V), Dp K H x d → d.hasDict = false) (motive_2 := fun ds => ∀ (K : PySem.W.Frag) (H : Hp) (xs : List V), DpAll K H xs ds → PyData.hasDictAll ds = false)
      (motive_3 := fun _ => True) (motive_4 := fun _ => True) ?_ ?_ ?_ ?_ ?_ ?_ ?_ ?_ ?_ ?_ ?_ ?_ d
    · intro K H x _; simp only [PyData.hasDict]
    · intro b K H x _; simp only [PyData.hasDict]
    · intro b K H x _; simp only [PyData.hasDict]
    · intro b K H x _; simp only [PyData.hasDict]
    · intro xs ih K H x h
      cases h with
      | lst _ ha => simp only [PyData.hasDict]; exact ih _ _ _ ha
    · intro xs ih K H x h
      cases h with
      | tup _ ha => simp only [PyData.hasDict]; exact ih _ _ _ ha
    · intro kvs _ K H x h; cases h
    · intro K H xs _; simp only [PyData.hasDictAll]
    · intro x xs ih1 ih2 K H vs h
      cases h with
      | cons h1 h2 => simp only [PyData.hasDictAll, ih1 _ _ _ h1, ih2 _ _ _ h2, Bool.or_self]
    · trivial
    · intros; trivial
    · intros; trivial
  exact fun {K H x} h => this d K H x h
theorem call_reprA (hg : X.A.guards = some []) (hu : X.A.units + 64 < cLine) (hu2 : X.A.units + 65 < cLine) : CallR X (.builtin "repr") (rReprA X.K) := by
  intro pins s σ H xs us Q I r h
  obtain ⟨x, p, rfl, hd, h1, h2, h3, q⟩ := h
  obtain ⟨u, rfl, rx⟩ := vals1 r
  cases hd with
  | non => cases rx; exact PySem.P.repr_of_none ⟨.str _, H, I.tok _, ⟨s.toks, by simp only [PyData.shown]⟩, q⟩
  | bl b => cases rx; exact PySem.P.repr_of_bool ⟨.str _, H, I.tok _, ⟨s.toks, by simp only [PyData.shown]⟩, q⟩
  | int i =>
    obtain ⟨t, rfl⟩ := rx
    refine PySem.P.repr_of_int (by simpa [PyData.showable] using h1) ⟨.str _, H, I.tok _, ⟨s.toks, ?_⟩, q⟩
    simp only [PyData.shown]
  | str z =>
    obtain ⟨t, rfl⟩ := rx
    refine PySem.P.repr_of_str ⟨.str _, H, I.tok _, ⟨s.toks, ?_⟩, q⟩ (by simpa [PyData.shown] using h3)
    simp only [PyData.shown]
  | lst hs ha =>
    have hd : Dp X.K H _ (PyData.list _) := .lst hs ha
    cases rx
    obtain ⟨as, rr⟩ := Dp.reads I _ _ _ hd rfl
    refine repr_of_reads' rr h1 (fun z => by rw [py_hasDict hd] at z; cases z) hg (by omega) (fun _ _ e => e) (fun h' t tk hk => ?_) h3
    exact ⟨.str _, H, I.kept hk, ⟨_, rfl⟩, q⟩
  | tup hs ha =>
    have hd : Dp X.K H _ (PyData.tuple _) := .tup hs ha
    cases rx
    obtain ⟨as, rr⟩ := Dp.reads I _ _ _ hd rfl
    refine repr_of_reads' rr h1 (fun z => by rw [py_hasDict hd] at z; cases z) hg (by omega) (fun _ _ e => e) (fun h' t tk hk => ?_) h3
    exact ⟨.str _, H, I.kept hk, ⟨_, rfl⟩, q⟩
/-! ### methods that change nothing -/
def SndM (B : Bk) (g : D → List D → Option E) (r : V → List V → Hp → VK → Prop) : Prop :=
  ∀ (x : D) (xs : List D) (v : E) (a : V) (as : List V) (G H : Hp) (Q : VK), g x xs = some v → Same G H → Tz B G H a x → TzL B G H as xs → (∀ u H' G', New B G H u v H' G' → Q u H') → r a as H Q
def aMeth (T : String) (g : D → List D → Option E) (fo : List S → Res E) (fs : List S → Res (List E)) : List S → Res E := fun ρ => (fo ρ).bind fun v ρ1 => match v.val ρ1 with
  | some x0 => if x0.tyn = T ∧ T ≠ "tuple" then (fs ρ1).bind fun vs ρ2 => match v.val ρ2, valL ρ2 vs with
      | some x, some xs => match g x xs with
        | some w => .ok w ρ2
        | none => .no
      | _, _ => .no
    else .no
  | none => .no
theorem tyV_of {B : Bk} {G H : Hp} {x : D} {u : V} {T : String} (s : Same G H) (h : Tz B G H u x) (e : x.tyn = T) (ne : T ≠ "tuple") (hT : T = "str" ∨ T = "int" ∨ T = "list" ∨ T = "dict") : tyV B.K T u H := by
  cases x <;> simp only [D.tyn] at e <;> subst e
  · rcases hT with h | h | h | h <;> exact absurd h (by decide)
  · rcases hT with h | h | h | h <;> exact absurd h (by decide)
  · rw [tz_int h]; rfl
  · rw [tz_str h]; rfl
  · exact absurd rfl ne
  · obtain ⟨p, us, rfl, h1, h2⟩ := h; exact .inl ⟨rfl, us, SqL.of h1⟩
  · obtain ⟨p, us, rfl, h1, h2⟩ := h; exact .inr (.inr (.inl ⟨rfl, .inl ⟨us, h1⟩⟩))
  · rcases hT with h | h | h | h <;> exact absurd h (by decide)
  · rcases hT with h | h | h | h <;> exact absurd h (by decide)
  · rename_i ns
    have h : Fz B G u (.scr ns) := h
    rw [Fz] at h
    obtain ⟨p, rfl, h1⟩ := h
    exact .inl ⟨rfl, _, Same.seq s h1⟩
  · rcases hT with h | h | h | h <;> exact absurd h (by decide)
theorem a_meth {T id : String} {name : Str} {apos cpos : Pos} {g : D → List D → Option E} {r : V → List V → Hp → VK → Prop} (hT : T = "str" ∨ T = "int" ∨ T = "list" ∨ T = "dict") (pa : PlainAttrs T) (slot : Slot T name id) (hty : typeOf (.builtin id) = pure (.type "method_descriptor")) (hm : MtR X id r) (sn : SndM X.bk g r)
    (ho : PEa X W o fa) (ha : PAa X W (e :: es) fs) (hbase : attributeBase o name X.env (eval o X.env) = eval o X.env := by rfl)
    (hfew : ((backTo cpos (starEach (e :: es) X.env)).all (fun x => !x.1) && (backToKw cpos (keywordEach [] X.env)).all (fun x => x.1.isSome)
      && decide ((e :: es).length + ([] : List Keyword).length + (if ([] : List Keyword).isEmpty then 0 else 1) < 30)) = true := by rfl)
    (hline : (apos.endLine == cpos.line) = true := by rfl) (hs : starEach (e :: es) X.env = (false, eval e X.env) :: starEach es X.env := by rfl) (hplain : (backTo cpos (starEach es X.env)).any (·.1) = false := by rfl) :
    PEa X W (.Call (.Attribute o name apos) (e :: es) [] cpos) (aMeth T g fa fs) :=
  pe_imp (pe_bm pa slot hty hm ho ha hbase hfew hline hs hplain) fun σ H Q ⟨G, ρ, rl, h⟩ => by
    refine lift_mono (lift_first rl (Aft.cl (Q := Q)) h) fun u H1 ⟨v, ρ1, G1, P1, h1⟩ => ?_
    obtain ⟨w, ew, rw'⟩ := P1.re 0 v rfl
    cases ew
    split at h1
    · rename_i x0 hx0
      split at h1
      · rename_i hty
        refine ⟨tyV_of P1.post.rel.sub (P1.post.rel.val rw' hx0) hty.1 hty.2 hT, ?_⟩
        refine liftA_mono (liftA_next P1 (Aft.cl (Q := Q)) h1) fun us H2 ⟨vs, ρ2, G2, P2, h2⟩ => ?_
        split at h2
        · rename_i x xs hx hxs
          split at h2
          · rename_i z hz
            obtain ⟨w, ew, rw'⟩ := P2.re 0 v rfl
            cases ew
            exact sn x xs z u us G2 H2 Q hz P2.post.rel.sub (P2.post.rel.val rw' hx) (Pend.vals (P2.tail (us := us) (vs := vs)) hxs) fun w H' G' n => h2.fin P2.post n
          · exact h2.elim
        · exact h2.elim
      · exact h1.elim
    · exact h1.elim
def gJoin : D → List D → Option E
  | .str a, [.lst xs] => (D.strs? xs).bind fun ys => if (ys.map (·.length)).sum + ys.length * a.length ≤ 16777216 then some (eStr (Txt.join a ys)) else none
  | .str a, [.tup xs] => (D.strs? xs).bind fun ys => if (ys.map (·.length)).sum + ys.length * a.length ≤ 16777216 then some (eStr (Txt.join a ys)) else none
  | _, _ => none
abbrev rJoinA (K : PySem.W.Frag) : V → List V → Hp → VK → Prop := fun x xs H Q => ∃ a p, ∃ ys : List Str, x = .str a ∧ xs = [.ref p] ∧ (SqL K H p (ys.map V.str) ∨ SqT K H p (ys.map V.str)) ∧ (ys.map (·.length)).sum + ys.length * a.length ≤ 16777216 ∧ Q (.str (Txt.join a ys)) H
theorem join_snd {B : Bk} : SndM B gJoin (rJoinA B.K) := by
  intro x xs v a as G H Q e s hx hxs q
  unfold gJoin at e
  split at e
  · obtain ⟨ys, e1, e2⟩ := Option.bind_eq_some_iff.mp e
    split at e2
    · rename_i hz
      cases e2
      obtain ⟨u, rfl, p, ws, rfl, h1, h2⟩ := tzl1 hxs
      rw [strs_v h2 e1] at h1
      exact ⟨_, p, ys, tz_str hx, rfl, .inl (SqL.of h1), hz, q _ _ _ (.scalar s (fz_str _))⟩
    · cases e2
  · obtain ⟨ys, e1, e2⟩ := Option.bind_eq_some_iff.mp e
    split at e2
    · rename_i hz
      cases e2
      obtain ⟨u, rfl, h⟩ := tzl1 hxs
      obtain ⟨p, ws, rfl, h1, h2⟩ := tz_tup h
      rw [strs_v h2 e1] at h1
      exact ⟨_, p, ys, tz_str hx, rfl, .inr (Same.sqt s h1), hz, q _ _ _ (.scalar s (fz_str _))⟩
    · cases e2
  · cases e
def gSplit : D → List D → Option E
  | .str a, [.str b] => if (b.length == 0) = false ∧ a.length + 2 ≤ sizeLine then some (.fr (.lst ((Txt.split a b).map .str))) else none
  | _, _ => none
theorem split_snd {B : Bk} : SndM B gSplit (fun x xs H Q => ∃ a b, x = .str a ∧ xs = [.str b] ∧ (b.length == 0) = false ∧ a.length + 2 ≤ sizeLine ∧ rNewStrs (Txt.split a b) H Q) := by
  intro x xs v a as G H Q e s hx hxs q
  unfold gSplit at e
  split at e
  · split at e
    · rename_i hz
      cases e
      obtain ⟨u, rfl, h⟩ := tzl1 hxs
      exact ⟨_, _, tz_str hx, by rw [tz_str h], hz.1, hz.2, fun p hp => q _ _ _ (.own s hp ⟨_, rfl, fz_strs _⟩)⟩
    · cases e
  · cases e
/-- a content that no name can own -/
def D.imm : D → Bool
  | .lst _ => false
  | .dct _ => false
  | _ => true
theorem tz_imm {B : Bk} {G H : Hp} {u : V} {x : D} (h : Tz B G H u x) (e : x.imm = true) : Fz B G u x := by
  cases x <;> first | exact h | cases e
/-- d.get(k), d.get(k, x) -/
def gGet : D → List D → Option E
  | .dct kvs, [k] => k.key?.map fun k => .d ((kget kvs k).getD .non)
  | .dct kvs, [k, x] => if x.imm = true then k.key?.map fun k => .d ((kget kvs k).getD x) else none
  | _, _ => none
abbrev rGetA : V → List V → Hp → VK → Prop := fun x xs H Q => ∃ a kvs k, x = .ref a ∧ H a = some (.dK kvs) ∧ ((xs = [kV k] ∧ Q ((valV kvs k).getD .non) H) ∨ ∃ z, xs = [kV k, z] ∧ Q ((valV kvs k).getD z) H)
theorem mt_getA (hu : X.A.units + 64 < cLine) : MtR X "dict.get" rGetA := by
  intro pins s σ H x xs v us Q I rx rs h
  obtain ⟨a, kvs, k, rfl, hp, ⟨rfl, q⟩ | ⟨z, rfl, q⟩⟩ := h
  · cases rx
    cases rs with
    | cons r1 rs =>
      cases rs
      exact d_get1 (by omega) I (DGet.k hp) r1 fun w' s' I' r' => ⟨_, H, I', r', q⟩
  · cases rx
    cases rs with
    | cons r1 rs =>
      cases rs with
      | cons r2 rs =>
        cases rs
        exact d_get2 (by omega) I (DGet.k hp) r1 r2 fun w' s' I' r' => ⟨_, H, I', r', q⟩
theorem getD_v {B : Bk} {G : Hp} {k : Key} {ds : List (Key × D)} {kvs : List (Key × V)} {x : D} {w : V} (h : FzK B G kvs ds) (hx : Fz B G w x) : Fz B G ((valV kvs k).getD w) ((kget ds k).getD x) := by
  cases eg : kget ds k with
  | some d => obtain ⟨w, e3, f⟩ := kget_some h eg; rw [e3]; exact f
  | none => rw [kget_none h eg]; exact hx
theorem get_snd {B : Bk} : SndM B gGet rGetA := by
  intro x xs v a as G H Q e s hx hxs q
  unfold gGet at e
  split at e
  · obtain ⟨k, e1, rfl⟩ := Option.map_eq_some_iff.mp e
    obtain ⟨p, kvs, rfl, h1, h2⟩ := hx
    obtain ⟨u, rfl, h⟩ := tzl1 hxs
    refine ⟨p, kvs, k, rfl, h1, .inl ⟨by rw [key_v (h.fz s) e1], ?_⟩⟩
    refine q _ _ _ (.scalar s ?_)
    exact getD_v h2 fz_non
  · split at e
    · rename_i hi
      obtain ⟨k, e1, rfl⟩ := Option.map_eq_some_iff.mp e
      obtain ⟨p, kvs, rfl, h1, h2⟩ := hx
      obtain ⟨u, w, rfl, h, h'⟩ := tzl2 hxs
      exact ⟨p, kvs, k, rfl, h1, .inr ⟨w, by rw [key_v (h.fz s) e1], q _ _ _ (.scalar s (getD_v h2 (tz_imm h' hi)))⟩⟩
    · cases e
  · cases e
end
end L2.AL
/-! A6: what a name owns is changed; names are set; targets; what a loop goes through; comprehensions. -/
namespace L2.AL
open PySem PySem.Spec PyProof.Rows
section
variable {B : Bk} {σ σ0 : St} {ρ ρ0 ρ' : List S} {H H0 H' G G0 G' : Hp}
/-! ### a slot's object is changed -/
theorem mut_post {i : Nat} {a : Addr} {o o' : O} {ho : HO} (p : Post B σ ρ0 H0 G0 σ ρ H G) (hs : σ[i]? = some (some (.ref a))) (hr : ρ[i]? = some (.own o)) (ro : RO B G ho o') :
    Post B σ ρ0 H0 G0 σ (ρ.set i (.own o')) (upd H a ho) G := by
  have ow : Own σ ρ i a := ⟨hs, o, hr⟩
  have hi : i < ρ.length := (List.getElem?_eq_some_iff.mp hr).1
  obtain ⟨v, e1, a', ob, e2, e3, e4, e5⟩ := p.rel.slot i _ hr
  rw [hs] at e1; cases e1; cases e2
  have oo : ∀ j b, Own σ (ρ.set i (.own o')) j b → Own σ ρ j b := fun j b ⟨w1, o2, w2⟩ => by
    by_cases hj : i = j
    · subst hj
      rw [hs] at w1; cases w1
      exact ow
    · rw [List.getElem?_set_ne hj] at w2
      exact ⟨w1, o2, w2⟩
  refine ⟨p.grow, fun b e => p.dom b ?_, fun b u e n => ?_, p.keep, ⟨fun b u e => ?_, by rw [List.length_set]; exact p.rel.len, fun j s e => ?_, fun j k b w w' => p.rel.sep j k b (oo j b w) (oo k b w')⟩, fun j b w => p.own j b (oo j b w)⟩
  · by_cases hb : b = a
    · subst hb; rw [upd_same] at e; cases e
    · rw [upd_ne hb] at e; exact e
  · have hb : b ≠ a := fun z => by
      subst z
      rcases p.own i b ow with w | w
      · exact n i w
      · rw [e] at w; cases w
    rw [upd_ne hb]; exact p.frame b u e n
  · have hb : b ≠ a := fun z => by subst z; rw [e4] at e; cases e
    rw [upd_ne hb]; exact p.rel.sub b u e
  · by_cases hj : i = j
    · subst hj
      rw [List.getElem?_set_self hi] at e
      cases e
      exact ⟨_, hs, a, ho, rfl, upd_same, e4, ro⟩
    · rw [List.getElem?_set_ne hj] at e
      obtain ⟨w, q1, q2⟩ := p.rel.slot j s e
      refine ⟨w, q1, ?_⟩
      cases s with
      | no => trivial
      | d y => exact q2
      | own o2 =>
        obtain ⟨b, ob2, t1, t2, t3, t4⟩ := q2
        subst t1
        have hb : b ≠ a := fun z => by
          subst z
          exact hj (p.rel.sep i j b ow ⟨q1, o2, e⟩)
        exact ⟨b, ob2, rfl, by rw [upd_ne hb]; exact t2, t3, t4⟩
/-! ### names are set -/
/-- values for slots: what another slot holds is given away -/
def toS : E → List S → Option (S × List S)
  | .d x, ρ => some (.d x, ρ)
  | .fr o, ρ => some (.own o, ρ)
  | .sl i, ρ => match freeze i ρ with
    | some (x, ρ1) => some (.d x, ρ1)
    | none => none
def toSL : List E → List S → Option (List S × List S)
  | [], ρ => some ([], ρ)
  | v :: vs, ρ => match toS v ρ with
    | none => none
    | some (x, ρ1) => match toSL vs ρ1 with
      | none => none
      | some (xs, ρ2) => some (x :: xs, ρ2)
def setL {α : Type} : List α → List Nat → List α → List α
  | l, [], _ => l
  | l, _ :: _, [] => l
  | l, i :: is, x :: xs => setL (l.set i x) is xs
def WaitS (B : Bk) (G : Hp) (σ : St) (ρ : List S) (H H0 : Hp) (u : V) : S → Prop
  | .no => False
  | .d x => Fz B G u x
  | .own o => ∃ a ho, u = .ref a ∧ H a = some ho ∧ G a = none ∧ RO B G ho o ∧ (∀ i, ¬ Own σ ρ i a) ∧ H0 a = none
/-- values that wait to be set -/
structure Wait (B : Bk) (G : Hp) (σ : St) (ρ : List S) (H H0 : Hp) (us : List V) (ss : List S) : Prop where
  len : us.length = ss.length
  ok : ∀ (k : Nat) (s : S), ss[k]? = some s → ∃ u, us[k]? = some u ∧ WaitS B G σ ρ H H0 u s
  apart : ∀ (k l : Nat) (o o' : O) (a : Addr), ss[k]? = some (.own o) → ss[l]? = some (.own o') → us[k]? = some (.ref a) → us[l]? = some (.ref a) → k = l
theorem Pend.toS1 {u : V} {v : E} {us : List V} {vs : List E} {s : S} (p : Pend B σ ρ0 H0 G0 ρ H G (u :: us) (v :: vs)) (e : toS v ρ = some (s, ρ')) :
    ∃ G', Pend B σ ρ0 H0 G0 ρ' H G' us vs ∧ Same G G' ∧ (∀ b, (∀ i, ¬ Own σ ρ i b) → G b = none → G' b = none) ∧ (∀ i b, Own σ ρ' i b → Own σ ρ i b) ∧ match s with
      | .no => False
      | .d x => Fz B G' u x
      | .own o => v = .fr o := by
  obtain ⟨w, ew, rw'⟩ := p.re 0 v rfl
  cases ew
  cases v with
  | d y => cases e; exact ⟨G, p.tail, .refl _, fun _ _ h => h, fun _ _ h => h, rw'⟩
  | fr o => cases e; exact ⟨G, p.tail, .refl _, fun _ _ h => h, fun _ _ h => h, rfl⟩
  | sl i =>
    simp only [toS] at e
    split at e
    · rename_i x ρ1 hf
      cases e
      obtain ⟨G', q, f, hk⟩ := freeze_ok p.post.rel rw' hf
      refine ⟨G', ⟨p.post.trans q, p.tail.len, fun j w ej => ?_, fun j o a ej e' => p.tail.new j o a ej e', p.tail.apart⟩, q.grow, hk, fun j b w => ?_, f⟩
      · obtain ⟨y, e1, e2⟩ := p.tail.re j w ej
        exact ⟨y, e1, e2.step q⟩
      · unfold freeze at hf
        split at hf
        · cases hf; exact w
        · rename_i o ho
          cases hf
          obtain ⟨w1, o2, w2⟩ := w
          by_cases hj : i = j
          · subst hj
            rw [List.getElem?_set_self (List.getElem?_eq_some_iff.mp ho).1] at w2
            cases w2
          · rw [List.getElem?_set_ne hj] at w2
            exact ⟨w1, o2, w2⟩
        · cases hf
    · cases e
theorem Pend.toSL : ∀ {us : List V} {vs : List E} {ss : List S} {ρ ρ' : List S} {G : Hp}, Pend B σ ρ0 H0 G0 ρ H G us vs → AL.toSL vs ρ = some (ss, ρ') →
    ∃ G', Post B σ ρ0 H0 G0 σ ρ' H G' ∧ Wait B G' σ ρ' H H0 us ss ∧ Same G G' ∧ (∀ b, (∀ i, ¬ Own σ ρ i b) → G b = none → G' b = none) ∧ (∀ i b, Own σ ρ' i b → Own σ ρ i b) ∧ (∀ (k : Nat) (o : O), ss[k]? = some (.own o) → vs[k]? = some (.fr o))
  | [], [], ss, ρ, ρ', G, p, e => by
    cases e
    exact ⟨G, p.post, ⟨rfl, fun k s e => by simp at e, fun k l o o' a e => by simp at e⟩, .refl _, fun _ _ h => h, fun _ _ h => h, fun k o e => by simp at e⟩
  | [], _ :: _, _, _, _, _, p, _ => by have := p.len; simp at this
  | _ :: _, [], _, _, _, _, p, _ => by have := p.len; simp at this
  | u :: us, v :: vs, ss, ρ, ρ', G, p, e => by
    simp only [AL.toSL] at e
    split at e
    · cases e
    · rename_i x ρ1 e1
      split at e
      · cases e
      · rename_i ys ρ2 e2
        cases e
        obtain ⟨G1, p1, s1, k1, o1, f1⟩ := p.toS1 e1
        obtain ⟨G2, q2, w2, s2, k2, o2, f2⟩ := Pend.toSL p1 e2
        obtain ⟨wv, ewv, rwv⟩ := p.re 0 v rfl
        cases ewv
        refine ⟨G2, q2, ⟨by simp [w2.len], fun k s ek => ?_, fun k l o o' a ek el uk ul => ?_⟩, s1.trans s2, fun b nb gb => k2 b (fun i w => nb i (o1 i b w)) (k1 b nb gb), fun i b w => o1 i b (o2 i b w), fun k o ek => ?_⟩
        · cases k with
          | zero =>
            cases ek
            refine ⟨u, rfl, ?_⟩
            cases x with
            | no => exact f1.elim
            | d y => exact Fz.mono s2 _ _ f1
            | own o =>
              have f1 : v = .fr o := f1
              subst f1
              obtain ⟨a, ho, rfl, r1, r2, r3, r4⟩ := rwv
              exact ⟨a, ho, rfl, r1, k2 a (fun i w => r4 i (o1 i a w)) (k1 a r4 r2), r3.mono (s1.trans s2), fun i w => r4 i (o1 i a (o2 i a w)), p.new 0 o a rfl rfl⟩
          | succ k =>
            obtain ⟨y, e3, e4⟩ := w2.ok k s (by simpa using ek)
            exact ⟨y, by simpa using e3, e4⟩
        · have gv : ∀ {k : Nat} {o : O}, (x :: ys)[k]? = some (.own o) → (v :: vs)[k]? = some (.fr o) := fun {k o} ek => by
            cases k with
            | zero => cases ek; exact congrArg some f1
            | succ k => exact f2 k o (by simpa using ek)
          exact p.apart k l o o' a (gv ek) (gv el) uk ul
        · cases k with
          | zero => cases ek; exact congrArg some f1
          | succ k => exact f2 k o (by simpa using ek)
/-- one slot is set -/
theorem Wait.set1 {i : Nat} {u : V} {s : S} {us : List V} {ss : List S} (p : Post B σ0 ρ0 H0 G0 σ ρ H G) (w : Wait B G σ ρ H H0 (u :: us) (s :: ss)) (hi : i < ρ.length) :
    Post B σ0 ρ0 H0 G0 (σ.set i (some u)) (ρ.set i s) H G ∧ Wait B G (σ.set i (some u)) (ρ.set i s) H H0 us ss := by
  obtain ⟨y, ey, ws⟩ := w.ok 0 s rfl
  cases ey
  have hi' : i < σ.length := by rw [p.rel.len]; exact hi
  have oo : ∀ j b, Own (σ.set i (some u)) (ρ.set i s) j b → (j ≠ i ∧ Own σ ρ j b) ∨ (j = i ∧ u = .ref b ∧ ∃ o, s = .own o) := fun j b ⟨w1, o2, w2⟩ => by
    by_cases hj : i = j
    · subst hj
      rw [List.getElem?_set_self hi'] at w1
      rw [List.getElem?_set_self hi] at w2
      cases w1; cases w2
      exact .inr ⟨rfl, rfl, o2, rfl⟩
    · rw [List.getElem?_set_ne hj] at w1 w2
      exact .inl ⟨fun z => hj z.symm, w1, o2, w2⟩
  have nown : ∀ {b : Addr} {o : O}, u = .ref b → s = .own o → ∀ j, ¬ Own σ ρ j b := fun {b o} eu es => by
    subst eu es
    obtain ⟨a, ho, e1, _, _, _, n, _⟩ := ws
    cases e1
    exact n
  refine ⟨⟨p.grow, p.dom, p.frame, p.keep, ⟨p.rel.sub, by rw [List.length_set, List.length_set]; exact p.rel.len, fun j t e => ?_, fun j k b w1 w2 => ?_⟩, fun j b w1 => ?_⟩, ⟨by have := w.len; simpa using this, fun k t e => ?_, fun k l o o' a e1 e2 e3 e4 => by have := w.apart (k + 1) (l + 1) o o' a e1 e2 e3 e4; omega⟩⟩
  · by_cases hj : i = j
    · subst hj
      rw [List.getElem?_set_self hi] at e
      cases e
      refine ⟨some u, by rw [List.getElem?_set_self hi'], ?_⟩
      cases s with
      | no => exact ws.elim
      | d x => exact ⟨u, rfl, ws⟩
      | own o => obtain ⟨a, ho, rfl, h1, h2, h3, _⟩ := ws; exact ⟨a, ho, rfl, h1, h2, h3⟩
    · rw [List.getElem?_set_ne hj] at e
      obtain ⟨v, e1, e2⟩ := p.rel.slot j t e
      exact ⟨v, by rw [List.getElem?_set_ne hj]; exact e1, e2⟩
  · rcases oo j b w1 with ⟨n1, o1⟩ | ⟨rfl, eu, o1, es⟩
    · rcases oo k b w2 with ⟨n2, o2⟩ | ⟨rfl, eu, o2, es⟩
      · exact p.rel.sep j k b o1 o2
      · exact absurd o1 (nown eu es j)
    · rcases oo k b w2 with ⟨n2, o2⟩ | ⟨rfl, eu', o2, es'⟩
      · exact absurd o2 (nown eu es k)
      · rfl
  · rcases oo j b w1 with ⟨n1, o1⟩ | ⟨rfl, eu, o1, es⟩
    · exact p.own j b o1
    · subst eu es
      obtain ⟨a, ho, e1, _, _, _, _, h0⟩ := ws
      cases e1
      exact .inr h0
  · obtain ⟨y, e1, e2⟩ := w.ok (k + 1) t e
    refine ⟨y, e1, ?_⟩
    cases t with
    | no => exact e2
    | d x => exact e2
    | own o =>
      obtain ⟨a, ho, rfl, h1, h2, h3, h4, h5⟩ := e2
      refine ⟨a, ho, rfl, h1, h2, h3, fun j w1 => ?_, h5⟩
      rcases oo j a w1 with ⟨n1, o1⟩ | ⟨rfl, eu, o1, es⟩
      · exact h4 j o1
      · subst eu es
        have := w.apart 0 (k + 1) o1 o a rfl e rfl e1
        omega
theorem Wait.setL : ∀ {is : List Nat} {us : List V} {ss : List S} {σ : St} {ρ : List S}, Post B σ0 ρ0 H0 G0 σ ρ H G → Wait B G σ ρ H H0 us ss → is.length = ss.length → (∀ i ∈ is, i < ρ.length) →
    Post B σ0 ρ0 H0 G0 (AL.setL σ is (us.map some)) (AL.setL ρ is ss) H G
  | [], us, ss, σ, ρ, p, w, _, _ => by simpa only [AL.setL] using p
  | i :: is, [], ss, σ, ρ, p, w, hl, _ => by have := w.len; rw [← this] at hl; simp at hl
  | i :: is, u :: us, [], σ, ρ, p, w, hl, _ => by simp at hl
  | i :: is, u :: us, s :: ss, σ, ρ, p, w, hl, hi => by
    obtain ⟨p1, w1⟩ := w.set1 p (hi i List.mem_cons_self)
    have z := Wait.setL (is := is) p1 w1 (by simpa using hl) fun j hj => by rw [List.length_set]; exact hi j (List.mem_cons_of_mem _ hj)
    simpa only [AL.setL, List.map_cons] using z
end
end L2.AL
/-! A7: targets by content, what a loop goes through, comprehensions, methods that change. -/
namespace L2.AL
open PySem PySem.Spec PyProof.Rows
/-! ### targets -/
inductive Tg where
  | nm (i : Nat) | tp (ts : List Tg)
mutual
def Tg.names : Tg → List Nat
  | .nm i => [i]
  | .tp ts => Tg.namesL ts
def Tg.namesL : List Tg → List Nat
  | [] => []
  | t :: ts => t.names ++ Tg.namesL ts
end
mutual
def tset : Tg → D → List S → Option (List S)
  | .nm i, x, ρ => some (ρ.set i (.d x))
  | .tp ts, x, ρ => match x with
    | .tup xs => tsetL ts xs ρ
    | .lst xs => tsetL ts xs ρ
    | _ => none
def tsetL : List Tg → List D → List S → Option (List S)
  | [], xs, ρ => match xs with
    | [] => some ρ
    | _ => none
  | t :: ts, xs, ρ => match xs with
    | [] => none
    | x :: xs => match tset t x ρ with
      | some ρ1 => tsetL ts xs ρ1
      | none => none
end
section
variable {B : Bk} {σ σ' σ0 : St} {ρ ρ0 ρ' : List S} {H H0 H' G G0 G' : Hp}
theorem Post.setD {v : V} {x : D} (i : Nat) (r : Rel B G σ ρ H) (h : Fz B G v x) : Post B σ ρ H G (σ.set i (some v)) (ρ.set i (.d x)) H G := by
  have oo : ∀ j b, Own (σ.set i (some v)) (ρ.set i (.d x)) j b → Own σ ρ j b := fun j b ⟨w1, o2, w2⟩ => by
    by_cases hj : i = j
    · subst hj
      by_cases hi : i < ρ.length
      · rw [List.getElem?_set_self hi] at w2; cases w2
      · rw [List.getElem?_eq_none (by simpa using hi)] at w2; cases w2
    · rw [List.getElem?_set_ne hj] at w1 w2
      exact ⟨w1, o2, w2⟩
  refine ⟨.refl _, fun _ h => h, fun _ _ h _ => h, fun _ _ _ h _ => h, ⟨r.sub, by rw [List.length_set, List.length_set]; exact r.len, fun j t e => ?_, fun j k b w1 w2 => r.sep j k b (oo j b w1) (oo k b w2)⟩, fun j b w => .inl (oo j b w)⟩
  by_cases hj : i = j
  · subst hj
    have hi : i < ρ.length := by
      have := (List.getElem?_eq_some_iff.mp e).1
      simpa using this
    rw [List.getElem?_set_self hi] at e
    cases e
    exact ⟨some v, by rw [List.getElem?_set_self (by rw [r.len]; exact hi)], v, rfl, h⟩
  · rw [List.getElem?_set_ne hj] at e
    obtain ⟨w, e1, e2⟩ := r.slot j t e
    exact ⟨w, by rw [List.getElem?_set_ne hj]; exact e1, e2⟩
def gD (B : Bk) (t : Tg) : TG := fun v σ H Q => ∃ G ρ x ρ', Rel B G σ ρ H ∧ Fz B G v x ∧ tset t x ρ = some ρ' ∧ ∀ σ', Post B σ ρ H G σ' ρ' H G → (∀ j, j ∉ t.names → σ'[j]? = σ[j]?) → Q σ' H
def gDs (B : Bk) (ts : List Tg) : TGs := fun vs σ H Q => ∃ G ρ xs ρ', Rel B G σ ρ H ∧ FzL B G vs xs ∧ tsetL ts xs ρ = some ρ' ∧ ∀ σ', Post B σ ρ H G σ' ρ' H G → (∀ j, j ∉ Tg.namesL ts → σ'[j]? = σ[j]?) → Q σ' H
end
section
variable {X : Cx} {pos : Pos}
theorem pg_imp {tg : Expr} {t t' : TG} (h : PG X tg t) (w : ∀ v σ H Q, t' v σ H Q → t v σ H Q) : PG X tg t' := ⟨fun pins s σ H v u Q I r q => h.run pins s σ H v u Q I r (w v σ H Q q)⟩
theorem pgs_imp {tg : List Expr} {t t' : TGs} (h : PGs X tg t) (w : ∀ v σ H Q, t' v σ H Q → t v σ H Q) : PGs X tg t' := ⟨fun pins s σ H v u Q I r q => h.run pins s σ H v u Q I r (w v σ H Q q)⟩
theorem pg_or {tg : Expr} {t t' : TG} (h : PG X tg t) (h' : PG X tg t') : PG X tg (fun v σ H Q => t v σ H Q ∨ t' v σ H Q) := ⟨fun pins s σ H v u Q I r q => q.elim (h.run pins s σ H v u Q I r) (h'.run pins s σ H v u Q I r)⟩
theorem g_nm {i : Nat} {x : Str} (hN : X.N.Nodup) (hi : X.N[i]? = some x) (hx : Loc X.env.scope x) (hf : X.fn x = true ∨ X.env.scope.names.lookup x = some .local := by first | exact .inl rfl | exact .inr rfl | assumption) : PG X (.Name x pos) (gD X.bk (.nm i)) :=
  pg_imp (pg_name hN hi hx hf) fun v σ H Q ⟨G, ρ, x, ρ', r, f, e, q⟩ => by
    simp only [tset, Option.some.injEq] at e
    subst e
    refine q _ (Post.setD i r f) fun j hj => ?_
    simp only [Tg.names, List.mem_singleton] at hj
    rw [List.getElem?_set_ne (Ne.symm hj)]
theorem g_nil : PGs X [] (gDs X.bk []) := pgs_imp pgs_nil fun vs σ H Q ⟨G, ρ, xs, ρ', r, f, e, q⟩ => by
  cases xs with
  | nil =>
    simp only [tsetL, Option.some.injEq] at e
    subst e
    cases vs with
    | nil => exact ⟨rfl, q σ (.refl r) fun _ _ => rfl⟩
    | cons _ _ => rw [FzL] at f; exact f.elim
  | cons _ _ => simp [tsetL] at e
theorem g_cons {e : Expr} {es : List Expr} {t : Tg} {ts : List Tg} (h1 : PG X e (gD X.bk t)) (h2 : PGs X es (gDs X.bk ts))
    (hs : (assignEach (e :: es) X.env).map (·.2) = assign e X.env :: (assignEach es X.env).map (·.2) := by rfl) : PGs X (e :: es) (gDs X.bk (t :: ts)) :=
  pgs_imp (pgs_cons h1 h2 hs) fun vs σ H Q ⟨G, ρ, xs, ρ', r, f, e, q⟩ => by
    cases xs with
    | nil => simp [tsetL] at e
    | cons x xs =>
      cases vs with
      | nil => rw [FzL] at f; exact f.elim
      | cons v vs =>
        rw [FzL] at f
        simp only [tsetL] at e
        split at e
        · rename_i ρ1 e1
          refine ⟨v, vs, rfl, G, ρ, x, ρ1, r, f.1, e1, fun σ1 p1 k1 => ?_⟩
          refine ⟨G, ρ1, xs, ρ', p1.rel, f.2, e, fun σ2 p2 k2 => q σ2 (p1.trans p2) fun j hj => ?_⟩
          simp only [Tg.namesL, List.mem_append, not_or] at hj
          rw [k2 j hj.2, k1 j hj.1]
        · cases e
theorem FzL.len_eq {B : Bk} {G : Hp} {us : List V} {xs : List D} (h : FzL B G us xs) : us.length = xs.length := h.length
theorem tsetL_len : ∀ {ts : List Tg} {xs : List D} {ρ ρ' : List S}, tsetL ts xs ρ = some ρ' → xs.length = ts.length
  | [], [], _, _, _ => rfl
  | [], _ :: _, _, _, e => by simp [tsetL] at e
  | _ :: _, [], _, _, e => by simp [tsetL] at e
  | t :: ts, x :: xs, ρ, ρ', e => by
    simp only [tsetL] at e
    split at e
    · rw [List.length_cons, List.length_cons, tsetL_len e]
    · cases e
theorem g_tp {es : List Expr} {k : Nat} {ts : List Tg} (hc : X.calm = true) (h : PGs X es (gDs X.bk ts))
    (hn : (assignEach es X.env).length = ts.length := by rfl) (hst : (assignEach es X.env).findIdx? (·.1) = none := by rfl) : PG X (.Tuple es k pos) (gD X.bk (.tp ts)) :=
  pg_imp (pg_or (pg_tup hc h hn hst) (pg_lst hc h hn hst)) fun v σ H Q ⟨G, ρ, x, ρ', r, f, e, q⟩ => by
    cases x <;> simp only [tset, reduceCtorEq] at e
    · rw [Fz] at f
      obtain ⟨a, us, rfl, h1, h2⟩ := f
      exact .inl ⟨a, us, rfl, Same.sqt r.sub h1, by rw [h2.length]; exact tsetL_len e, G, ρ, _, ρ', r, h2, e, fun σ' p k => q σ' p fun j hj => k j (by simpa only [Tg.names] using hj)⟩
    · rw [Fz] at f
      obtain ⟨a, us, rfl, h1, h2⟩ := f
      exact .inr ⟨a, us, rfl, SqL.of (r.sub _ _ h1), by rw [h2.length]; exact tsetL_len e, G, ρ, _, ρ', r, h2, e, fun σ' p k => q σ' p fun j hj => k j (by simpa only [Tg.names] using hj)⟩
end
/-! ### what a loop goes through -/
structure WalksD (B : Bk) (J : It) (G : Hp) (xs : List D) : Prop where
  go : ∀ i H G', i < xs.length → Same G G' → Same G' H → J.go i H
  stop : ∀ H G', Same G G' → Same G' H → J.stop xs.length H
  yld : ∀ i H G' v H', i < xs.length → Same G G' → Same G' H → J.yld i H v H' → ∃ x G'', xs[i]? = some x ∧ New B G' H v (.d x) H' G''
section
variable {B : Bk} {G : Hp}
theorem walks_list {a : Addr} {us : List V} {xs : List D} (h : G a = some (.lst us)) (f : FzL B G us xs) : WalksD B (Itl B.K a) G xs := by
  have hl := f.length
  refine ⟨fun i H G' hi s1 s2 => ?_, fun H G' s1 s2 => ?_, fun i H G' v H' hi s1 s2 y => ?_⟩
  · exact walk_list.goes i H (by rw [hl]; exact hi) (SqL.of (s2 _ _ (s1 _ _ h)))
  · rw [← hl]; exact walk_list.stops H (SqL.of (s2 _ _ (s1 _ _ h)))
  · obtain ⟨rfl, e⟩ := walk_list.yields i H v H' (by rw [hl]; exact hi) (SqL.of (s2 _ _ (s1 _ _ h))) y
    obtain ⟨x, e1, f1⟩ := f.get' e
    exact ⟨x, G', e1, .scalar s2 (Fz.mono s1 _ _ f1)⟩
theorem walks_scr {a : Addr} {ns : List Int} (h : SqL B.K G a (ns.map V.int)) : WalksD B (Itl B.K a) G (ns.map .int) := by
  refine ⟨fun i H G' hi s1 s2 => ?_, fun H G' s1 s2 => ?_, fun i H G' v H' hi s1 s2 y => ?_⟩
  · exact walk_list.goes i H (by simpa using hi) (Same.seq s2 (Same.seq s1 h))
  · have := walk_list.stops H (Same.seq s2 (Same.seq s1 h)); simpa using this
  · obtain ⟨rfl, e⟩ := walk_list.yields i H v H' (by simpa using hi) (Same.seq s2 (Same.seq s1 h)) y
    rw [List.getElem?_map] at e
    obtain ⟨n, e1, rfl⟩ := Option.map_eq_some_iff.mp e
    exact ⟨.int n, G', by rw [List.getElem?_map, e1]; rfl, .scalar s2 (fz_int _)⟩
theorem walks_tup {a : Addr} {us : List V} {xs : List D} (h : SqT B.K G a us) (f : FzL B G us xs) : WalksD B (Itt B.K a) G xs := by
  have hl := f.length
  refine ⟨fun i H G' hi s1 s2 => ?_, fun H G' s1 s2 => ?_, fun i H G' v H' hi s1 s2 y => ?_⟩
  · exact walk_tup.goes i H (by rw [hl]; exact hi) (Same.sqt s2 (Same.sqt s1 h))
  · rw [← hl]; exact walk_tup.stops H (Same.sqt s2 (Same.sqt s1 h))
  · obtain ⟨rfl, e⟩ := walk_tup.yields i H v H' (by rw [hl]; exact hi) (Same.sqt s2 (Same.sqt s1 h)) y
    obtain ⟨x, e1, f1⟩ := f.get' e
    exact ⟨x, G', e1, .scalar s2 (Fz.mono s1 _ _ f1)⟩
def signs (z : Str) : List D := z.cps.toList.map fun c => .str ⟨#[c]⟩
theorem walks_str {z : Str} : WalksD B (Its z) G (signs z) := by
  have hl : (signs z).length = z.cps.size := by unfold signs; simp
  refine ⟨fun i H G' hi s1 s2 => ?_, fun H G' s1 s2 => ?_, fun i H G' v H' hi s1 s2 y => ?_⟩
  · exact walk_str.goes i H (by rw [← hl]; exact hi) trivial
  · rw [hl]; exact walk_str.stops H trivial
  · obtain ⟨rfl, c, e, rfl⟩ := walk_str.yields i H v H' (by rw [← hl]; exact hi) trivial y
    exact ⟨.str ⟨#[c]⟩, G', by unfold signs; rw [List.getElem?_map, Array.getElem?_toList, e]; rfl, .scalar s2 (fz_str _)⟩
def rangeD (lo : Int) (n : Nat) : List D := (List.range n).map fun (i : Nat) => .int (lo + (i : Int))
theorem walks_range {lo : Int} {n : Nat} : WalksD B (Itr lo n) G (rangeD lo n) := by
  have hl : (rangeD lo n).length = n := by unfold rangeD; simp
  refine ⟨fun i H G' hi s1 s2 => ?_, fun H G' s1 s2 => ?_, fun i H G' v H' hi s1 s2 y => ?_⟩
  · exact walk_range.goes i H (by rw [← hl]; exact hi) trivial
  · rw [hl]; exact walk_range.stops H trivial
  · obtain ⟨rfl, rfl⟩ := walk_range.yields i H v H' (by rw [← hl]; exact hi) trivial y
    rw [hl] at hi
    exact ⟨.int (lo + i), G', by unfold rangeD; rw [List.getElem?_map, List.getElem?_range hi]; rfl, .scalar s2 (fz_int _)⟩
def enumD (xs : List D) : List D := xs.mapIdx fun i x => .tup [.int i, x]
theorem walks_enum {a : Addr} {us : List V} {xs : List D} (h : G a = some (.lst us)) (f : FzL B G us xs) : WalksD B (Ite B.K a) G (enumD xs) := by
  have hl := f.length
  have hl' : (enumD xs).length = xs.length := by unfold enumD; simp
  refine ⟨fun i H G' hi s1 s2 => ?_, fun H G' s1 s2 => ?_, fun i H G' v H' hi s1 s2 y => ?_⟩
  · exact walk_enum.goes i H (by rw [hl, ← hl']; exact hi) (SqL.of (s2 _ _ (s1 _ _ h)))
  · rw [hl', ← hl]; exact walk_enum.stops H (SqL.of (s2 _ _ (s1 _ _ h)))
  · obtain ⟨T, p, q, rfl, hT, rfl, e1, e2⟩ := walk_enum.yields i H v H' (by rw [hl, ← hl']; exact hi) (SqL.of (s2 _ _ (s1 _ _ h))) y
    cases e1
    obtain ⟨x, e3, f1⟩ := f.get' e2
    exact ⟨.tup [.int i, x], _, by unfold enumD; rw [List.getElem?_mapIdx, e3]; rfl, .tup s2 hT (.cons (fz_int _) (.one (Fz.mono s1 _ _ f1)))⟩
end
section
variable (B : Bk) (W : WX') (σ : St) (ρ : List S) (H G : Hp)
def AftI (R : It → Hp → Prop) : Res (List D) → Prop
  | .ok xs ρ' => ∀ J H' G', Post B σ ρ H G σ ρ' H' G' → WalksD B J G' xs → R J H'
  | .ex e ρ' => Out B W σ ρ H G e ρ'
  | .no => False
end
def liftI (B : Bk) (W : WX') (f : List S → Res (List D)) : TI := fun σ H R => ∃ G ρ, Rel B G σ ρ H ∧ AftI B W σ ρ H G R (f ρ)
abbrev PIa (X : Cx) (W : WX') (tg e : Expr) (f : List S → Res (List D)) : Prop := PI X tg e (liftI X.bk W f)
section
variable {X : Cx} {W : WX'} {tg e : Expr} {fa : List S → Res E} {fs : List S → Res (List E)} {p pos : Pos}
theorem AftI.cl {B : Bk} {σ : St} {ρ : List S} {H G : Hp} {R : It → Hp → Prop} : Cl B W σ ρ H G (AftI B W σ ρ H G R) := ⟨fun _ _ h => h, fun h => h⟩
theorem pi_imp {w w' : TI} (h : PI X tg e w) (m : ∀ σ H R, w' σ H R → w σ H R) : PI X tg e w' := ⟨fun pins s σ H R I q => h.run pins s σ H R I (m σ H R q)⟩
theorem pi_or {w w' : TI} (h : PI X tg e w) (h' : PI X tg e w') : PI X tg e (fun σ H R => w σ H R ∨ w' σ H R) := ⟨fun pins s σ H R I q => q.elim (h.run pins s σ H R I) (h'.run pins s σ H R I)⟩
def D.items? : D → Option (List D)
  | .tup xs => some xs
  | .lst xs => some xs
  | .scr ns => some (ns.map .int)
  | .str z => some (signs z)
  | _ => none
def aIter (f : List S → Res E) : List S → Res (List D) := fun ρ => (f ρ).bind fun v ρ1 => match keep1 v ρ1 with
  | some (x, ρ2) => match x.items? with
    | some xs => .ok xs ρ2
    | none => .no
  | none => .no
theorem i_seq (h : PEa X W e fa) : PIa X W tg e (aIter fa) :=
  pi_imp (pi_or (pi_list h) (pi_or (pi_tup h) (pi_str h))) fun σ H R ⟨G, ρ, r, h⟩ => by
    unfold aIter at h
    cases ef : fa ρ with
    | no => rw [ef] at h; exact h.elim
    | ex x ρ' => rw [ef] at h; exact .inl ⟨G, ρ, r, by rw [ef]; exact h⟩
    | ok v ρ1 =>
      rw [ef, Res.bind_ok] at h
      split at h
      · rename_i x ρ2 hk
        split at h
        · rename_i xs hx
          have go : ∀ u H' G', Post X.bk σ ρ H G σ ρ1 H' G' → RE X.bk G' σ ρ1 H' u v → Fresh H u v → ∃ G2, Post X.bk σ ρ H G σ ρ2 H' G2 ∧ Fz X.bk G2 u x := fun u H' G' p re fr => by
            obtain ⟨G2, p2, f2, _⟩ := Pend.keep1 (Pend.one p r re fr) hk
            exact ⟨G2, p2.post, f2⟩
          cases x <;> simp only [D.items?, Option.some.injEq, reduceCtorEq] at hx
          · subst hx
            refine .inr (.inr ⟨G, ρ, r, ?_⟩)
            rw [ef]
            intro u H' G' p re fr
            obtain ⟨G2, p2, f2⟩ := go u H' G' p re fr
            rw [Fz] at f2
            exact ⟨_, f2, h _ _ _ p2 walks_str⟩
          · subst hx
            refine .inr (.inl ⟨G, ρ, r, ?_⟩)
            rw [ef]
            intro u H' G' p re fr
            obtain ⟨G2, p2, f2⟩ := go u H' G' p re fr
            rw [Fz] at f2
            obtain ⟨a, us, rfl, h1, h2⟩ := f2
            exact ⟨a, rfl, ⟨us, Same.sqt p2.rel.sub h1⟩, h _ _ _ p2 (walks_tup h1 h2)⟩
          · subst hx
            refine .inl ⟨G, ρ, r, ?_⟩
            rw [ef]
            intro u H' G' p re fr
            obtain ⟨G2, p2, f2⟩ := go u H' G' p re fr
            rw [Fz] at f2
            obtain ⟨a, us, rfl, h1, h2⟩ := f2
            exact ⟨a, rfl, ⟨us, SqL.of (p2.rel.sub _ _ h1)⟩, h _ _ _ p2 (walks_list h1 h2)⟩
          · subst hx
            refine .inl ⟨G, ρ, r, ?_⟩
            rw [ef]
            intro u H' G' p re fr
            obtain ⟨G2, p2, f2⟩ := go u H' G' p re fr
            rw [Fz] at f2
            obtain ⟨a, rfl, h1⟩ := f2
            exact ⟨a, rfl, ⟨_, Same.seq p2.rel.sub h1⟩, h _ _ _ p2 (walks_scr h1)⟩
        · exact h.elim
      · exact h.elim
def aRng1 (fs : List S → Res (List E)) : List S → Res (List D) := fun ρ => (fs ρ).bind fun vs ρ1 => match vs with
  | [.d (.int j)] => if -(2 ^ 62) ≤ j ∧ j < 2 ^ 62 then .ok (rangeD 0 j.toNat) ρ1 else .no
  | _ => .no
def aRng2 (fs : List S → Res (List E)) : List S → Res (List D) := fun ρ => (fs ρ).bind fun vs ρ1 => match vs with
  | [.d (.int i), .d (.int j)] => if -(2 ^ 62) ≤ i ∧ i < 2 ^ 62 ∧ -(2 ^ 62) ≤ j ∧ j < 2 ^ 62 then .ok (rangeD i (j - i).toNat) ρ1 else .no
  | _ => .no
theorem i_rng1 {a : Expr} (hg : Gl X "range") (hm : X.mg "range" = none) (ha : PAa X W [a] fs) (hs : starEach [a] X.env = [(false, eval a X.env)] := by rfl) : PIa X W tg (.Call (.Name "range" p) [a] [] pos) (aRng1 fs) :=
  pi_imp (pi_range1 hg hm ha hs) fun σ H R ⟨G, ρ, r, h⟩ => by
    refine liftA_mono (liftA_first r (AftI.cl (R := R)) h) fun us H1 ⟨vs, ρ1, G1, P, h1⟩ => ?_
    split at h1
    · rename_i j
      split at h1
      · rename_i hb
        obtain ⟨u, e, re⟩ := P.re 0 _ rfl
        have re : Fz X.bk G1 u (.int j) := re
        rw [Fz] at re
        have hl := P.len
        match us, hl, e with
        | [w], _, e =>
          cases e
          exact ⟨j, by rw [re], hb.1, hb.2, h1 _ _ _ P.post walks_range⟩
      · exact h1.elim
    · exact h1.elim
theorem i_rng2 {a b : Expr} (hg : Gl X "range") (hm : X.mg "range" = none) (ha : PAa X W [a, b] fs) (hs : starEach [a, b] X.env = [(false, eval a X.env), (false, eval b X.env)] := by rfl) (hs2 : starEach [b] X.env = [(false, eval b X.env)] := by rfl) : PIa X W tg (.Call (.Name "range" p) [a, b] [] pos) (aRng2 fs) :=
  pi_imp (pi_range2 hg hm ha hs hs2) fun σ H R ⟨G, ρ, r, h⟩ => by
    refine liftA_mono (liftA_first r (AftI.cl (R := R)) h) fun us H1 ⟨vs, ρ1, G1, P, h1⟩ => ?_
    split at h1
    · rename_i i j
      split at h1
      · rename_i hb
        obtain ⟨u, e, re⟩ := P.re 0 _ rfl
        obtain ⟨u2, e2, re2⟩ := P.re 1 _ rfl
        have re : Fz X.bk G1 u (.int i) := re
        have re2 : Fz X.bk G1 u2 (.int j) := re2
        rw [Fz] at re re2
        have hl := P.len
        match us, hl, e, e2 with
        | [w, w2], _, e, e2 =>
          cases e
          cases e2
          exact ⟨i, j, by rw [re, re2], hb, h1 _ _ _ P.post walks_range⟩
      · exact h1.elim
    · exact h1.elim
def aEnum (fs : List S → Res (List E)) : List S → Res (List D) := fun ρ => (fs ρ).bind fun vs ρ1 => match vs with
  | [v] => match keep1 v ρ1 with
    | some (.lst xs, ρ2) => .ok (enumD xs) ρ2
    | _ => .no
  | _ => .no
theorem i_enum {a : Expr} {elts : List Expr} {kk : Nat} {tpos : Pos} (hg : Gl X "enumerate") (hm : X.mg "enumerate" = none) (ha : PAa X W [a] fs) (hs : starEach [a] X.env = [(false, eval a X.env)] := by rfl) : PIa X W (.Tuple elts kk tpos) (.Call (.Name "enumerate" p) [a] [] pos) (aEnum fs) :=
  pi_imp (pi_enum hg hm ha hs) fun σ H R ⟨G, ρ, r, h⟩ => by
    refine liftA_mono (liftA_first r (AftI.cl (R := R)) h) fun us H1 ⟨vs, ρ1, G1, P, h1⟩ => ?_
    split at h1
    · rename_i v
      split at h1
      · rename_i xs ρ2 hk
        have hl := P.len
        match us, hl, P with
        | [w], _, P =>
          obtain ⟨G2, p2, f2, _⟩ := P.keep1 hk
          rw [Fz] at f2
          obtain ⟨a, us, rfl, q1, q2⟩ := f2
          exact ⟨a, us, rfl, SqL.of (p2.post.rel.sub _ _ q1), h1 _ _ _ p2.post (walks_enum q1 q2)⟩
      · exact h1.elim
    · exact h1.elim
end
end L2.AL
/-! A8: comprehensions; methods that change what a name owns. -/
namespace L2.AL
open PySem PySem.Spec PyProof.Rows
/-! ### the slots of a block -/
def wipeS (ρ : List S) : List Nat → List S
  | [] => ρ
  | v :: vs => (wipeS ρ vs).set v .no
def backS (ρ0 ρ : List S) : List Nat → List S
  | [] => ρ
  | v :: vs => (backS ρ0 ρ vs).set v ((ρ0[v]?).getD .no)
theorem wipe_get {σ : St} : ∀ {vs : List Nat} {j : Nat}, (wipe σ vs)[j]? = if j ∈ vs then (if j < σ.length then some none else none) else σ[j]?
  | [], j => by simp [wipe]
  | v :: vs, j => by
    rw [wipe]
    by_cases h : v = j
    · subst h
      rw [if_pos List.mem_cons_self]
      by_cases hl : v < σ.length
      · rw [if_pos hl, List.getElem?_set_self (by rw [wipe_length]; exact hl)]
      · rw [if_neg hl, List.getElem?_eq_none (by rw [List.length_set, wipe_length]; omega)]
    · rw [List.getElem?_set_ne h, wipe_get]
      have : (j ∈ v :: vs) = (j ∈ vs) := by simp [Ne.symm h]
      simp only [this]
theorem wipeS_length {ρ : List S} : ∀ {vs : List Nat}, (wipeS ρ vs).length = ρ.length
  | [] => rfl
  | v :: vs => by rw [wipeS, List.length_set, wipeS_length]
theorem wipeS_get {ρ : List S} : ∀ {vs : List Nat} {j : Nat}, (wipeS ρ vs)[j]? = if j ∈ vs then (if j < ρ.length then some .no else none) else ρ[j]?
  | [], j => by simp [wipeS]
  | v :: vs, j => by
    rw [wipeS]
    by_cases h : v = j
    · subst h
      rw [if_pos List.mem_cons_self]
      by_cases hl : v < ρ.length
      · rw [if_pos hl, List.getElem?_set_self (by rw [wipeS_length]; exact hl)]
      · rw [if_neg hl, List.getElem?_eq_none (by rw [List.length_set, wipeS_length]; omega)]
    · rw [List.getElem?_set_ne h, wipeS_get]
      have : (j ∈ v :: vs) = (j ∈ vs) := by simp [Ne.symm h]
      simp only [this]
theorem backS_length {ρ0 ρ : List S} : ∀ {vs : List Nat}, (backS ρ0 ρ vs).length = ρ.length
  | [] => rfl
  | v :: vs => by rw [backS, List.length_set, backS_length]
theorem backS_get {ρ0 ρ : List S} : ∀ {vs : List Nat} {j : Nat}, (backS ρ0 ρ vs)[j]? = if j ∈ vs then (if j < ρ.length then some ((ρ0[j]?).getD .no) else none) else ρ[j]?
  | [], j => by simp [backS]
  | v :: vs, j => by
    rw [backS]
    by_cases h : v = j
    · subst h
      rw [if_pos List.mem_cons_self]
      by_cases hl : v < ρ.length
      · rw [if_pos hl, List.getElem?_set_self (by rw [backS_length]; exact hl)]
      · rw [if_neg hl, List.getElem?_eq_none (by rw [List.length_set, backS_length]; omega)]
    · rw [List.getElem?_set_ne h, backS_get]
      have : (j ∈ v :: vs) = (j ∈ vs) := by simp [Ne.symm h]
      simp only [this]
theorem wipe_eq {σ σ2 : St} {vs : List Nat} (hl : σ2.length = σ.length) (h : ∀ j, j ∉ vs → σ2[j]? = σ[j]?) : wipe σ2 vs = wipe σ vs := by
  refine List.ext_getElem? fun j => ?_
  rw [wipe_get, wipe_get, hl]
  by_cases hj : j ∈ vs
  · rw [if_pos hj, if_pos hj]
  · rw [if_neg hj, if_neg hj, h j hj]
theorem wipe_wipe {σ : St} {vs : List Nat} : wipe (wipe σ vs) vs = wipe σ vs := wipe_eq (wipe_length _ _) fun j hj => by rw [wipe_get, if_neg hj]
section
variable {B : Bk} {σ σ' σ0 : St} {ρ ρ0 ρ' : List S} {H H0 H' G G0 G' : Hp} {vs : List Nat}
theorem own_wipe {j : Nat} {b : Addr} (w : Own (wipe σ vs) (wipeS ρ vs) j b) : Own σ ρ j b ∧ j ∉ vs := by
  obtain ⟨w1, o, w2⟩ := w
  rw [wipe_get] at w1
  rw [wipeS_get] at w2
  by_cases hj : j ∈ vs
  · rw [if_pos hj] at w1
    split at w1 <;> cases w1
  · rw [if_neg hj] at w1 w2
    exact ⟨⟨w1, o, w2⟩, hj⟩
theorem Rel.wipe (r : Rel B G σ ρ H) : Rel B G (wipe σ vs) (wipeS ρ vs) H := by
  refine ⟨r.sub, by rw [wipe_length, wipeS_length]; exact r.len, fun j s e => ?_, fun i j a w1 w2 => r.sep i j a (own_wipe w1).1 (own_wipe w2).1⟩
  rw [wipeS_get] at e
  rw [wipe_get]
  by_cases hj : j ∈ vs
  · rw [if_pos hj] at e ⊢
    by_cases hl : j < ρ.length
    · rw [if_pos hl] at e
      rw [if_pos (by rw [r.len]; exact hl)]
      cases e
      exact ⟨none, rfl, trivial⟩
    · rw [if_neg hl] at e; cases e
  · rw [if_neg hj] at e ⊢
    exact r.slot j s e
theorem Post.wipeR (p : Post B σ0 ρ0 H0 G0 σ ρ H G) : Post B σ0 ρ0 H0 G0 (wipe σ vs) (wipeS ρ vs) H G :=
  ⟨p.grow, p.dom, p.frame, p.keep, p.rel.wipe, fun i a w => p.own i a (own_wipe w).1⟩
/-- an object that is nobody's comes, is changed -/
theorem Post.poke {D : Addr} {o : HO} (p : Post B σ0 ρ0 H0 G0 σ ρ H G) (h0 : H0 D = none) (hg : G D = none) (hn : ∀ j, ¬ Own σ ρ j D) : Post B σ0 ρ0 H0 G0 σ ρ (upd H D o) G := by
  refine ⟨p.grow, fun b e => p.dom b ?_, fun b u e n => ?_, p.keep, ⟨fun b u e => ?_, p.rel.len, fun j s e => ?_, p.rel.sep⟩, p.own⟩
  · by_cases hb : b = D
    · subst hb; rw [upd_same] at e; cases e
    · rw [upd_ne hb] at e; exact e
  · rw [upd_ne (ne_of_none e h0)]; exact p.frame b u e n
  · rw [upd_ne (ne_of_none e hg)]; exact p.rel.sub b u e
  · obtain ⟨v, e1, e2⟩ := p.rel.slot j s e
    refine ⟨v, e1, ?_⟩
    cases s with
    | no => trivial
    | d x => exact e2
    | own o' =>
      obtain ⟨a, ho, e3, e4, e5, e6⟩ := e2
      have ha : a ≠ D := fun z => hn j ⟨by rw [e1, e3, z], o', e⟩
      exact ⟨a, ho, e3, by rw [upd_ne ha]; exact e4, e5, e6⟩
/-- behind a block -/
theorem Post.backR {ρi : List S} (r : Rel B G0 σ ρ0 H0) (hv : ∀ v ∈ vs, ∀ o, ρ0[v]? ≠ some (.own o)) (p : Post B (wipe σ vs) (wipeS ρ0 vs) H0 G0 (wipe σ vs) ρi H G) : Post B σ ρ0 H0 G0 σ (backS ρ0 ρi vs) H G := by
  have hl : ρi.length = ρ0.length := by rw [← p.rel.len, wipe_length, r.len]
  have oo : ∀ j b, Own σ (backS ρ0 ρi vs) j b → Own (wipe σ vs) ρi j b := fun j b ⟨w1, o, w2⟩ => by
    rw [backS_get] at w2
    by_cases hj : j ∈ vs
    · rw [if_pos hj] at w2
      split at w2
      · cases e : ρ0[j]? with
        | none => rw [e] at w2; cases w2
        | some s =>
          rw [e] at w2
          cases w2
          exact absurd e (hv j hj o)
      · cases w2
    · rw [if_neg hj] at w2
      exact ⟨by rw [wipe_get, if_neg hj]; exact w1, o, w2⟩
  refine ⟨p.grow, p.dom, fun b o e n => p.frame b o e fun i w => n i (own_wipe w).1, fun b o e g n => p.keep b o e g fun i w => n i (own_wipe w).1, ⟨p.rel.sub, by rw [backS_length, hl]; exact r.len, fun j s e => ?_, fun i j a w1 w2 => p.rel.sep i j a (oo i a w1) (oo j a w2)⟩, fun i a w => ?_⟩
  · rw [backS_get] at e
    by_cases hj : j ∈ vs
    · rw [if_pos hj] at e
      by_cases hjl : j < ρi.length
      · rw [if_pos hjl] at e
        cases e
        obtain ⟨s, hs⟩ : ∃ s, ρ0[j]? = some s := ⟨ρ0[j]'(by omega), by simp [show j < ρ0.length by omega]⟩
        rw [hs]
        obtain ⟨v, e1, e2⟩ := r.slot j s hs
        refine ⟨v, e1, ?_⟩
        show SlotOk B G H v s
        cases s with
        | no => trivial
        | d x => obtain ⟨u, q1, q2⟩ := e2; exact ⟨u, q1, Fz.mono p.grow _ _ q2⟩
        | own o => exact absurd hs (hv j hj o)
      · rw [if_neg hjl] at e; cases e
    · rw [if_neg hj] at e
      obtain ⟨v, e1, e2⟩ := p.rel.slot j s e
      rw [wipe_get, if_neg hj] at e1
      exact ⟨v, e1, e2⟩
  · rcases p.own i a (oo i a w) with z | z
    · exact .inl (own_wipe z).1
    · exact .inr z
end
/-! ### [e for t in it if c] -/
def Res.noex {α : Type} : Res α → Res α
  | .ex _ _ => .no
  | r => r
def aYes : List S → Res Bool := fun ρ => .ok true ρ
def lcGo (t : Tg) (c : List S → Res Bool) (f : List S → Res E) (vs : List Nat) : List D → List D → List S → Res (List D)
  | [], acc, ρ => .ok acc ρ
  | x :: xs, acc, ρ => match tset t x ρ with
    | none => .no
    | some ρ1 => (c ρ1).bind fun b ρ2 => if b = true then (f ρ2).bind fun v ρ3 => match keep1 v ρ3 with
        | some (y, ρ4) => if acc.length < sizeLine then lcGo t c f vs xs (acc ++ [y]) (wipeS ρ4 vs) else .no
        | none => .no
      else lcGo t c f vs xs acc (wipeS ρ2 vs)
def nOwn (ρ : List S) (vs : List Nat) : Bool := vs.all fun v => match ρ[v]? with
  | some (.own _) => false
  | _ => true
def aLc (vs : List Nat) (it : List S → Res (List D)) (t : Tg) (c : List S → Res Bool) (f : List S → Res E) : List S → Res E := fun ρ => (it ρ).bind fun xs ρ1 =>
  if nOwn ρ1 vs = true then (lcGo t c f vs xs [] (wipeS ρ1 vs)).noex.bind fun acc ρ2 => .ok (.fr (.lst acc)) (backS ρ1 ρ2 vs) else .no
abbrev WF : WX' := fun _ _ _ _ => False
mutual
theorem tset_len : ∀ {t : Tg} {x : D} {ρ ρ' : List S}, tset t x ρ = some ρ' → ρ'.length = ρ.length
  | .nm i, x, ρ, ρ', e => by simp only [tset, Option.some.injEq] at e; subst e; rw [List.length_set]
  | .tp ts, x, ρ, ρ', e => by
    cases x <;> simp only [tset, reduceCtorEq] at e
    · exact tsetL_len2 e
    · exact tsetL_len2 e
theorem tsetL_len2 : ∀ {ts : List Tg} {xs : List D} {ρ ρ' : List S}, tsetL ts xs ρ = some ρ' → ρ'.length = ρ.length
  | [], [], ρ, ρ', e => by simp only [tsetL, Option.some.injEq] at e; rw [e]
  | [], _ :: _, _, _, e => by simp [tsetL] at e
  | _ :: _, [], _, _, e => by simp [tsetL] at e
  | t :: ts, x :: xs, ρ, ρ', e => by
    simp only [tsetL] at e
    split at e
    · rename_i ρ1 e1
      rw [tsetL_len2 e, tset_len e1]
    · cases e
end
section
variable {B : Bk} {W : WX'} {it : List S → Res (List D)} {t : Tg} {c : List S → Res Bool} {f : List S → Res E} {vs : List Nat}
theorem lc_imp (ht : ∀ j, j ∈ t.names → j ∈ vs) (σ : St) (H : Hp) (Q : VK) (h : lift B W (aLc vs it t c f) σ H Q) : tLc (liftI B W it) (gD B t) (liftT B WF c) (lift B WF f) vs σ H Q := by
  obtain ⟨G, ρ, r, h⟩ := h
  refine ⟨G, ρ, r, ?_⟩
  unfold aLc at h
  cases ei : it ρ with
  | no => rw [ei] at h; exact h
  | ex e ρ' => rw [ei] at h; exact h
  | ok xs ρ1 =>
    rw [ei, Res.bind_ok] at h
    split at h
    · rename_i hno
      have hv : ∀ v ∈ vs, ∀ o, ρ1[v]? ≠ some (.own o) := fun v hv o e => by
        have := List.all_eq_true.mp hno v hv
        rw [e] at this; cases this
      cases eg : lcGo t c f vs xs [] (wipeS ρ1 vs) with
      | no => rw [eg] at h; exact h.elim
      | ex e ρ' => rw [eg] at h; exact h.elim
      | ok acc ρ2 =>
        rw [eg] at h
        have h : Aft B W σ ρ H G Q (.ok (.fr (.lst acc)) (backS ρ1 ρ2 vs)) := h
        intro J H1 G1 p1 wk D hD
        have gD1 : G1 D = none := Same.free p1.rel.sub hD
        have notD : ∀ j, ¬ Own σ ρ1 j D := fun j ⟨w1, o, w2⟩ => by
          obtain ⟨v, e1, a, ho, e2, e3, _⟩ := p1.rel.slot j _ w2
          rw [w1] at e1; cases e1; cases e2
          rw [hD] at e3; cases e3
        refine ⟨fun i m Hi => m = xs.length - i ∧ i ≤ xs.length ∧ ∃ ρi Gi accv acci, Post B (wipe σ vs) (wipeS ρ1 vs) H1 G1 (wipe σ vs) ρi Hi Gi ∧ Hi D = some (.lst accv) ∧ Gi D = none ∧ (∀ j, ¬ Own (wipe σ vs) ρi j D) ∧ FzL B Gi accv acci ∧ lcGo t c f vs (xs.drop i) acci ρi = .ok acc ρ2,
          ⟨xs.length, by simp, Nat.zero_le _, wipeS ρ1 vs, G1, [], [], ?_, upd_same, gD1, fun j w => notD j (own_wipe w).1, .nil, by simpa using eg⟩, ?_⟩
        · exact (Post.refl p1.rel.wipe).poke hD gD1 fun j w => notD j (own_wipe w).1
        rintro i m Hi ⟨rfl, hi, ρi, Gi, accv, acci, P, hHD, hGD, hND, hF, hgo⟩
        by_cases hlt : i < xs.length
        · refine .inr ⟨wk.go i Hi Gi hlt P.grow P.rel.sub, fun H' => ∃ ρi Gi accv acci, Post B (wipe σ vs) (wipeS ρ1 vs) H1 G1 (wipe σ vs) ρi H' Gi ∧ H' D = some (.lst accv) ∧ Gi D = none ∧ (∀ j, ¬ Own (wipe σ vs) ρi j D) ∧ FzL B Gi accv acci ∧ lcGo t c f vs (xs.drop (i + 1)) acci ρi = .ok acc ρ2,
            fun H' q => ⟨xs.length - (i + 1), by omega, rfl, hlt, q⟩, fun v H' y => ?_⟩
          obtain ⟨x, G2, ex, nw⟩ := wk.yld i Hi Gi v H' hlt P.grow P.rel.sub y
          obtain ⟨q1, re, _⟩ := nw.post (Post.refl P.rel)
          have re : Fz B G2 v x := re
          have hdr : xs.drop i = x :: xs.drop (i + 1) := by
            rw [List.drop_eq_getElem_cons hlt]
            have : xs[i] = x := by rw [List.getElem?_eq_getElem hlt] at ex; exact Option.some.inj ex
            rw [this]
          rw [hdr, lcGo] at hgo
          split at hgo
          · cases hgo
          · rename_i ρa ea
            refine ⟨G2, ρi, x, ρa, q1.rel, re, ea, fun σ2 p2 k2 => ?_⟩
            have w2 : wipe σ2 vs = wipe (wipe σ vs) vs := wipe_eq (by have h1 := p2.rel.len; have h2 := q1.rel.len; have h3 := tset_len ea; omega) fun j hj => k2 j fun z => hj (ht j z)
            rw [wipe_wipe] at w2
            · refine ⟨w2, ?_⟩
              have P2 := q1.trans p2
              have D2 : H' D = some (.lst accv) := q1.frame D _ hHD hND
              cases ec : c ρa with
              | no => rw [ec] at hgo; cases hgo
              | ex e ρ' => rw [ec] at hgo; cases hgo
              | ok b ρb =>
                rw [ec, Res.bind_ok] at hgo
                refine ⟨G2, ρa, p2.rel, ?_⟩
                rw [ec]
                intro H3 G3 p3
                have P3 := P2.trans p3
                have D3 : H3 D = some (.lst accv) := P3.frame D _ hHD hND
                have N3 : ∀ j, ¬ Own σ2 ρb j D := P3.notown hHD hND
                have K3 : G3 D = none := P3.keep D _ hHD hGD hND
                cases b with
                | false =>
                  rw [if_neg Bool.false_ne_true] at hgo ⊢
                  refine ⟨wipeS ρb vs, G3, accv, acci, ?_, D3, K3, fun j w => ?_, FzL.mono P3.grow _ _ hF, hgo⟩
                  · have := (P.trans P3).wipeR (vs := vs)
                    rw [w2] at this; exact this
                  · rw [← w2] at w
                    exact N3 j (own_wipe w).1
                | true =>
                  rw [if_pos rfl] at hgo ⊢
                  cases ef : f ρb with
                  | no => rw [ef] at hgo; cases hgo
                  | ex e ρ' => rw [ef] at hgo; cases hgo
                  | ok w ρc =>
                    rw [ef, Res.bind_ok] at hgo
                    split at hgo
                    · rename_i y ρd hk
                      split at hgo
                      · rename_i hz
                        refine ⟨G3, ρb, p3.rel, ?_⟩
                        rw [ef]
                        intro u H4 G4 p4 re4 fr4
                        obtain ⟨G5, pd, f5, s5⟩ := Pend.keep1 (Pend.one p4 p3.rel re4 fr4) hk
                        have P5 := P3.trans pd.post
                        have D5 : H4 D = some (.lst accv) := P5.frame D _ hHD hND
                        have N5 : ∀ j, ¬ Own σ2 ρd j D := P5.notown hHD hND
                        have K5 : G5 D = none := P5.keep D _ hHD hGD hND
                        have F5 : FzL B G5 accv acci := FzL.mono P5.grow _ _ hF
                        refine ⟨accv, D5, by rw [F5.length]; exact hz, wipeS ρd vs, G5, accv ++ [u], acci ++ [y], ?_, upd_same, K5, fun j w => ?_, F5.append (.one f5), hgo⟩
                        · have := ((P.trans P5).poke (o := .lst (accv ++ [u])) hD K5 N5).wipeR (vs := vs)
                          rw [w2] at this; exact this
                        · rw [← w2] at w
                          exact N5 j (own_wipe w).1
                      · cases hgo
                    · cases hgo
        · have e : i = xs.length := by omega
          subst e
          refine .inl ⟨wk.stop Hi Gi P.grow P.rel.sub, ?_⟩
          rw [List.drop_length, lcGo] at hgo
          cases hgo
          have pb := Post.backR p1.rel hv P
          have pf := p1.trans pb
          refine h (.ref D) Hi Gi pf ⟨D, .lst accv, rfl, hHD, hGD, ⟨accv, rfl, hF⟩, fun j w => ?_⟩ fun a e => ?_
          · rcases pb.own j D w with z | z
            · exact notD j z
            · obtain ⟨w1, o, w2⟩ := w
              rw [backS_get] at w2
              by_cases hj : j ∈ vs
              · rw [if_pos hj] at w2
                split at w2
                · cases e : ρ1[j]? with
                  | none => rw [e] at w2; cases w2
                  | some s => rw [e] at w2; cases w2; exact absurd e (hv j hj o)
                · cases w2
              · rw [if_neg hj] at w2
                exact hND j ⟨by rw [wipe_get, if_neg hj]; exact w1, o, w2⟩
          · cases e; exact p1.dom _ hD
    · exact h.elim
end
end L2.AL
/-! A9: rules of comprehensions, of methods that change; statements. -/
namespace L2.AL
open PySem PySem.Spec PyProof.Rows
section
variable {X : Cx} {W : WX'} {tg iter elt : Expr} {ifs : List Expr} {scope : Scope} {own : List (Str × Nat)} {pos : Pos} {it : List S → Res (List D)} {t : Tg} {c : List S → Res Bool} {f : List S → Res E} {vs : List Nat}
theorem pts_imp {ifs : List Expr} {t t' : TT} (h : PTs X ifs t) (w : ∀ σ H Q, t' σ H Q → t σ H Q) : PTs X ifs t' := ⟨fun pins s σ H Q I q => h.run pins s σ H Q I (w σ H Q q)⟩
theorem c_yes : PTs X [] (liftT X.bk W aYes) := pts_imp pts_nil fun σ H Q ⟨G, ρ, r, h⟩ => h H G (.refl r)
theorem c_one {a : Expr} (h : PTa X W a c) : PTs X [a] (liftT X.bk W c) := pts_one h
theorem a_lc (hc : X.calm = true) (hN : X.N.Nodup) (ok : BlkOk X.N X.env.scope scope own) (hv : own.map (·.2) = vs) (ht : ∀ j, j ∈ t.names → j ∈ vs) (hi : PIa X W tg iter it)
    (hg : ∀ (s : Shared) (H : Hp) (C : Addr) (cl : List (Str × Addr)) (fp : List Addr), PG (X.blk s H scope (compEnvC scope cl C X.env) fp) tg (gD X.bk t))
    (hc' : ∀ (s : Shared) (H : Hp) (C : Addr) (cl : List (Str × Addr)) (fp : List Addr), PTs (X.blk s H scope (compEnvC scope cl C X.env) fp) ifs (liftT X.bk WF c))
    (he : ∀ (s : Shared) (H : Hp) (C : Addr) (cl : List (Str × Addr)) (fp : List Addr), PE (X.blk s H scope (compEnvC scope cl C X.env) fp) elt (lift X.bk WF f)) (hs : ∀ x, foldedSetIterable iter X.env x = pure x := by intro _; rfl) :
    PEa X W (.ListComp elt [⟨tg, iter, ifs, 0⟩] scope pos) (aLc vs it t c f) := by
  subst hv
  exact pe_imp (pe_lc hc hN hi ok hg hc' he hs) fun σ H Q q => lc_imp ht σ H Q q
end
/-! ### methods that change -/
/-- what a method does to the object of a name -/
def SndU (B : Bk) (g : O → List D → Option (D × O)) (r : V → List V → Hp → VK → Prop) : Prop :=
  ∀ (o : O) (xs : List D) (y : D) (o' : O) (a : Addr) (ho : HO) (us : List V) (G H : Hp) (Q : VK), g o xs = some (y, o') → Same G H → H a = some ho → RO B G ho o → FzL B G us xs →
    (∀ u ho', Fz B G u y → RO B G ho' o' → Q u (upd H a ho')) → r (.ref a) us H Q
def O.tyn : O → String
  | .lst _ => "list"
  | .dct _ => "dict"
def aMut (T : String) (i : Nat) (g : O → List D → Option (D × O)) (fs : List S → Res (List E)) : List S → Res E := fun ρ => match ρ[i]? with
  | some (.own o0) => if o0.tyn = T then (fs ρ).bind fun vs ρ1 => match keepL vs ρ1 with
      | some (xs, ρ2) => match ρ2[i]? with
        | some (.own o) => match g o xs with
          | some (y, o') => .ok (.d y) (ρ2.set i (.own o'))
          | none => .no
        | _ => .no
      | none => .no
    else .no
  | _ => .no
section
variable {X : Cx} {W : WX'} {e : Expr} {es : List Expr} {fs : List S → Res (List E)} {name : Str} {apos cpos npos : Pos} {T id : String} {g : O → List D → Option (D × O)} {r : V → List V → Hp → VK → Prop} {x : Str} {i : Nat}
theorem tyV_own {B : Bk} {σ : St} {ρ : List S} {H G : Hp} {u : V} {o : O} (rl : Rel B G σ ρ H) (h : σ[i]? = some (some u)) (ho : ρ[i]? = some (.own o)) (e : o.tyn = T) : tyV B.K T u H := by
  obtain ⟨v, e1, a, hob, e2, e3, e4, e5⟩ := rl.slot i _ ho
  rw [h] at e1; cases e1; cases e2
  cases o with
  | lst ds => obtain ⟨us, rfl, _⟩ := e5; subst e; exact .inl ⟨rfl, us, SqL.of e3⟩
  | dct ds => obtain ⟨us, rfl, _⟩ := e5; subst e; exact .inr (.inr (.inl ⟨rfl, .inl ⟨us, e3⟩⟩))
theorem mut_end {B : Bk} {σ : St} {ρ0 ρ1 ρ2 : List S} {H0 G0 H G : Hp} {Q : VK} {u : V} {us : List V} {vs : List E} {xs : List D} {o o' : O} {y : D} (sn : SndU B g r)
    (P : Pend B σ ρ0 H0 G0 ρ1 H G (u :: us) (.sl i :: vs)) (hk : keepL vs ρ1 = some (xs, ρ2)) (ho : ρ2[i]? = some (.own o)) (hg : g o xs = some (y, o')) (h : Aft B W σ ρ0 H0 G0 Q (.ok (.d y) (ρ2.set i (.own o')))) : r u us H Q := by
  obtain ⟨w, ew, rw'⟩ := P.re 0 _ rfl
  cases ew
  have rw' : σ[i]? = some (some u) := rw'
  obtain ⟨G2, p2, f2, s2⟩ := Pend.keepL (Pend.tail P) hk
  obtain ⟨v, e1, a, hob, e2, e3, e4, e5⟩ := p2.rel.slot i _ ho
  rw [rw'] at e1; cases e1; cases e2
  refine sn o xs y o' a hob us G2 H Q hg p2.rel.sub e3 e5 f2 fun w ho' fw ro => ?_
  exact h w _ G2 (mut_post p2 rw' ho ro) fw trivial
theorem a_mut (pa : PlainAttrs T) (slot : Slot T name id) (hty : typeOf (.builtin id) = pure (.type "method_descriptor")) (hm : MtR X id r) (sn : SndU X.bk g r)
    (hN : X.N[i]? = some x) (ha : PAa X W (e :: es) fs) (hv : Vis X.env.scope x := by first | exact Or.inl rfl | exact Or.inr (Or.inl rfl) | exact Or.inr (Or.inr rfl))
    (hd : (x == ("__debug__" : Str)) = false := by decide) (hcd : (x == ("__classdict__" : Str)) = false := by decide) (hbase : attributeBase (.Name x npos) name X.env (eval (.Name x npos) X.env) = eval (.Name x npos) X.env := by rfl)
    (hfew : ((backTo cpos (starEach (e :: es) X.env)).all (fun x => !x.1) && (backToKw cpos (keywordEach [] X.env)).all (fun x => x.1.isSome)
      && decide ((e :: es).length + ([] : List Keyword).length + (if ([] : List Keyword).isEmpty then 0 else 1) < 30)) = true := by rfl)
    (hline : (apos.endLine == cpos.line) = true := by rfl) (hs : starEach (e :: es) X.env = (false, eval e X.env) :: starEach es X.env := by rfl) (hplain : (backTo cpos (starEach es X.env)).any (·.1) = false := by rfl) :
    PEa X W (.Call (.Attribute (.Name x npos) name apos) (e :: es) [] cpos) (aMut T i g fs) :=
  pe_imp (pe_bm pa slot hty hm (a_var (W := W) i hN hv hd hcd) ha hbase hfew hline hs hplain) fun σ H Q ⟨G, ρ, rl, h⟩ => by
    unfold aMut at h
    split at h
    · rename_i o0 ho0
      split at h
      · rename_i hT
        refine ⟨G, ρ, rl, ?_⟩
        unfold aVar
        rw [ho0]
        intro u H1 G1 p1 re1 fr1
        have re1 : σ[i]? = some (some u) := re1
        refine ⟨tyV_own p1.rel re1 ho0 hT, ?_⟩
        have P0 : Pend X.bk σ ρ H G ρ H1 G1 [u] [.sl i] := Pend.one p1 rl re1 trivial
        refine liftA_mono (liftA_next P0 (Aft.cl (Q := Q)) h) fun us H2 ⟨vs, ρ1, G2, P2, h2⟩ => ?_
        split at h2
        · rename_i xs ρ2 hk
          split at h2
          · rename_i o ho
            split at h2
            · rename_i y o' hg
              exact mut_end sn P2 hk ho hg h2
            · exact h2.elim
          · exact h2.elim
        · exact h2.elim
      · exact h.elim
    · exact h.elim
def aMut0 (T : String) (i : Nat) (g : O → List D → Option (D × O)) : List S → Res E := aMut T i g aNil
theorem a_mut0 (pa : PlainAttrs T) (slot : Slot T name id) (hty : typeOf (.builtin id) = pure (.type "method_descriptor")) (hm : MtR X id r) (sn : SndU X.bk g r)
    (hN : X.N[i]? = some x) (hv : Vis X.env.scope x := by first | exact Or.inl rfl | exact Or.inr (Or.inl rfl) | exact Or.inr (Or.inr rfl))
    (hd : (x == ("__debug__" : Str)) = false := by decide) (hcd : (x == ("__classdict__" : Str)) = false := by decide) (hbase : attributeBase (.Name x npos) name X.env (eval (.Name x npos) X.env) = eval (.Name x npos) X.env := by rfl)
    (hline : (apos.endLine == cpos.line) = true := by rfl) :
    PEa X W (.Call (.Attribute (.Name x npos) name apos) [] [] cpos) (aMut0 T i g) :=
  pe_imp (pe_bm0 pa slot hty hm (a_var (W := W) i hN hv hd hcd) hbase hline) fun σ H Q ⟨G, ρ, rl, h⟩ => by
    unfold aMut0 aMut at h
    split at h
    · rename_i o0 ho0
      split at h
      · rename_i hT
        refine ⟨G, ρ, rl, ?_⟩
        unfold aVar
        rw [ho0]
        intro u H1 G1 p1 re1 fr1
        have re1 : σ[i]? = some (some u) := re1
        refine ⟨tyV_own p1.rel re1 ho0 hT, ?_⟩
        have P0 : Pend X.bk σ ρ H G ρ H1 G1 [u] [.sl i] := Pend.one p1 rl re1 trivial
        rw [aNil, Res.bind_ok] at h
        split at h
        · rename_i xs ρ2 hk
          split at h
          · rename_i o ho
            split at h
            · rename_i y o' hg
              exact mut_end (us := []) sn P0 hk ho hg h
            · exact h.elim
          · exact h.elim
        · exact h.elim
      · exact h.elim
    · exact h.elim
end
/-! the methods -/
def uAppend : O → List D → Option (D × O)
  | .lst xs, [x] => if xs.length < sizeLine then some (.non, .lst (xs ++ [x])) else none
  | _, _ => none
def uPop : O → List D → Option (D × O)
  | .lst xs, [] => xs.getLast?.map fun x => (x, .lst xs.dropLast)
  | _, _ => none
def uPopAt : O → List D → Option (D × O)
  | .lst xs, [.int i] => if -(2 ^ 63) ≤ i ∧ i < 2 ^ 63 then (seqIndex? i xs.length).bind fun k => xs[k]?.map fun x => (x, .lst (xs.eraseIdx k)) else none
  | _, _ => none
theorem append_snd {B : Bk} : SndU B uAppend rAppend := by
  intro o xs y o' a ho us G H Q e s hH ro f q
  unfold uAppend at e
  split at e
  · split at e
    · rename_i ys x hz
      cases e
      obtain ⟨zs, rfl, f1⟩ := ro
      match us, f with
      | [u], f =>
        rw [FzL] at f
        exact ⟨a, zs, u, rfl, rfl, hH, by rw [f1.length]; exact hz, q _ _ fz_non ⟨_, rfl, f1.append (.one f.1)⟩⟩
    · cases e
  · cases e
theorem FzL.eraseIdx {B : Bk} {G : Hp} : ∀ {ds : List D} {us : List V} (k : Nat), FzL B G us ds → FzL B G (us.eraseIdx k) (ds.eraseIdx k)
  | [], [], _, h => h
  | [], _ :: _, _, h => by rw [FzL] at h; exact h.elim
  | _ :: _, [], _, h => by rw [FzL] at h; exact h.elim
  | d :: ds, u :: us, 0, h => by rw [FzL] at h; exact h.2
  | d :: ds, u :: us, k + 1, h => by rw [FzL] at h; exact .cons h.1 (FzL.eraseIdx k h.2)
theorem popAt_snd {B : Bk} : SndU B uPopAt rPopAt := by
  intro o xs y o' a ho us G H Q e s hH ro f q
  unfold uPopAt at e
  split at e
  · rename_i ys i
    split at e
    · rename_i hb
      obtain ⟨k, e1, e2⟩ := Option.bind_eq_some_iff.mp e
      obtain ⟨x, e3, e4⟩ := Option.map_eq_some_iff.mp e2
      cases e4
      obtain ⟨zs, rfl, f1⟩ := ro
      obtain ⟨u, hu, fu⟩ := f1.get e3
      match us, f with
      | [w], f =>
        rw [FzL] at f
        rw [Fz] at f
        exact ⟨a, zs, i, k, u, rfl, by rw [f.1], hH, hb.1, hb.2, by rw [f1.length]; exact e1, hu, q _ _ fu ⟨_, rfl, f1.eraseIdx k⟩⟩
    · cases e
  · cases e
theorem pop_snd {B : Bk} : SndU B uPop rPop := by
  intro o xs y o' a ho us G H Q e s hH ro f q
  unfold uPop at e
  split at e
  · rename_i ys
    obtain ⟨x, e3, e4⟩ := Option.map_eq_some_iff.mp e
    cases e4
    obtain ⟨zs, rfl, f1⟩ := ro
    rw [List.getLast?_eq_getElem?] at e3
    obtain ⟨u, hu, fu⟩ := f1.get e3
    match us, f with
    | [], f => exact ⟨a, zs, u, rfl, rfl, hH, by rw [f1.length]; exact hu, q _ _ fu ⟨_, rfl, by rw [List.dropLast_eq_take, List.dropLast_eq_take, f1.length]; exact f1.take _⟩⟩
  · cases e
end L2.AL
/-! A10: statements. -/
namespace L2.AL
open PySem PySem.Spec PyProof.Rows
inductive Fl where
  | nx | bk | ct | rt (v : E)
/-- the names P are not set -/
def Keeps (P : List Nat) (σ σ' : St) : Prop := ∀ j ∈ P, σ'[j]? = σ[j]?
theorem Keeps.refl {P : List Nat} {σ : St} : Keeps P σ σ := fun _ _ => rfl
theorem Keeps.trans {P : List Nat} {σ σ' σ2 : St} (h : Keeps P σ σ') (h' : Keeps P σ' σ2) : Keeps P σ σ2 := fun j hj => (h' j hj).trans (h j hj)
section
variable (B : Bk) (W : WX') (P : List Nat)
section
variable (σ : St) (ρ : List S) (H G : Hp)
def OutS (e : Exc) (ρ' : List S) : Prop := ∀ cls d σ' H' G', Post B σ ρ H G σ' ρ' H' G' → Keeps P σ σ' → RX B G' H' cls d e → W cls d σ' H'
def AftS (D : Ends) : Res Fl → Prop
  | .ok .nx ρ' => ∀ σ' H' G', Post B σ ρ H G σ' ρ' H' G' → Keeps P σ σ' → D.nx σ' H'
  | .ok .bk ρ' => ∀ σ' H' G', Post B σ ρ H G σ' ρ' H' G' → Keeps P σ σ' → D.bk σ' H'
  | .ok .ct ρ' => ∀ σ' H' G', Post B σ ρ H G σ' ρ' H' G' → Keeps P σ σ' → D.ct σ' H'
  | .ok (.rt v) ρ' => ∀ u σ' H' G', Post B σ ρ H G σ' ρ' H' G' → Keeps P σ σ' → RE B G' σ' ρ' H' u v → Fresh H u v → D.rt u H'
  | .ex e ρ' => OutS B W P σ ρ H G e ρ'
  | .no => False
end
def liftS (f : List S → Res Fl) : TS := fun D σ H => ∃ G ρ, Rel B G σ ρ H ∧ AftS B W P σ ρ H G D (f ρ)
end
theorem fresh_dom {H H1 : Hp} {u : V} {v : E} (p : ∀ b, H1 b = none → H b = none) (h : Fresh H1 u v) : Fresh H u v := by
  cases v with
  | d x => trivial
  | sl i => trivial
  | fr o => exact fun a e => p a (h a e)
section
variable {B : Bk} {W : WX'} {P : List Nat} {σ σ1 σ' : St} {ρ ρ1 ρ' : List S} {H H1 H' G G1 G' : Hp} {D : Ends}
theorem AftS.cl : Cl B W σ ρ H G (AftS B W P σ ρ H G D) := ⟨fun _ _ h cls d H' G' p r => h cls d σ H' G' p .refl r, fun h => h⟩
/-- on from behind a statement -/
theorem aftS_go {r : Res Fl} (p : Post B σ ρ H G σ1 ρ1 H1 G1) (k : Keeps P σ σ1) (h : AftS B W P σ ρ H G D r) : AftS B W P σ1 ρ1 H1 G1 D r := by
  match r, h with
  | .ok .nx ρ', h => exact fun σ' H' G' q k' => h σ' H' G' (p.trans q) (k.trans k')
  | .ok .bk ρ', h => exact fun σ' H' G' q k' => h σ' H' G' (p.trans q) (k.trans k')
  | .ok .ct ρ', h => exact fun σ' H' G' q k' => h σ' H' G' (p.trans q) (k.trans k')
  | .ok (.rt v) ρ', h => exact fun u σ' H' G' q k' re fr => h u σ' H' G' (p.trans q) (k.trans k') re (fresh_dom p.dom fr)
  | .ex e ρ', h => exact fun cls d σ' H' G' q k' rx => h cls d σ' H' G' (p.trans q) (k.trans k') rx
end
abbrev PSa (X : Cx) (W : WX') (P : List Nat) (st : Stmt) (f : List S → Res Fl) : Prop := PS X st (liftS X.bk W P f)
abbrev PSsa (X : Cx) (W : WX') (P : List Nat) (st : List Stmt) (f : List S → Res Fl) : Prop := PSs X st (liftS X.bk W P f)
theorem ps_imp {X : Cx} {st : Stmt} {t t' : TS} (h : PS X st t) (w : ∀ D σ H, t' D σ H → t D σ H) : PS X st t' := ⟨fun pins s σ H D I q => h.run pins s σ H D I (w D σ H q)⟩
theorem pss_imp {X : Cx} {st : List Stmt} {t t' : TS} (h : PSs X st t) (w : ∀ D σ H, t' D σ H → t D σ H) : PSs X st t' := ⟨fun pins s σ H D I q => h.run pins s σ H D I (w D σ H q)⟩
def sNx : List S → Res Fl := fun ρ => .ok .nx ρ
def sSeq (f g : List S → Res Fl) : List S → Res Fl := fun ρ => match f ρ with
  | .ok .nx ρ1 => g ρ1
  | r => r
def sExpr (f : List S → Res E) : List S → Res Fl := fun ρ => (f ρ).bind fun _ ρ1 => .ok .nx ρ1
def sRet (f : List S → Res E) : List S → Res Fl := fun ρ => (f ρ).bind fun v ρ1 => .ok (.rt v) ρ1
def sRetN : List S → Res Fl := fun ρ => .ok (.rt (.d .non)) ρ
def sIf (c : List S → Res Bool) (f g : List S → Res Fl) : List S → Res Fl := fun ρ => (c ρ).bind fun b ρ1 => if b = true then f ρ1 else g ρ1
def sBk : List S → Res Fl := fun ρ => .ok .bk ρ
def sCt : List S → Res Fl := fun ρ => .ok .ct ρ
def sNo : List S → Res Fl := fun _ => .no
/-- names = values -/
def sSet (is : List Nat) (f : List S → Res (List E)) : List S → Res Fl := fun ρ => (f ρ).bind fun vs ρ1 => match toSL vs ρ1 with
  | some (ss, ρ2) => if is.length = ss.length ∧ is.all (fun i => decide (i < ρ2.length)) = true then .ok .nx (setL ρ2 is ss) else .no
  | none => .no
def sSet1 (i : Nat) (f : List S → Res E) : List S → Res Fl := sSet [i] (aCons f aNil)
/-- a, b, .. = a value -/
def sTg (t : Tg) (f : List S → Res E) : List S → Res Fl := fun ρ => (f ρ).bind fun v ρ1 => match keep1 v ρ1 with
  | some (x, ρ2) => match tset t x ρ2 with
    | some ρ3 => .ok .nx ρ3
    | none => .no
  | none => .no
section
variable {X : Cx} {W : WX'} {P : List Nat} {st : Stmt} {rest a b : List Stmt} {e ce : Expr} {f g : List S → Res Fl} {fe : List S → Res E} {c : List S → Res Bool} {pos pos' : Pos}
theorem s_nil : PSsa X W P [] sNx := pss_imp pss_nil fun D σ H ⟨G, ρ, r, h⟩ => h σ H G (.refl r) .refl
theorem s_cons (h1 : PSa X W P st f) (h2 : PSsa X W P rest g) : PSsa X W P (st :: rest) (sSeq f g) :=
  pss_imp (pss_cons h1 h2) fun D σ H ⟨G, ρ, r, h⟩ => by
    refine ⟨G, ρ, r, ?_⟩
    unfold sSeq at h
    cases ef : f ρ with
    | no => rw [ef] at h; exact h
    | ex x ρ' => rw [ef] at h; exact h
    | ok fl ρ1 =>
      rw [ef] at h
      cases fl with
      | nx => exact fun σ' H' G' p k => ⟨G', ρ1, p.rel, aftS_go p k h⟩
      | bk => exact h
      | ct => exact h
      | rt v => exact h
theorem s_one (h1 : PSa X W P st f) : PSsa X W P [st] f := pss_one h1
theorem s_expr (he : PEa X W e fe) (hs : swapsWith e none pos.line X.env = pure false := by rfl) : PSa X W P (.Expr e pos) (sExpr fe) :=
  ps_imp (ps_expr he hs) fun D σ H ⟨G, ρ, r, h⟩ => lift_mono (lift_first r (AftS.cl (P := P) (D := D)) h) fun u H1 ⟨v, ρ1, G1, Pd, h1⟩ => h1 σ H1 G1 Pd.post .refl
theorem s_doc {x j} : PSa X W P (.Expr (.Constant (.str x) j pos) pos') sNx := ps_imp ps_doc fun D σ H ⟨G, ρ, r, h⟩ => h σ H G (.refl r) .refl
theorem s_pass : PSa X W P (.Pass pos) sNx := ps_imp ps_pass fun D σ H ⟨G, ρ, r, h⟩ => h σ H G (.refl r) .refl
theorem s_bk : PSa X W P (.Break pos) sBk := ps_imp ps_break fun D σ H ⟨G, ρ, r, h⟩ => h σ H G (.refl r) .refl
theorem s_ct : PSa X W P (.Continue pos) sCt := ps_imp ps_continue fun D σ H ⟨G, ρ, r, h⟩ => h σ H G (.refl r) .refl
theorem s_no : PSa X W P st sNo := ps_imp ps_never fun D σ H ⟨G, ρ, r, h⟩ => h
theorem s_ret (he : PEa X W e fe) : PSa X W P (.Return (some e) pos) (sRet fe) :=
  ps_imp (ps_ret he) fun D σ H ⟨G, ρ, r, h⟩ => lift_mono (lift_first r (AftS.cl (P := P) (D := D)) h) fun u H1 ⟨v, ρ1, G1, Pd, h1⟩ => by
    obtain ⟨w, ew, re⟩ := Pd.re 0 v rfl
    cases ew
    refine h1 u σ H1 G1 Pd.post .refl re ?_
    cases v with
    | d x => trivial
    | sl i => trivial
    | fr o => exact fun a ea => Pd.new 0 o a rfl (by rw [ea]; rfl)
theorem s_retN : PSa X W P (.Return none pos) sRetN := ps_imp ps_retN fun D σ H ⟨G, ρ, r, h⟩ => h .non σ H G (.refl r) .refl (fz_non (B := X.bk) (G := G)) trivial
theorem s_if (hc : PTa X W ce c) (ha : PSsa X W P a f) (hb : PSsa X W P b g) : PSa X W P (.If ce a b pos) (sIf c f g) :=
  ps_imp (ps_if hc ha hb) fun D σ H ⟨G, ρ, r, h⟩ => liftT_mono (liftT_next (Pend.nil r) (AftS.cl (P := P) (D := D)) h) fun b H1 ⟨ρ1, G1, p, h1⟩ => by
    cases b with
    | true => rw [if_pos rfl] at h1 ⊢; exact ⟨G1, ρ1, p.rel, aftS_go p .refl h1⟩
    | false => rw [if_neg Bool.false_ne_true] at h1 ⊢; exact ⟨G1, ρ1, p.rel, aftS_go p .refl h1⟩
/-! ### names are set -/
theorem setL_off {α : Type} : ∀ {is : List Nat} {xs l : List α} {j : Nat}, j ∉ is → (setL l is xs)[j]? = l[j]?
  | [], _, _, _, _ => by simp [setL]
  | _ :: _, [], _, _, _ => by simp [setL]
  | i :: is, x :: xs, l, j, h => by
    rw [setL, setL_off (fun z => h (List.mem_cons_of_mem _ z)), List.getElem?_set_ne (fun z => h (by rw [z]; exact List.mem_cons_self))]
theorem set_end {B : Bk} {is : List Nat} {D : Ends} {σ : St} {ρ ρ1 ρ2 : List S} {H G H1 G1 : Hp} {us : List V} {vs : List E} {ss : List S} (hP : ∀ i ∈ is, i ∉ P) (Pd : Pend B σ ρ H G ρ1 H1 G1 us vs) (et : toSL vs ρ1 = some (ss, ρ2)) (hl : is.length = ss.length) (hi : is.all (fun i => decide (i < ρ2.length)) = true)
    (h : AftS B W P σ ρ H G D (.ok .nx (setL ρ2 is ss))) : us.length = is.length ∧ D.nx (setL σ is (us.map some)) H1 := by
  obtain ⟨G2, p2, w2, _⟩ := Pend.toSL Pd et
  refine ⟨by rw [w2.len, hl], h _ H1 G2 (Wait.setL p2 w2 hl fun i hi' => of_decide_eq_true (List.all_eq_true.mp hi i hi')) fun j hj => ?_⟩
  rw [setL_off fun z => hP j z hj]
theorem s_set {i : Nat} {x : Str} (hN : X.N.Nodup) (hi : X.N[i]? = some x) (he : PEa X W e fe) (hP : i ∉ P := by decide) (hx : Loc X.env.scope x := by first | exact Or.inl rfl | exact Or.inr rfl) (hs : swapsWith e (some (.Name x pos')) pos.line X.env = pure false := by rfl) (hf : X.fn x = true ∨ X.env.scope.names.lookup x = some .local := by first | exact .inl rfl | exact .inr rfl | assumption) :
    PSa X W P (.Assign [.Name x pos'] e pos) (sSet1 i fe) :=
  ps_imp (ps_set hN hi hx he hs hf) fun D σ H ⟨G, ρ, r, h⟩ => by
    unfold sSet1 sSet aCons at h
    cases ef : fe ρ with
    | no => rw [ef] at h; exact h.elim
    | ex x ρ' => rw [ef] at h; exact ⟨G, ρ, r, by rw [ef]; exact AftS.cl.ex _ _ h⟩
    | ok v ρ1 =>
      rw [ef] at h
      have h : AftS X.bk W P σ ρ H G D (match toSL [v] ρ1 with
        | some (ss, ρ2) => if [i].length = ss.length ∧ [i].all (fun i => decide (i < ρ2.length)) = true then .ok .nx (setL ρ2 [i] ss) else .no
        | none => .no) := h
      refine ⟨G, ρ, r, ?_⟩
      rw [ef]
      intro u H1 G1 p re fr
      split at h
      · rename_i ss ρ2 et
        split at h
        · rename_i hl
          have z := (set_end (is := [i]) (us := [u]) (fun j hj => by simp at hj; subst hj; exact hP) (Pend.one p r re fr) et hl.1 hl.2 h).2
          exact z
        · exact h.elim
      · exact h.elim
def sTup2 (i j : Nat) (fs : List S → Res (List E)) := sSet [i, j] fs
theorem s_par2 {i j : Nat} {x y : Str} {a b : Expr} {fs : List S → Res (List E)} {px py pt : Pos} {kt k2 pt2} (hc : X.calm = true) (hN : X.N.Nodup) (hi : X.N[i]? = some x) (hj : X.N[j]? = some y) (ha : PAa X W [a, b] fs)
    (hw : swappedStores [.Tuple [.Name x px, .Name y py] kt pt] (.Tuple [a, b] k2 pt2) X.env = pure (some [x, y])) (hij : i ≠ j := by decide) (hP : ∀ k ∈ [i, j], k ∉ P := by decide)
    (hx : X.env.scope.names.lookup x = some .local := by rfl) (hy : X.env.scope.names.lookup y = some .local := by rfl)
    (hs : swapsWithSole [.Tuple [.Name x px, .Name y py] kt pt] (.Tuple [a, b] k2 pt2) pos.line X.env = pure false := by rfl) :
    PSa X W P (.Assign [.Tuple [.Name x px, .Name y py] kt pt] (.Tuple [a, b] k2 pt2) pos) (sSet [i, j] fs) :=
  ps_imp (ps_par hc hN hi hj hij hx hy ha hw hs) fun D σ H ⟨G, ρ, r, h⟩ => by
    refine liftA_mono (liftA_first r (AftS.cl (P := P) (D := D)) h) fun us H1 ⟨vs, ρ1, G1, Pd, h1⟩ => ?_
    split at h1
    · rename_i ss ρ2 et
      split at h1
      · rename_i hl
        obtain ⟨z1, z2⟩ := set_end hP Pd et hl.1 hl.2 h1
        match us, z1, z2 with
        | [u, w], _, z2 => exact ⟨u, w, rfl, z2⟩
      · exact h1.elim
    · exact h1.elim
theorem s_par3 {i j l : Nat} {x y z : Str} {a b c : Expr} {fs : List S → Res (List E)} {px py pz pt : Pos} {kt k2 pt2} (hc : X.calm = true) (hN : X.N.Nodup) (hi : X.N[i]? = some x) (hj : X.N[j]? = some y) (hl : X.N[l]? = some z) (ha : PAa X W [a, b, c] fs)
    (hw : swappedStores [.Tuple [.Name x px, .Name y py, .Name z pz] kt pt] (.Tuple [a, b, c] k2 pt2) X.env = pure (some [x, y, z])) (hij : i ≠ j := by decide) (hil : i ≠ l := by decide) (hjl : j ≠ l := by decide) (hP : ∀ k ∈ [i, j, l], k ∉ P := by decide)
    (hx : X.env.scope.names.lookup x = some .local := by rfl) (hy : X.env.scope.names.lookup y = some .local := by rfl) (hz : X.env.scope.names.lookup z = some .local := by rfl)
    (hs : swapsWithSole [.Tuple [.Name x px, .Name y py, .Name z pz] kt pt] (.Tuple [a, b, c] k2 pt2) pos.line X.env = pure false := by rfl) :
    PSa X W P (.Assign [.Tuple [.Name x px, .Name y py, .Name z pz] kt pt] (.Tuple [a, b, c] k2 pt2) pos) (sSet [i, j, l] fs) :=
  ps_imp (ps_par3 hc hN hi hj hl hij hil hjl hx hy hz ha hw hs) fun D σ H ⟨G, ρ, r, h⟩ => by
    refine liftA_mono (liftA_first r (AftS.cl (P := P) (D := D)) h) fun us H1 ⟨vs, ρ1, G1, Pd, h1⟩ => ?_
    split at h1
    · rename_i ss ρ2 et
      split at h1
      · rename_i hl
        obtain ⟨z1, z2⟩ := set_end hP Pd et hl.1 hl.2 h1
        match us, z1, z2 with
        | [u, w, v], _, z2 => exact ⟨u, w, v, rfl, z2⟩
      · exact h1.elim
    · exact h1.elim
/-- four names and more: by a tuple -/
def gNms : List Nat → TGs
  | [] => gNil
  | i :: is => gCons (gName i) (gNms is)
theorem gNms_of : ∀ {is : List Nat} {us : List V} {σ : St} {H : Hp} {Q : St → Hp → Prop}, us.length = is.length → Q (setL σ is (us.map some)) H → gNms is us σ H Q
  | [], [], σ, H, Q, _, q => ⟨rfl, by simpa [setL] using q⟩
  | i :: is, u :: us, σ, H, Q, hl, q => ⟨u, us, rfl, gNms_of (by simpa using hl) (by simpa [setL] using q)⟩
theorem s_parN {is : List Nat} {tgs es : List Expr} {fs : List S → Res (List E)} {pt : Pos} {kt k2 pt2} (hc : X.calm = true) (hg : PGs X tgs (gNms is)) (ha : PAa X W es fs) (hP : ∀ k ∈ is, k ∉ P) (hn : (assignEach tgs X.env).length = is.length := by rfl) (hz : is.length ≤ 1000 := by decide)
    (hst : (assignEach tgs X.env).findIdx? (·.1) = none := by rfl) (hs : swapsWithSole [.Tuple tgs kt pt] (.Tuple es k2 pt2) pos.line X.env = pure false := by rfl) (hw : swappedStores [.Tuple tgs kt pt] (.Tuple es k2 pt2) X.env = pure none := by rfl)
    (h1 : (assignEach [.Tuple tgs kt pt] X.env).map (·.2) = [assign (.Tuple tgs kt pt) X.env] := by rfl) :
    PSa X W P (.Assign [.Tuple tgs kt pt] (.Tuple es k2 pt2) pos) (sSet is fs) :=
  ps_imp (ps_asg (pe_tup ha) (pg_tup hc hg hn hst) hs hw h1) fun D σ H ⟨G, ρ, r, h⟩ => by
    refine liftA_mono (liftA_first r (AftS.cl (P := P) (D := D)) h) fun us H1 ⟨vs, ρ1, G1, Pd, h1⟩ => ?_
    split at h1
    · rename_i ss ρ2 et
      split at h1
      · rename_i hl
        have hlen : us.length = is.length := by
          obtain ⟨_, _, w2, _⟩ := Pend.toSL Pd et
          rw [w2.len, hl.1]
        refine ⟨by rw [hlen]; exact Nat.le_trans hz (by rw [sizeLine_eq]; decide), fun q hq => ⟨q, us, rfl, SqT.of upd_same, hlen, gNms_of hlen ?_⟩⟩
        have ph : Post X.bk σ ρ1 H1 G1 σ ρ1 (upd H1 q (.tup us)) G1 := (Post.refl Pd.post.rel).poke hq (Same.free Pd.post.rel.sub hq) fun j ⟨w1, o, w2⟩ => by
          obtain ⟨v, e1, a, ho, e2, e3, _⟩ := Pd.post.rel.slot j _ w2
          rw [w1] at e1; cases e1; cases e2
          rw [hq] at e3; cases e3
        exact (set_end hP (Pd.step ph) et hl.1 hl.2 h1).2
      · exact h1.elim
    · exact h1.elim
/-- a, b, .. = a value -/
theorem s_tg {tg : Expr} {t : Tg} (he : PEa X W e fe) (hg : PG X tg (gD X.bk t)) (hP : ∀ j, j ∈ t.names → j ∉ P := by decide) (hs : swapsWithSole [tg] e pos.line X.env = pure false := by rfl) (hw : swappedStores [tg] e X.env = pure none := by rfl)
    (h1 : (assignEach [tg] X.env).map (·.2) = [assign tg X.env] := by rfl) : PSa X W P (.Assign [tg] e pos) (sTg t fe) :=
  ps_imp (ps_asg he hg hs hw h1) fun D σ H ⟨G, ρ, r, h⟩ => by
    refine lift_mono (lift_first r (AftS.cl (P := P) (D := D)) h) fun u H1 ⟨v, ρ1, G1, Pd, h1⟩ => ?_
    split at h1
    · rename_i x ρ2 hk
      split at h1
      · rename_i ρ3 et
        obtain ⟨G2, p2, f2, _⟩ := Pend.keep1 Pd hk
        exact ⟨G2, ρ2, x, ρ3, p2.post.rel, f2, et, fun σ' q k => h1 σ' H1 G2 (p2.post.trans q) fun j hj => k j fun z => hP j z hj⟩
      · exact h1.elim
    · exact h1.elim
end
end L2.AL
/-! A11: stores into what a name owns; loops; name = [..]. -/
namespace L2.AL
open PySem PySem.Spec PyProof.Rows
/-! ### o[k] = v -/
def kput (ds : List (Key × D)) (k : Key) (d : D) : List (Key × D) :=
  if (ds.any fun kv => decide (kv.1 = k)) = true then ds.map (fun kv => if kv.1 = k then (kv.1, d) else kv) else ds ++ [(k, d)]
def putO : O → D → D → Option O
  | .lst xs, .int i, x => (ixN xs.length i).map fun j => .lst (xs.set j x)
  | .dct kvs, k, x => if kvs.length < sizeLine then k.key?.map fun k => .dct (kput kvs k x) else none
  | _, _, _ => none
section
variable {B : Bk} {G : Hp}
theorem FzK.any {k : Key} : ∀ {us : List (Key × V)} {ds : List (Key × D)}, FzK B G us ds → (us.any fun kv => decide (kv.1 = k)) = (ds.any fun kv => decide (kv.1 = k))
  | [], [], _ => rfl
  | [], _ :: _, h => by rw [FzK] at h; exact h.elim
  | _ :: _, [], h => by rw [FzK] at h; exact h.elim
  | u :: us, d :: ds, h => by
    rw [FzK] at h
    rw [List.any_cons, List.any_cons, h.1, FzK.any h.2.2]
theorem FzK.mapK {k : Key} {v : V} {d : D} (f : Fz B G v d) : ∀ {us : List (Key × V)} {ds : List (Key × D)}, FzK B G us ds → FzK B G (us.map fun kv => if kv.1 = k then (kv.1, v) else kv) (ds.map fun kv => if kv.1 = k then (kv.1, d) else kv)
  | [], [], h => h
  | [], _ :: _, h => by rw [FzK] at h; exact h.elim
  | _ :: _, [], h => by rw [FzK] at h; exact h.elim
  | u :: us, d' :: ds, h => by
    rw [FzK] at h
    rw [List.map_cons, List.map_cons, FzK]
    refine ⟨?_, ?_, FzK.mapK f h.2.2⟩
    · by_cases e : u.1 = k
      · rw [if_pos e, if_pos (by rw [← h.1]; exact e)]; exact h.1
      · rw [if_neg e, if_neg (by rw [← h.1]; exact e)]; exact h.1
    · by_cases e : u.1 = k
      · rw [if_pos e, if_pos (by rw [← h.1]; exact e)]; exact f
      · rw [if_neg e, if_neg (by rw [← h.1]; exact e)]; exact h.2.1
theorem FzK.appK : ∀ {us ws : List (Key × V)} {ds es : List (Key × D)}, FzK B G us ds → FzK B G ws es → FzK B G (us ++ ws) (ds ++ es)
  | [], _, [], _, _, h => h
  | [], _, _ :: _, _, h, _ => by rw [FzK] at h; exact h.elim
  | _ :: _, _, [], _, h, _ => by rw [FzK] at h; exact h.elim
  | u :: us, _, d :: ds, _, h, h' => by
    rw [FzK] at h
    show FzK B G (u :: (us ++ _)) (d :: (ds ++ _))
    rw [FzK]
    exact ⟨h.1, h.2.1, FzK.appK h.2.2 h'⟩
theorem FzK.put {k : Key} {v : V} {d : D} {us : List (Key × V)} {ds : List (Key × D)} (f : Fz B G v d) (h : FzK B G us ds) : FzK B G (putK us k v) (kput ds k d) := by
  unfold putK kput
  rw [FzK.any h]
  split
  · exact FzK.mapK f h
  · refine FzK.appK h ?_
    rw [FzK]
    exact ⟨rfl, f, by rw [FzK]; trivial⟩
end
def sPut (i : Nat) (fk fv : List S → Res E) : List S → Res Fl := fun ρ => (fv ρ).bind fun v ρ1 => match ρ1[i]? with
  | some (.own _) => (fk ρ1).bind fun k ρ2 => match keep1 v ρ2 with
    | some (x, ρ3) => match k.val ρ3, ρ3[i]? with
      | some kd, some (.own o) => match putO o kd x with
        | some o' => .ok .nx (ρ3.set i (.own o'))
        | none => .no
      | _, _ => .no
    | none => .no
  | _ => .no
theorem pset_or {X : Cx} {t t' : TSet} (h : PSet X t) (h' : PSet X t') : PSet X (fun o i v H Q => t o i v H Q ∨ t' o i v H Q) :=
  fun pins s σ H o i v ov iv u Q I r1 r2 r3 q => q.elim (h pins s σ H o i v ov iv u Q I r1 r2 r3) (h' pins s σ H o i v ov iv u Q I r1 r2 r3)
section
variable {X : Cx} {W : WX'} {P : List Nat} {e ke : Expr} {fv fk : List S → Res E} {pos tpos npos : Pos} {x : Str} {i : Nat}
theorem s_put (hu : X.A.units + 1 < cLine) (hN : X.N[i]? = some x) (hk : PEa X W ke fk) (hv : PEa X W e fv) (hvis : Vis X.env.scope x := by first | exact Or.inl rfl | exact Or.inr (Or.inl rfl) | exact Or.inr (Or.inr rfl))
    (hd : (x == ("__debug__" : Str)) = false := by decide) (hcd : (x == ("__classdict__" : Str)) = false := by decide)
    (ha : ∀ v, assign (.Subscript (.Name x npos) ke tpos) X.env v = (do
      let ov ← holding [v] (eval (.Name x npos) X.env)
      let iv ← holding [v, ov] (eval ke X.env)
      standAt tpos
      holding [v, ov, iv] (setItem ov iv v)
      release [v, ov, iv] []) := by intro _; rfl)
    (hs : swapsWithSole [.Subscript (.Name x npos) ke tpos] e pos.line X.env = pure false := by rfl) (hw : swappedStores [.Subscript (.Name x npos) ke tpos] e X.env = pure none := by rfl)
    (h1 : (assignEach [.Subscript (.Name x npos) ke tpos] X.env).map (·.2) = [assign (.Subscript (.Name x npos) ke tpos) X.env] := by rfl) :
    PSa X W P (.Assign [.Subscript (.Name x npos) ke tpos] e pos) (sPut i fk fv) :=
  ps_imp (ps_asg hv (pg_sub (a_var (W := W) i hN hvis hd hcd) hk (pset_or set_list (set_dict hu)) ha) hs hw h1) fun D σ H ⟨G, ρ, r, h⟩ => by
    refine lift_mono (lift_first r (AftS.cl (P := P) (D := D)) h) fun u H1 ⟨v, ρ1, G1, P1, h1⟩ => ?_
    split at h1
    · rename_i o0 ho0
      refine ⟨G1, ρ1, P1.post.rel, ?_⟩
      unfold aVar
      rw [ho0]
      intro ov H2 G2 p2 re2 fr2
      have P2 := P1.snoc p2 re2 trivial
      refine lift_mono (lift_next P2 (AftS.cl (P := P) (D := D)) h1) fun kv H3 ⟨k, ρ2, G3, P3, h3⟩ => ?_
      split at h3
      · rename_i xd ρ3 hk1
        split at h3
        · rename_i kd o hkd ho
          split at h3
          · rename_i o' hput
            obtain ⟨G4, P4, f4, s4⟩ := Pend.keep1 (us := [ov, kv]) (vs := [.sl i, k]) P3 hk1
            obtain ⟨w1, e1, r1⟩ := P4.re 0 _ rfl
            obtain ⟨w2, e2, r2⟩ := P4.re 1 _ rfl
            cases e1
            cases e2
            have r1 : σ[i]? = some (some ov) := r1
            obtain ⟨z, e1, a, hob, e2, e3, e4, e5⟩ := P4.post.rel.slot i _ ho
            rw [r1] at e1; cases e1; cases e2
            have tk := P4.post.rel.val r2 hkd
            have fin : ∀ ho', RO X.bk G4 ho' o' → D.nx σ (upd H3 a ho') := fun ho' ro => h3 σ _ G4 (mut_post P4.post r1 ho ro) .refl
            cases o with
            | lst ds =>
              cases kd <;> simp only [putO, reduceCtorEq] at hput
              obtain ⟨j, e6, rfl⟩ := Option.map_eq_some_iff.mp hput
              obtain ⟨us, rfl, f5⟩ := e5
              exact .inl ⟨a, us, _, j, rfl, tz_int tk, e3, by rw [f5.length]; exact e6, fin _ ⟨_, rfl, FzL.set f4 j f5⟩⟩
            | dct ds =>
              simp only [putO] at hput
              split at hput
              · rename_i hz
                obtain ⟨key, e6, rfl⟩ := Option.map_eq_some_iff.mp hput
                obtain ⟨us, rfl, f5⟩ := e5
                refine .inr ⟨a, _, rfl, ?_, fin _ ⟨_, rfl, FzK.put (k := key) f4 f5⟩⟩
                rw [key_v (tk.fz P4.post.rel.sub) e6]
                exact DPut.k e3 (by rw [f5.length]; exact hz)
              · cases hput
          · exact h3.elim
        · exact h3.elim
      · exact h3.elim
    · exact h1.elim
end
/-! ### for -/
def forGo (t : Tg) (body : List S → Res Fl) : List D → List S → Res Fl
  | [], ρ => .ok .nx ρ
  | x :: xs, ρ => match tset t x ρ with
    | none => .no
    | some ρ1 => match body ρ1 with
      | .ok .nx ρ2 => forGo t body xs ρ2
      | .ok .ct ρ2 => forGo t body xs ρ2
      | .ok .bk ρ2 => .ok .nx ρ2
      | r => r
def sFor (it : List S → Res (List D)) (t : Tg) (body : List S → Res Fl) : List S → Res Fl := fun ρ => (it ρ).bind fun xs ρ1 => forGo t body xs ρ1
section
variable {X : Cx} {W : WX'} {P : List Nat} {tg iter : Expr} {body : List Stmt} {it : List S → Res (List D)} {t : Tg} {fb : List S → Res Fl} {pos : Pos}
theorem s_for (hp : PassesOwn (model X.prog X.w) X.A X.env X.xe) (hc : X.calm = true) (hi : PIa X W tg iter it) (hg : PG X tg (gD X.bk t)) (hb : PSsa X W P body fb) (hP : ∀ j, j ∈ t.names → j ∉ P)
    (hs : ∀ x, foldedSetIterable iter X.env x = pure x := by intro _; rfl) : PSa X W P (.For tg iter body [] pos) (sFor it t fb) :=
  ps_imp (ps_for hp hc hi hg hb hs) fun D σ H ⟨G, ρ, r, h⟩ => by
    refine ⟨G, ρ, r, ?_⟩
    unfold sFor at h
    cases ei : it ρ with
    | no => rw [ei] at h; exact h
    | ex e ρ' => rw [ei] at h; exact AftS.cl.ex _ _ h
    | ok xs ρ1 =>
      rw [ei, Res.bind_ok] at h
      intro J H1 G1 p1 wk
      have h' : AftS X.bk W P σ ρ1 H1 G1 D (forGo t fb xs ρ1) := aftS_go p1 .refl h
      refine ⟨fun i m σi Hi => m = xs.length - i ∧ i ≤ xs.length ∧ ∃ ρi Gi, Post X.bk σ ρ1 H1 G1 σi ρi Hi Gi ∧ Keeps P σ σi ∧ AftS X.bk W P σ ρ1 H1 G1 D (forGo t fb (xs.drop i) ρi), ⟨xs.length, by simp, Nat.zero_le _, ρ1, G1, .refl p1.rel, .refl, by simpa using h'⟩, ?_⟩
      rintro i m σi Hi ⟨rfl, hi, ρi, Gi, Q, K, hgo⟩
      by_cases hlt : i < xs.length
      · refine .inr ⟨wk.go i Hi Gi hlt Q.grow Q.rel.sub, fun σ' H' => ∃ ρi Gi, Post X.bk σ ρ1 H1 G1 σ' ρi H' Gi ∧ Keeps P σ σ' ∧ AftS X.bk W P σ ρ1 H1 G1 D (forGo t fb (xs.drop (i + 1)) ρi),
          fun σ' H' q => ⟨xs.length - (i + 1), by omega, rfl, hlt, q⟩, fun v H' y => ?_⟩
        obtain ⟨x, G2, ex, nw⟩ := wk.yld i Hi Gi v H' hlt Q.grow Q.rel.sub y
        obtain ⟨q1, re, _⟩ := nw.post (Post.refl Q.rel)
        have re : Fz X.bk G2 v x := re
        have hdr : xs.drop i = x :: xs.drop (i + 1) := by
          rw [List.drop_eq_getElem_cons hlt]
          have : xs[i] = x := by rw [List.getElem?_eq_getElem hlt] at ex; exact Option.some.inj ex
          rw [this]
        rw [hdr, forGo] at hgo
        split at hgo
        · exact hgo.elim
        · rename_i ρa ea
          refine ⟨G2, ρi, x, ρa, q1.rel, re, ea, fun σ2 p2 k2 => ?_⟩
          have kk : Keeps P σi σ2 := fun j hj => k2 j fun z => hP j z hj
          have P2 := (Q.trans q1).trans p2
          refine ⟨G2, ρa, p2.rel, ?_⟩
          cases eb : fb ρa with
          | no => rw [eb] at hgo; exact hgo
          | ex e ρ' => rw [eb] at hgo; exact aftS_go P2 (K.trans kk) hgo
          | ok fl ρb =>
            rw [eb] at hgo
            cases fl with
            | nx => exact fun σ' H3 G3 p3 k3 => ⟨ρb, G3, P2.trans p3, (K.trans kk).trans k3, hgo⟩
            | ct => exact fun σ' H3 G3 p3 k3 => ⟨ρb, G3, P2.trans p3, (K.trans kk).trans k3, hgo⟩
            | bk => exact fun σ' H3 G3 p3 k3 => hgo σ' H3 G3 (P2.trans p3) ((K.trans kk).trans k3)
            | rt w => exact aftS_go P2 (K.trans kk) hgo
      · have e : i = xs.length := by omega
        subst e
        refine .inl ⟨wk.stop Hi Gi Q.grow Q.rel.sub, ?_⟩
        rw [List.drop_length, forGo] at hgo
        exact hgo σi Hi Gi Q K
end
/-! ### name = [..] -/
section
variable {X : Cx} {W : WX'} {P : List Nat} {tg iter elt : Expr} {ifs : List Expr} {scope : Scope} {own : List (Str × Nat)} {pos spos py : Pos} {it : List S → Res (List D)} {t : Tg} {c : List S → Res Bool} {f : List S → Res E} {vs : List Nat} {y : Str} {i : Nat}
theorem s_setLc (hc : X.calm = true) (hN : X.N.Nodup) (hy : X.N[i]? = some y) (hsw : swapsWith (.ListComp elt [⟨tg, iter, ifs, 0⟩] scope pos) (some (.Name y py)) spos.line X.env = pure true) (ok : BlkOk X.N X.env.scope scope own) (hv : own.map (·.2) = vs) (ht : ∀ j, j ∈ t.names → j ∈ vs) (hi : PIa X W tg iter it)
    (hg : ∀ (s : Shared) (H : Hp) (C : Addr) (cl : List (Str × Addr)) (fp : List Addr), PG (X.blk s H scope (compEnvC scope cl C X.env) fp) tg (gD X.bk t))
    (hc' : ∀ (s : Shared) (H : Hp) (C : Addr) (cl : List (Str × Addr)) (fp : List Addr), PTs (X.blk s H scope (compEnvC scope cl C X.env) fp) ifs (liftT X.bk WF c))
    (he : ∀ (s : Shared) (H : Hp) (C : Addr) (cl : List (Str × Addr)) (fp : List Addr), PE (X.blk s H scope (compEnvC scope cl C X.env) fp) elt (lift X.bk WF f)) (hP : i ∉ P := by decide) (hyl : X.env.scope.names.lookup y = some .local := by rfl) (hs : ∀ x, foldedSetIterable iter X.env x = pure x := by intro _; rfl) :
    PSa X W P (.Assign [.Name y py] (.ListComp elt [⟨tg, iter, ifs, 0⟩] scope pos) spos) (sSet1 i (aLc vs it t c f)) := by
  subst hv
  refine ps_imp (ps_setLc hc hN hy hyl hsw hi ok hg hc' he hs) fun D σ H ⟨G, ρ, r, h⟩ => ?_
  refine lc_imp (W := W) ht σ H _ ?_
  unfold sSet1 sSet aCons at h
  cases ef : aLc (own.map (·.2)) it t c f ρ with
  | no => rw [ef] at h; exact h.elim
  | ex x ρ' => rw [ef] at h; exact ⟨G, ρ, r, by rw [ef]; exact AftS.cl.ex _ _ h⟩
  | ok v ρ1 =>
    rw [ef] at h
    have h : AftS X.bk W P σ ρ H G D (match toSL [v] ρ1 with
      | some (ss, ρ2) => if [i].length = ss.length ∧ [i].all (fun i => decide (i < ρ2.length)) = true then .ok .nx (setL ρ2 [i] ss) else .no
      | none => .no) := h
    refine ⟨G, ρ, r, ?_⟩
    rw [ef]
    intro u H1 G1 p re fr
    split at h
    · rename_i ss ρ2 et
      split at h
      · rename_i hl
        exact (set_end (is := [i]) (us := [u]) (fun j hj => by simp at hj; subst hj; exact hP) (Pend.one p r re fr) et hl.1 hl.2 h).2
      · exact h.elim
    · exact h.elim
end
end L2.AL
/-! A12: defs by content, and their calls. -/
namespace L2.AL
open PySem PySem.Spec PyProof.Rows
/-! ### a call's arguments as slots -/
def argS (ρ : List S) : List E → Option (List S)
  | [] => some []
  | v :: vs => match (match v with
      | .d x => some (S.d x)
      | .fr o => some (S.own o)
      | .sl i => match ρ[i]? with
        | some (.d x) => some (.d x)
        | some (.own o) => some (.own o)
        | _ => none), argS ρ vs with
    | some s, some ss => some (s :: ss)
    | _, _ => none
def slIx : List E → List Nat
  | [] => []
  | .sl i :: vs => i :: slIx vs
  | _ :: vs => slIx vs
def wb : List E → List S → List S → List S
  | [], _, ρ => ρ
  | v :: vs, ss, ρ => match ss with
    | [] => ρ
    | s :: ss => match v with
      | .sl i => wb vs ss (ρ.set i s)
      | _ => wb vs ss ρ
theorem wb_sl {i : Nat} {vs : List E} {s : S} {ss ρ : List S} : wb (.sl i :: vs) (s :: ss) ρ = wb vs ss (ρ.set i s) := rfl
theorem wb_d {x : D} {vs : List E} {s : S} {ss ρ : List S} : wb (.d x :: vs) (s :: ss) ρ = wb vs ss ρ := rfl
theorem wb_fr {x : O} {vs : List E} {s : S} {ss ρ : List S} : wb (.fr x :: vs) (s :: ss) ρ = wb vs ss ρ := rfl
theorem wb_length : ∀ {vs : List E} {ss ρ : List S}, (wb vs ss ρ).length = ρ.length
  | [], _, _ => rfl
  | _ :: _, [], _ => rfl
  | .sl i :: vs, s :: ss, ρ => by rw [wb_sl, wb_length, List.length_set]
  | .d x :: vs, s :: ss, ρ => by rw [wb_d, wb_length]
  | .fr o :: vs, s :: ss, ρ => by rw [wb_fr, wb_length]
theorem mem_slIx : ∀ {vs : List E} {k i : Nat}, vs[k]? = some (.sl i) → i ∈ slIx vs
  | [], _, _, e => by simp at e
  | v :: vs, 0, i, e => by simp at e; subst e; exact List.mem_cons_self
  | v :: vs, k + 1, i, e => by
    have := mem_slIx (k := k) (by simpa using e)
    cases v with
    | sl j => exact List.mem_cons_of_mem _ this
    | d x => exact this
    | fr o => exact this
theorem wb_off : ∀ {vs : List E} {ss ρ : List S} {i : Nat}, i ∉ slIx vs → (wb vs ss ρ)[i]? = ρ[i]?
  | [], _, _, _, _ => rfl
  | _ :: _, [], _, _, _ => rfl
  | .sl j :: vs, s :: ss, ρ, i, h => by
    simp only [slIx, List.mem_cons, not_or] at h
    rw [wb_sl, wb_off h.2, List.getElem?_set_ne (Ne.symm h.1)]
  | .d x :: vs, s :: ss, ρ, i, h => by rw [wb_d]; exact wb_off h
  | .fr o :: vs, s :: ss, ρ, i, h => by rw [wb_fr]; exact wb_off h
theorem wb_at : ∀ {vs : List E} {ss ρ : List S} {k i : Nat} {s : S}, (slIx vs).Nodup → vs[k]? = some (.sl i) → ss[k]? = some s → i < ρ.length → (wb vs ss ρ)[i]? = some s
  | [], _, _, _, _, _, _, e, _, _ => by simp at e
  | _ :: _, [], _, _, _, _, _, _, e, _ => by simp at e
  | v :: vs, t :: ss, ρ, 0, i, s, nd, e1, e2, hi => by
    simp at e1 e2
    subst e1 e2
    simp only [slIx, List.nodup_cons] at nd
    rw [wb_sl, wb_off nd.1, List.getElem?_set_self hi]
  | .sl j :: vs, t :: ss, ρ, k + 1, i, s, nd, e1, e2, hi => by
    simp only [slIx, List.nodup_cons] at nd
    rw [wb_sl]
    exact wb_at (ρ := ρ.set j t) (k := k) nd.2 (by simpa using e1) (by simpa using e2) (by rw [List.length_set]; exact hi)
  | .d x :: vs, t :: ss, ρ, k + 1, i, s, nd, e1, e2, hi => by
    rw [wb_d]; exact wb_at (k := k) nd (by simpa using e1) (by simpa using e2) hi
  | .fr o :: vs, t :: ss, ρ, k + 1, i, s, nd, e1, e2, hi => by
    rw [wb_fr]; exact wb_at (k := k) nd (by simpa using e1) (by simpa using e2) hi
theorem of_slIx : ∀ {vs : List E} {i : Nat}, i ∈ slIx vs → ∃ k : Nat, vs[k]? = some (E.sl i)
  | [], i, h => by simp [slIx] at h
  | .sl j :: vs, i, h => by
    simp only [slIx, List.mem_cons] at h
    rcases h with rfl | h
    · exact ⟨0, rfl⟩
    · obtain ⟨k, hk⟩ := of_slIx h; exact ⟨k + 1, by simpa using hk⟩
  | .d x :: vs, i, h => by obtain ⟨k, hk⟩ := of_slIx (vs := vs) h; exact ⟨k + 1, by simpa using hk⟩
  | .fr o :: vs, i, h => by obtain ⟨k, hk⟩ := of_slIx (vs := vs) h; exact ⟨k + 1, by simpa using hk⟩
theorem slIx_inj : ∀ {vs : List E} {k l i : Nat}, (slIx vs).Nodup → vs[k]? = some (.sl i) → vs[l]? = some (.sl i) → k = l
  | [], _, _, _, _, e, _ => by simp at e
  | v :: vs, 0, 0, _, _, _, _ => rfl
  | v :: vs, 0, l + 1, i, nd, e1, e2 => by
    simp at e1; subst e1
    simp only [slIx, List.nodup_cons] at nd
    exact absurd (mem_slIx (k := l) (by simpa using e2)) nd.1
  | v :: vs, k + 1, 0, i, nd, e1, e2 => by
    simp at e2; subst e2
    simp only [slIx, List.nodup_cons] at nd
    exact absurd (mem_slIx (k := k) (by simpa using e1)) nd.1
  | v :: vs, k + 1, l + 1, i, nd, e1, e2 => by
    have nd' : (slIx vs).Nodup := by
      cases v with
      | sl j => simp only [slIx, List.nodup_cons] at nd; exact nd.2
      | d x => exact nd
      | fr o => exact nd
    exact congrArg (· + 1) (slIx_inj (k := k) (l := l) nd' (by simpa using e1) (by simpa using e2))
theorem argS_get {ρ : List S} : ∀ {vs : List E} {ss : List S} {k : Nat} {s : S}, argS ρ vs = some ss → ss[k]? = some s → ∃ v, vs[k]? = some v ∧ ((∃ x, v = .d x ∧ s = .d x) ∨ (∃ o, v = .fr o ∧ s = .own o) ∨ ∃ i, v = .sl i ∧ ρ[i]? = some s ∧ s ≠ .no)
  | [], ss, k, s, e, e2 => by simp only [argS, Option.some.injEq] at e; subst e; simp at e2
  | v :: vs, ss, k, s, e, e2 => by
    simp only [argS] at e
    split at e
    · rename_i t ts e3 e4
      cases e
      cases k with
      | zero =>
        simp at e2; subst e2
        refine ⟨v, rfl, ?_⟩
        cases v with
        | d x => cases e3; exact .inl ⟨x, rfl, rfl⟩
        | fr o => cases e3; exact .inr (.inl ⟨o, rfl, rfl⟩)
        | sl i =>
          simp only at e3
          split at e3
          · rename_i x hx; cases e3; exact .inr (.inr ⟨i, rfl, hx, fun z => by cases z⟩)
          · rename_i o ho; cases e3; exact .inr (.inr ⟨i, rfl, ho, fun z => by cases z⟩)
          · cases e3
      | succ k =>
        obtain ⟨w, q1, q2⟩ := argS_get (k := k) e4 (by simpa using e2)
        exact ⟨w, by simpa using q1, q2⟩
    · cases e
theorem argS_len {ρ : List S} : ∀ {vs : List E} {ss : List S}, argS ρ vs = some ss → ss.length = vs.length
  | [], ss, e => by simp only [argS, Option.some.injEq] at e; subst e; rfl
  | v :: vs, ss, e => by
    simp only [argS] at e
    split at e
    · rename_i t ts e3 e4
      cases e
      rw [List.length_cons, List.length_cons, argS_len e4]
    · cases e
section
variable {B : Bk} {σ : St} {ρ0 ρ1 ss ss' : List S} {H0 G0 H1 G1 H2 G2 : Hp} {us : List V} {vs : List E}
theorem map_get {α β : Type} {f : α → β} {l : List α} {k : Nat} {y : β} (h : (l.map f)[k]? = some y) : ∃ x, l[k]? = some x ∧ f x = y := by
  rw [List.getElem?_map] at h
  exact Option.map_eq_some_iff.mp h
/-- who owns an argument's object -/
theorem arg_own (P : Pend B σ ρ0 H0 G0 ρ1 H1 G1 us vs) (ea : argS ρ1 vs = some ss) {k : Nat} {a : Addr} (w : Own (us.map some) ss k a) :
    us[k]? = some (.ref a) ∧ ((∃ o, vs[k]? = some (.fr o)) ∨ ∃ i, vs[k]? = some (.sl i) ∧ Own σ ρ1 i a) := by
  obtain ⟨w1, o, w2⟩ := w
  obtain ⟨x, e1, e2⟩ := map_get w1
  cases e2
  refine ⟨e1, ?_⟩
  obtain ⟨v, e3, ⟨x, _, e5⟩ | ⟨o', e4, e5⟩ | ⟨i, e4, e5, _⟩⟩ := argS_get ea w2
  · cases e5
  · exact .inl ⟨o', by rw [e3, e4]⟩
  · subst e4
    obtain ⟨u, q1, q2⟩ := P.re k _ e3
    rw [e1] at q1
    cases q1
    exact .inr ⟨i, e3, q2, o, e5⟩
theorem Pend.args (P : Pend B σ ρ0 H0 G0 ρ1 H1 G1 us vs) (ea : argS ρ1 vs = some ss) (nd : (slIx vs).Nodup) : Rel B G1 (us.map some) ss H1 := by
  refine ⟨P.post.rel.sub, by rw [List.length_map, P.len, argS_len ea], fun k s e => ?_, fun k l a w w' => ?_⟩
  · obtain ⟨v, e3, h⟩ := argS_get ea e
    obtain ⟨u, q1, q2⟩ := P.re k _ e3
    refine ⟨some u, by rw [List.getElem?_map, q1]; rfl, ?_⟩
    rcases h with ⟨x, rfl, rfl⟩ | ⟨o, rfl, rfl⟩ | ⟨i, rfl, e5, _⟩
    · exact ⟨u, rfl, q2⟩
    · obtain ⟨a, ho, rfl, h1, h2, h3, _⟩ := q2
      exact ⟨a, ho, rfl, h1, h2, h3⟩
    · have q2 : σ[i]? = some (some u) := q2
      obtain ⟨v, e1, e2⟩ := P.post.rel.slot i s e5
      rw [q2] at e1; cases e1
      exact e2
  · obtain ⟨u1, h1⟩ := arg_own P ea w
    obtain ⟨u2, h2⟩ := arg_own P ea w'
    have fr_no : ∀ {k : Nat} {o : O}, us[k]? = some (.ref a) → vs[k]? = some (.fr o) → ∀ i, ¬ Own σ ρ1 i a := fun {k o} e e' => by
      obtain ⟨u, q1, b, ho, q2, _, _, _, q3⟩ := P.re k _ e'
      rw [e] at q1; cases q1; cases q2
      exact q3
    rcases h1 with ⟨o, h1⟩ | ⟨i, h1, w1⟩
    · rcases h2 with ⟨o', h2⟩ | ⟨j, h2, w2⟩
      · exact P.apart k l o o' a h1 h2 u1 u2
      · exact absurd w2 (fr_no u1 h1 j)
    · rcases h2 with ⟨o', h2⟩ | ⟨j, h2, w2⟩
      · exact absurd w1 (fr_no u2 h2 i)
      · have := P.post.rel.sep i j a w1 w2
        subst this
        exact slIx_inj nd h1 h2
/-- behind the call -/
theorem Pend.back (P : Pend B σ ρ0 H0 G0 ρ1 H1 G1 us vs) (ea : argS ρ1 vs = some ss) (nd : (slIx vs).Nodup) (p : Post B (us.map some) ss H1 G1 (us.map some) ss' H2 G2) :
    Post B σ ρ0 H0 G0 σ (wb vs ss' ρ1) H2 G2 ∧ ∀ i a, Own σ (wb vs ss' ρ1) i a → (∃ k, Own (us.map some) ss' k a) ∨ Own σ ρ1 i a := by
  have hl' : ss'.length = vs.length := by rw [← p.rel.len, List.length_map, P.len]
  -- an owned object of the caller behind the call
  have oo : ∀ i a, Own σ (wb vs ss' ρ1) i a → (∃ k, vs[k]? = some (.sl i) ∧ Own (us.map some) ss' k a) ∨ (i ∉ slIx vs ∧ Own σ ρ1 i a) := fun i a ⟨w1, o, w2⟩ => by
    by_cases hi : i ∈ slIx vs
    · obtain ⟨k, hk⟩ := of_slIx hi
      refine .inl ⟨k, hk, ?_⟩
      obtain ⟨u, q1, q2⟩ := P.re k _ hk
      have q2 : σ[i]? = some (some u) := q2
      rw [w1] at q2; cases q2
      have hkl : k < ss'.length := by rw [hl']; exact (List.getElem?_eq_some_iff.mp hk).1
      have hil : i < ρ1.length := by rw [← P.post.rel.len]; exact (List.getElem?_eq_some_iff.mp w1).1
      have e := wb_at nd hk (List.getElem?_eq_getElem hkl) hil
      rw [w2] at e
      exact ⟨by rw [List.getElem?_map, q1]; rfl, o, by rw [List.getElem?_eq_getElem hkl]; exact e.symm⟩
    · rw [wb_off hi] at w2
      exact .inr ⟨hi, w1, o, w2⟩
  have fr0 : ∀ {b : Addr} {o : HO}, H0 b = some o → (∀ i, ¬ Own σ ρ0 i b) → ∀ k, ¬ Own (us.map some) ss k b := fun {b o} e n k w => by
    obtain ⟨u1, ⟨o', h1⟩ | ⟨i, h1, w1⟩⟩ := arg_own P ea w
    · have := P.new k o' b h1 u1
      rw [e] at this; cases this
    · exact P.post.notown e n i w1
  have own2 : ∀ i a, (∃ k, vs[k]? = some (.sl i) ∧ Own (us.map some) ss' k a) → Own σ ρ1 i a ∨ H1 a = none := fun i a ⟨k, hk, w⟩ => by
    rcases p.own k a w with w' | z
    · obtain ⟨u1, ⟨o', h1⟩ | ⟨j, h1, w1⟩⟩ := arg_own P ea w'
      · rw [hk] at h1; cases h1
      · rw [hk] at h1; cases h1; exact .inl w1
    · exact .inr z
  refine ⟨⟨P.post.grow.trans p.grow, fun b e => P.post.dom b (p.dom b e), fun b o e n => p.frame b o (P.post.frame b o e n) (fr0 e n), fun b o e g n => p.keep b o (P.post.frame b o e n) (P.post.keep b o e g n) (fr0 e n), ⟨p.rel.sub, by rw [wb_length]; exact P.post.rel.len, fun i s e => ?_, fun i j a w w' => ?_⟩, fun i a w => ?_⟩, fun i a w => ?_⟩
  · by_cases hi : i ∈ slIx vs
    · obtain ⟨k, hk⟩ := of_slIx hi
      obtain ⟨u, q1, q2⟩ := P.re k _ hk
      have q2 : σ[i]? = some (some u) := q2
      have hkl : k < ss'.length := by rw [hl']; exact (List.getElem?_eq_some_iff.mp hk).1
      have hil : i < ρ1.length := by rw [← P.post.rel.len]; exact (List.getElem?_eq_some_iff.mp q2).1
      have e' := wb_at nd hk (List.getElem?_eq_getElem hkl) hil
      rw [e] at e'
      obtain ⟨v, e1, e2⟩ := p.rel.slot k s (by rw [List.getElem?_eq_getElem hkl]; exact e'.symm)
      rw [List.getElem?_map, q1] at e1
      cases e1
      exact ⟨_, q2, e2⟩
    · rw [wb_off hi] at e
      obtain ⟨v, e1, e2⟩ := P.post.rel.slot i s e
      refine ⟨v, e1, ?_⟩
      cases s with
      | no => trivial
      | d x => obtain ⟨u, q1, q2⟩ := e2; exact ⟨u, q1, Fz.mono p.grow _ _ q2⟩
      | own o =>
        obtain ⟨a, ho, q1, q2, q3, q4⟩ := e2
        subst q1
        have nk : ∀ k, ¬ Own (us.map some) ss k a := fun k w => by
          obtain ⟨u1, ⟨o', h1⟩ | ⟨j, h1, w1⟩⟩ := arg_own P ea w
          · obtain ⟨u, q5, b, ho', q6, _, _, _, q7⟩ := P.re k _ h1
            rw [u1] at q5; cases q5; cases q6
            exact q7 i ⟨e1, o, e⟩
          · have := P.post.rel.sep i j a ⟨e1, o, e⟩ w1
            subst this
            exact hi (mem_slIx h1)
        exact ⟨a, ho, rfl, p.frame a ho q2 nk, p.keep a ho q2 q3 nk, q4.mono p.grow⟩
  · have has : ∀ {i : Nat}, Own σ ρ1 i a → ∃ o, H1 a = some o := fun {i} ⟨w1, o, w2⟩ => by
      obtain ⟨v, e1, b, ho, e2, e3, _⟩ := P.post.rel.slot i _ w2
      rw [w1] at e1; cases e1; cases e2
      exact ⟨ho, e3⟩
    have both : ∀ {i j : Nat}, (∃ k, vs[k]? = some (.sl i) ∧ Own (us.map some) ss' k a) → Own σ ρ1 j a → i = j := fun {i j} w w' => by
      rcases own2 i a w with z | z
      · exact P.post.rel.sep i j a z w'
      · obtain ⟨o, z'⟩ := has w'
        rw [z] at z'; cases z'
    rcases oo i a w with h1 | ⟨_, h1⟩
    · rcases oo j a w' with h2 | ⟨_, h2⟩
      · obtain ⟨k, hk, wk⟩ := h1
        obtain ⟨l, hl, wl⟩ := h2
        have := p.rel.sep k l a wk wl
        subst this
        rw [hk] at hl; cases hl; rfl
      · exact both h1 h2
    · rcases oo j a w' with h2 | ⟨_, h2⟩
      · exact (both h2 h1).symm
      · exact P.post.rel.sep i j a h1 h2
  · rcases oo i a w with h1 | ⟨_, h1⟩
    · rcases own2 i a h1 with z | z
      · exact P.post.own i a z
      · exact .inr (P.post.dom a z)
    · exact P.post.own i a h1
  · rcases oo i a w with ⟨k, _, h1⟩ | ⟨_, h1⟩
    · exact .inl ⟨k, h1⟩
    · exact .inr h1
end
/-- f(args), F what the def does -/
def appFn (F : List S → Res E) (vs : List E) (ρ1 : List S) : Res E := match argS ρ1 vs with
  | some ss => if (slIx vs).Nodup then match F ss with
      | .ok (.d x) ss' => .ok (.d x) (wb vs ss' ρ1)
      | .ok (.fr o) ss' => .ok (.fr o) (wb vs ss' ρ1)
      | .ok (.sl _) _ => .no
      | .ex e ss' => .ex e (wb vs ss' ρ1)
      | .no => .no
    else .no
  | none => .no
def aFn (F : List S → Res E) (fs : List S → Res (List E)) : List S → Res E := fun ρ => (fs ρ).bind fun vs ρ1 => appFn F vs ρ1
/-- what a def is asked for -/
def spC (B : Bk) (F : List S → Res E) : Sp := fun vs H Q E => lift B (fun cls d _ H => E cls d H) F (vs.map some) H Q
theorem app_imp {B : Bk} {W : WX'} {F : List S → Res E} {σ : St} {ρ0 ρ1 : List S} {H0 G0 H1 G1 : Hp} {us : List V} {vs : List E} {Q : VK} (P : Pend B σ ρ0 H0 G0 ρ1 H1 G1 us vs) (h : Aft B W σ ρ0 H0 G0 Q (appFn F vs ρ1)) :
    spC B F us H1 Q (fun cls d H => W cls d σ H) := by
  unfold appFn at h
  split at h
  · rename_i ss ea
    split at h
    · rename_i nd
      refine ⟨G1, ss, P.args ea nd, ?_⟩
      cases ef : F ss with
      | no => rw [ef] at h; exact h
      | ex e ss' =>
        rw [ef] at h
        exact fun cls d H' G' p rx => h cls d H' G' (P.back ea nd p).1 rx
      | ok v ss' =>
        rw [ef] at h
        intro u H' G' p re fr
        obtain ⟨pb, po⟩ := P.back ea nd p
        cases v with
        | d x => exact h u H' G' pb re trivial
        | sl i => exact h.elim
        | fr o =>
          obtain ⟨a, ho, rfl, h1, h2, h3, h4⟩ := re
          have n1 : H1 a = none := fr a rfl
          refine h _ H' G' pb ⟨a, ho, rfl, h1, h2, h3, fun i w => ?_⟩ fun b e => by cases e; exact P.post.dom _ n1
          rcases po i a w with ⟨k, w'⟩ | ⟨w1, o', w2⟩
          · exact h4 k w'
          · obtain ⟨v, e1, b, ho', e2, e3, _⟩ := P.post.rel.slot i _ w2
            rw [w1] at e1; cases e1; cases e2
            rw [n1] at e3; cases e3
    · exact h.elim
  · exact h.elim
end L2.AL
/-! A13: a def keeps what its mirror says; calls of defs; the head. -/
namespace L2.AL
open PySem PySem.Spec PyProof.Rows
/-- a def's promise where no guard stands around -/
structure FnG (P : Program) (w : World) (K : PySem.W.Frag) (mg : Str → Option Value) (base : Heap) (CX : CXT) (n : Nat) (a : Addr) (fd : FuncData) (par : List Str) (F : List S → Res E) : Prop where
  go : ∀ (A : Around) (up : List Env) (s0 : Shared) (H : Hp) (given : Args) (zs : List Value) (us : List V) (Q : VK) (Ex : XK),
    A.guards = some [] → Room n A → Env0 P w K mg base A up s0 H → BindsTo s0 fd given (par.zip zs) → Vals us zs → us.length = par.length → spC ⟨K, mg, w⟩ F us H Q Ex →
    codeAny (model P w) A (.call (.ref a) given) (CR CX up P w H s0 Q Ex) s0
theorem FnG.mono {P : Program} {w : World} {K : PySem.W.Frag} {mg : Str → Option Value} {base : Heap} {CX : CXT} {m n : Nat} {a : Addr} {fd : FuncData} {par : List Str} {F : List S → Res E} (h : FnG P w K mg base CX m a fd par F) (le : m ≤ n) : FnG P w K mg base CX n a fd par F :=
  ⟨fun A up s0 H given zs us Q Ex hg hr => h.go A up s0 H given zs us Q Ex hg (hr.mono le)⟩
/-! ### from the body to the def -/
def outF (np : Nat) : Res Fl → Res E
  | .ok .nx ρ' => .ok (.d .non) (ρ'.take np)
  | .ok (.rt (.d x)) ρ' => .ok (.d x) (ρ'.take np)
  | .ok (.rt (.fr o)) ρ' => .ok (.fr o) (ρ'.take np)
  | .ok (.rt (.sl j)) ρ' => if j < np then match freeze j (ρ'.take np) with
      | some (x, ρ2) => .ok (.d x) ρ2
      | none => .no
    else match ρ'[j]? with
      | some (.d x) => .ok (.d x) (ρ'.take np)
      | some (.own o) => .ok (.fr o) (ρ'.take np)
      | _ => .no
  | .ok .bk _ => .no
  | .ok .ct _ => .no
  | .ex e ρ' => .ex e (ρ'.take np)
  | .no => .no
/-- np parameters, nl further names -/
def runF (np nl : Nat) (f : List S → Res Fl) : List S → Res E := fun ρ => if ρ.length = np then outF np (f (ρ ++ List.replicate nl .no)) else .no
section
variable {B : Bk} {us : List V} {ρ ρ' : List S} {H G H' G' : Hp} {nl : Nat} {σ' : St}
theorem start_own {j : Nat} {b : Addr} (w : Own (us.map some ++ List.replicate nl none) (ρ ++ List.replicate nl S.no) j b) : Own (us.map some) ρ j b := by
  obtain ⟨w1, o, w2⟩ := w
  by_cases hj : j < ρ.length
  · rw [List.getElem?_append_left hj] at w2
    by_cases hu : j < (us.map some).length
    · rw [List.getElem?_append_left hu] at w1
      exact ⟨w1, o, w2⟩
    · rw [List.getElem?_append_right (by omega), List.getElem?_replicate] at w1
      split at w1 <;> cases w1
  · rw [List.getElem?_append_right (by omega), List.getElem?_replicate] at w2
    split at w2 <;> cases w2
theorem Rel.start (r : Rel B G (us.map some) ρ H) : Rel B G (us.map some ++ List.replicate nl none) (ρ ++ List.replicate nl .no) H := by
  have hl : us.length = ρ.length := by have := r.len; rwa [List.length_map] at this
  refine ⟨r.sub, by rw [List.length_append, List.length_append, List.length_replicate, List.length_replicate, r.len], fun j s e => ?_, fun i j a w1 w2 => r.sep i j a (start_own w1) (start_own w2)⟩
  by_cases hj : j < ρ.length
  · rw [List.getElem?_append_left hj] at e
    obtain ⟨v, e1, e2⟩ := r.slot j s e
    exact ⟨v, by rw [List.getElem?_append_left (by rw [List.length_map, hl]; exact hj)]; exact e1, e2⟩
  · rw [List.getElem?_append_right (by omega), List.getElem?_replicate] at e
    split at e
    · rename_i hx
      cases e
      exact ⟨none, by rw [List.getElem?_append_right (by rw [List.length_map]; omega), List.getElem?_replicate, List.length_map, hl, if_pos hx], trivial⟩
    · cases e
theorem take_own {np : Nat} (hnp : us.length = np) (k : Keeps (List.range np) (us.map some ++ List.replicate nl none) σ') {j : Nat} {b : Addr} (w : Own (us.map some) (ρ'.take np) j b) : j < np ∧ Own σ' ρ' j b := by
  obtain ⟨w1, o, w2⟩ := w
  have hj : j < np := by
    have := (List.getElem?_eq_some_iff.mp w2).1
    rw [List.length_take] at this; omega
  rw [List.getElem?_take_of_lt hj] at w2
  refine ⟨hj, ?_, o, w2⟩
  rw [k j (List.mem_range.mpr hj), List.getElem?_append_left (by rw [List.length_map]; omega)]
  exact w1
/-- back to the arguments -/
theorem Post.args {np : Nat} (hnp : us.length = np) (hr : ρ.length = np) (p : Post B (us.map some ++ List.replicate nl none) (ρ ++ List.replicate nl .no) H G σ' ρ' H' G') (k : Keeps (List.range np) (us.map some ++ List.replicate nl none) σ') :
    Post B (us.map some) ρ H G (us.map some) (ρ'.take np) H' G' := by
  have hl' : np ≤ ρ'.length := by
    rw [← p.rel.len]
    cases np with
    | zero => exact Nat.zero_le _
    | succ m =>
      have e := k m (List.mem_range.mpr (Nat.lt_succ_self m))
      rw [List.getElem?_append_left (by rw [List.length_map]; omega), List.getElem?_map, List.getElem?_eq_getElem (show m < us.length by omega)] at e
      exact (List.getElem?_eq_some_iff.mp e).1
  have up : ∀ {i : Nat} {b : Addr}, Own (us.map some ++ List.replicate nl none) (ρ ++ List.replicate nl S.no) i b → Own (us.map some) ρ i b := fun w => start_own w
  refine ⟨p.grow, p.dom, fun b o e n => p.frame b o e fun i w => n i (up w), fun b o e g n => p.keep b o e g fun i w => n i (up w), ⟨p.rel.sub, by rw [List.length_map, List.length_take]; omega, fun j s e => ?_, fun i j a w w' => p.rel.sep i j a (take_own hnp k w).2 (take_own hnp k w').2⟩, fun i a w => ?_⟩
  · have hj : j < np := by
      have := (List.getElem?_eq_some_iff.mp e).1
      rw [List.length_take] at this; omega
    rw [List.getElem?_take_of_lt hj] at e
    obtain ⟨v, e1, e2⟩ := p.rel.slot j s e
    rw [k j (List.mem_range.mpr hj), List.getElem?_append_left (by rw [List.length_map]; omega)] at e1
    exact ⟨v, e1, e2⟩
  · rcases p.own i a (take_own hnp k w).2 with z | z
    · exact .inl (up z)
    · exact .inr z
theorem body_imp {np : Nat} {f : List S → Res Fl} {Q : VK} {W : WX'} {Ex : XK} (hW : ∀ cls d σ H, Ex cls d H → W cls d σ H) (hnp : us.length = np) (h : spC B (runF np nl f) us H Q Ex) :
    liftS B W (List.range np) f { nx := fun _ H' => Q .non H', rt := Q } (us.map some ++ List.replicate nl none) H := by
  obtain ⟨G, ρ, r, h⟩ := h
  unfold runF at h
  split at h
  · rename_i hr
    refine ⟨G, ρ ++ List.replicate nl .no, r.start, ?_⟩
    cases ef : f (ρ ++ List.replicate nl .no) with
    | no => rw [ef] at h; exact h.elim
    | ex e ρ' => rw [ef] at h; exact fun cls d σ' H' G' p k rx => hW _ _ _ _ (h cls d H' G' (p.args hnp hr k) rx)
    | ok fl ρ' =>
      rw [ef] at h
      cases fl with
      | bk => exact h.elim
      | ct => exact h.elim
      | nx => exact fun σ' H' G' p k => h .non H' G' (p.args hnp hr k) (fz_non (B := B) (G := G')) trivial
      | rt v =>
        intro u σ' H' G' p k re fr
        have pa := p.args hnp hr k
        cases v with
        | d x => exact h u H' G' pa re trivial
        | fr o =>
          obtain ⟨a, ho, e, h1, h2, h3, h4⟩ := re
          exact h u H' G' pa ⟨a, ho, e, h1, h2, h3, fun i w => h4 i (take_own hnp k w).2⟩ fr
        | sl j =>
          have re : σ'[j]? = some (some u) := re
          rw [outF] at h
          split at h
          · rename_i hj
            split at h
            · rename_i x ρ2 hf
              have ru : (us.map some)[j]? = some (some u) := by
                rw [← re, k j (List.mem_range.mpr hj), List.getElem?_append_left (by rw [List.length_map]; omega)]
              obtain ⟨G2, q, f2, _⟩ := freeze_ok pa.rel ru hf
              exact h u H' G2 (pa.trans q) f2 trivial
            · exact h.elim
          · rename_i hj
            split at h
            · rename_i x hx
              obtain ⟨v, e1, w, e2, e3⟩ := p.rel.slot j _ hx
              rw [re] at e1; cases e1; cases e2
              exact h u H' G' pa e3 trivial
            · rename_i o ho
              obtain ⟨v, e1, a, hob, e2, e3, e4, e5⟩ := p.rel.slot j _ ho
              rw [re] at e1; cases e1; cases e2
              have wj : Own σ' ρ' j a := ⟨re, o, ho⟩
              refine h _ H' G' pa ⟨a, hob, rfl, e3, e4, e5, fun i w => ?_⟩ fun b e => ?_
              · obtain ⟨hi, w'⟩ := take_own hnp k w
                have := p.rel.sep i j a w' wj
                omega
              · cases e
                rcases p.own j a wj with ⟨_, o', z⟩ | z
                · rw [List.getElem?_append_right (by omega), List.getElem?_replicate] at z
                  split at z <;> cases z
                · exact z
            · exact h.elim
  · exact h.elim
end
section
variable {CX : CXT} {P : Program} {w : World} {K : PySem.W.Frag} {mg : Str → Option Value} {base : Heap} {n : Nat} {a : Addr} {x qual : Str} {st : Stmt} {N par : List Str} {fd : FuncData}
/-- THE RULE of a def -/
theorem FnG.of {f : List S → Res Fl} (F : Fun K x qual st a fd) (S : FnScope N par (defScope st)) (np nl : Nat) (hnp : par.length = np) (hnl : N.length - np = nl)
    (hbody : ∀ (cd : Value) (A : Around) (up : List Env) (s0 : Shared) (H : Hp) (Ex : XK), (A.deeper (envOfC qual (defScope st) s0.heap.objs.size a cd)).guards = some [] → Room n (A.deeper (envOfC qual (defScope st) s0.heap.objs.size a cd)) →
      PSsa (cxOf CX P w K mg base N qual (defScope st) a cd A up s0 H Ex) (fun cls d _ H => Ex cls d H) (List.range np) (defBody st) f) :
    FnG P w K mg base CX (n + 1) a fd par (runF np nl f) := by
  obtain ⟨oc, od, kV, doc, pm, an, cd, ct, osl, rfl, lk, hcode⟩ := F.ex
  constructor
  intro A up s0 H given zs us Q Ex hgd hr e0 hb rv hlen hsp
  have still : K.In s0.heap := e0.mod.kin.keeps fun b o e => (e0.bs b o e).1
  have nolim : s0.heap.NoLimit := e0.mod.nolimit.keeps fun b o e => (e0.bs b o e).1
  have named : ∀ y ∈ par.zip zs, (defScope st).names.lookup y.1 = some .local ∨ ((defScope st).names.lookup y.1 = some .cell ∧ ((cellsFrom (s0.heap.objs.size + 1) (defScope st).names []).lookup y.1).isSome = true) := by
    intro y hy
    have hy' : y.1 ∈ par := (List.of_mem_zip (a := y.1) (b := y.2) hy).1
    cases S.par y.1 hy' with
    | inl z => exact Or.inl z
    | inr z => exact Or.inr ⟨z, PySem.W.cellsFrom_some _ _ _ (Or.inl z)⟩
  refine codeAny_call_function hr.depth (still _ _ lk) rfl S.co S.gen rfl (PySem.W.codeRec_of still hcode) (hb _ _ _ _ ?_)
  refine wpAny_newFunctionEnv_cells S.kind named ?_
  rintro env rfl s1 inside
  refine ⟨nolim.keeps inside.toInCall.keep, codeAny_func ?_⟩
  have first := inv_start (CX := CX) (E := Ex) S hr.hd e0 hlen rv inside
  have body := hbody cd A up s0 H Ex hgd (hr.deeper _)
  have es : start N us = us.map some ++ List.replicate nl none := by rw [start, hlen, hnp, hnl]
  rw [es] at first
  have ends : ∀ {σ' : St} {H' : Hp} {v : V} {u : Value} {s' : Shared}, Inv (cxOf CX P w K mg base N qual (defScope st) a cd A up s0 H Ex) [] σ' H' s' → RelV v u → Q v H' → CE up P w H s0 Q u s' := by
    intro σ' H' v u s' J r q
    exact ⟨v, H', J.os, J.bare, J.base, J.hok, r, q⟩
  refine wpAny_mono (body.run [] s1 _ H _ first (body_imp (fun _ _ _ _ z => z) (hlen.trans hnp) hsp)) ?_ (fun _ _ z => z)
  intro fl s' z
  match fl, z with
  | .ret u, ⟨v, σ', H', J, r, q⟩ => exact ends J r q
  | .next, ⟨σ', H', J, q⟩ => exact ends (v := .non) (u := .none) J rfl q
  | .brk, ⟨_, _, _, q⟩ => exact q.elim
  | .cont, ⟨_, _, _, q⟩ => exact q.elim
end
/-! ### calls -/
def PassW (CX : CXT) (X : Cx) (W : WX') : Prop := ∀ (pins : List (Addr × Obj)) (σ : St) (H : Hp) (s : Shared) (e : Value) (s' : Shared), Inv X pins σ H s → CX X.stack H s (fun cls d H => W cls d σ H) e s' → X.xe e s'
section
variable {X : Cx} {W : WX'} {CX : CXT} {n : Nat} {a : Addr} {x : Str} {p pos : Pos} {fd : FuncData} {par ks : List Str} {F : List S → Res E} {fs : List S → Res (List E)} {e : Expr} {es : List Expr} {kws : List Keyword}
theorem run_G {pins : List (Addr × Obj)} {σ : St} {H : Hp} {s : Shared} {Q : VK} {given : Args} {zs : List Value} {us : List V} (hF : FnG X.prog X.w X.K X.mg X.base CX n a fd par F) (hgd : X.A.guards = some []) (hr : Room n X.A) (hx : PassW CX X W)
    (I : Inv X pins σ H s) (hb : BindsTo s fd given (par.zip zs)) (rv : Vals us zs) (hl : us.length = par.length) (h : spC X.bk F us H Q (fun cls d H => W cls d σ H)) :
    codeAny (model X.prog X.w) X.A (.call (.ref a) given) (fun r s' => match r with
      | .ok (.ret u) => EP X pins σ Q u s'
      | .ok _ => False
      | .error e => X.xe e s') s := by
  refine codeAny_mono (hF.go X.A X.stack s H given zs us Q _ hgd hr I.env0 hb rv hl h) ?_
  intro r s' q
  match r, q with
  | .error e, q => exact hx pins σ H s e s' I q
  | .ok (.ret u), q => exact I.after q
theorem bind_len {B : Bk} {us : List V} {H : Hp} {Q : VK} {Ex : XK} {np nl : Nat} {f : List S → Res Fl} (h : spC B (runF np nl f) us H Q Ex) : us.length = np := by
  obtain ⟨G, ρ, r, h⟩ := h
  unfold runF at h
  split at h
  · rename_i e
    rw [← e, ← r.len, List.length_map]
  · exact h.elim
/-- what a call may ask of the mirror: as many arguments as parameters -/
def Len (F : List S → Res E) (k : Nat) : Prop := ∀ ρ, F ρ ≠ .no → ρ.length = k
theorem len_runF {np nl : Nat} {f : List S → Res Fl} : Len (runF np nl f) np := fun ρ h => by
  unfold runF at h
  split at h
  · assumption
  · exact absurd rfl h
theorem Len.of {B : Bk} {us : List V} {H : Hp} {Q : VK} {Ex : XK} {k : Nat} (L : Len F k) (h : spC B F us H Q Ex) : us.length = k := by
  obtain ⟨G, ρ, r, h⟩ := h
  rw [← L ρ (fun z => by rw [z] at h; exact h), ← r.len, List.length_map]
theorem a_fn (hF : FnG X.prog X.w X.K X.mg X.base CX n a fd par F) (hL : Len F par.length) (hgd : X.A.guards = some []) (hr : Room n X.A) (hx : PassW CX X W) (hm : X.mg x = some (.ref a)) (hk : PySem.W.keepIn X.K (.ref a) = true) (hb : Binds X.K fd par [])
    (ha : PAa X W (e :: es) fs) (hg : Gl X x := by rfl) (hdb : (x == ("__debug__" : Str)) = false := by decide) (he : starEach (e :: es) X.env = (false, eval e X.env) :: starEach es X.env := by rfl) (hpl : (backTo pos (starEach es X.env)).any (·.1) = false := by rfl) :
    PEa X W (.Call (.Name x p) (e :: es) [] pos) (aFn F fs) := by
  constructor
  intro pins s σ H Q I h
  obtain ⟨G, ρ, rl, h⟩ := h
  have args := liftA_first rl (Aft.cl (W := W) (Q := Q)) h
  refine wpAny_Call_Name_kw (ld_glob I hg hm ?_ hdb)
  refine PySem.W.callWith_K (h₀ := X.base) I.ok.mod.kin hk (thn (ha.run pos pins s σ H _ I args) ?_) he hpl
  rintro zs s1 ⟨us, H1, I1, rv, vs, ρ1, G1, P, h1⟩
  have sp := app_imp P h1
  have hl := hL.of sp
  have hb' := hb s1 zs I1.kIn (by rw [List.append_nil, ← rv.length]; exact hl)
  rw [List.append_nil] at hb'
  refine ⟨I1.kIn, wpAny_call (codeAny_mono (run_G hF hgd hr hx I1 hb' rv hl sp) ?_)⟩
  intro r s' q
  match r, q with
  | .error e, q => exact q
  | .ok (.ret u), q => exact q
theorem a_fn0 (hF : FnG X.prog X.w X.K X.mg X.base CX n a fd par F) (hL : Len F par.length) (hgd : X.A.guards = some []) (hr : Room n X.A) (hx : PassW CX X W) (hm : X.mg x = some (.ref a)) (hk : PySem.W.keepIn X.K (.ref a) = true) (hb : Binds X.K fd par [])
    (hg : Gl X x := by rfl) (hdb : (x == ("__debug__" : Str)) = false := by decide) : PEa X W (.Call (.Name x p) [] [] pos) (aFn F aNil) := by
  constructor
  intro pins s σ H Q I h
  obtain ⟨G, ρ, rl, h⟩ := h
  have P : Pend X.bk σ ρ H G ρ H G [] [] := Pend.nil rl
  have sp := app_imp (W := W) P h
  have hl := hL.of sp
  have hb' := hb s [] I.kIn (by rw [List.append_nil]; exact hl)
  refine wpAny_Call_Name_kw (ld_glob I hg hm ?_ hdb)
  refine PySem.W.callWith_K0 I.kIn hk (wpAny_call (codeAny_mono (run_G hF hgd hr hx I hb' .nil hl sp) ?_))
  intro r s' q
  match r, q with
  | .error e, q => exact q
  | .ok (.ret u), q => exact q
/-- keywords alone, in the parameters' order -/
def aKw (fs : List S → Res (List E)) := fs
abbrev PKa (X : Cx) (W : WX') (kws : List Keyword) (f : List S → Res (List E)) : Prop := PK X kws (liftA X.bk W f)
theorem pk_imp {t t' : TA} (h : PK X kws t) (w : ∀ σ H Q, t' σ H Q → t σ H Q) : PK X kws t' := ⟨fun pos pins s σ H Q I q => h.run pos pins s σ H Q I (w σ H Q q)⟩
theorem k_nil : PKa X W [] aNil := pk_imp pk_nil fun σ H Q ⟨G, ρ, r, h⟩ => h [] H G (Pend.nil r)
theorem k_cons {nm : Option Str} {kpos : Pos} {fe : List S → Res E} (ha : PEa X W e fe) (hr : PKa X W kws fs) : PKa X W (⟨nm, e, kpos⟩ :: kws) (aCons fe fs) :=
  pk_imp (pk_cons ha hr) fun σ H Q ⟨G, ρ, r, h⟩ => by
    refine lift_mono (lift_first r (AftA.cl (Q := Q)) h) fun u H1 ⟨v, ρ1, G1, P1, h1⟩ => ?_
    refine liftA_mono (liftA_next P1 (AftA.cl (Q := Q)) h1) fun us H2 ⟨vs, ρ2, G2, P2, h2⟩ => ?_
    exact h2 _ _ _ P2
/-- how keywords alone bind -/
def KwB (K : PySem.W.Frag) (fd : FuncData) (par ks : List Str) : Prop := ∀ (s : Shared) (zs : List Value), K.In s.heap → zs.length = par.length → BindsTo s fd ⟨[], ks.zip zs⟩ (par.zip zs)
theorem a_fnK (hF : FnG X.prog X.w X.K X.mg X.base CX n a fd par F) (hL : Len F par.length) (hgd : X.A.guards = some []) (hr : Room n X.A) (hx : PassW CX X W) (hm : X.mg x = some (.ref a)) (hk : PySem.W.keepIn X.K (.ref a) = true) (hb : KwB X.K fd par ks)
    (ha : PKa X W kws fs) (hall : (backToKw pos (keywordEach kws X.env)).all (·.1.isSome) = true := by rfl) (hks : (backToKw pos (keywordEach kws X.env)).filterMap (·.1) = ks := by rfl)
    (hg : Gl X x := by rfl) (hdb : (x == ("__debug__" : Str)) = false := by decide) (hpl : ((backTo pos (starEach [] X.env)).any (·.1) || (backToKw pos (keywordEach kws X.env)).any (·.1.isNone)) = false := by rfl) :
    PEa X W (.Call (.Name x p) [] kws pos) (aFn F fs) := by
  constructor
  intro pins s σ H Q I h
  obtain ⟨G, ρ, rl, h⟩ := h
  have args := liftA_first rl (Aft.cl (W := W) (Q := Q)) h
  refine wpAny_Call_Name_kw (ld_glob I hg hm ?_ hdb)
  refine PySem.W.callWith_KW0 (h₀ := X.base) I.ok.mod.kin hk hall (thn (ha.run pos pins s σ H _ I args) ?_) hpl
  rintro zs s1 ⟨us, H1, I1, rv, vs, ρ1, G1, P, h1⟩
  have sp := app_imp P h1
  have hl := hL.of sp
  have hb' := hb s1 zs I1.kIn (by rw [← rv.length]; exact hl)
  rw [hks]
  refine ⟨I1.kIn, wpAny_call (codeAny_mono (run_G hF hgd hr hx I1 hb' rv hl sp) ?_)⟩
  intro r s' q
  match r, q with
  | .error e, q => exact q
  | .ok (.ret u), q => exact q
/-- f(args), f a name of the def that holds a def of the module -/
def aFnV (i : Nat) (tbl : Str → Option (List S → Res E)) (fs : List S → Res (List E)) : List S → Res E := fun ρ => match ρ[i]? with
  | some (.d (.fn y)) => match tbl y with
    | some F => aFn F fs ρ
    | none => .no
  | _ => .no
theorem a_fnV {i : Nat} {tbl : Str → Option (List S → Res E)} (hT : ∀ y F, tbl y = some F → ∃ (a : Addr) (fd : FuncData) (par : List Str), X.mg y = some (.ref a) ∧ PySem.W.keepIn X.K (.ref a) = true ∧ FnG X.prog X.w X.K X.mg X.base CX n a fd par F ∧ Len F par.length ∧ Binds X.K fd par [])
    (hgd : X.A.guards = some []) (hr : Room n X.A) (hx : PassW CX X W) (hN : X.N[i]? = some x) (ha : PAa X W (e :: es) fs) (hv : Vis X.env.scope x := by first | exact Or.inl rfl | exact Or.inr (Or.inl rfl) | exact Or.inr (Or.inr rfl))
    (hd : (x == ("__debug__" : Str)) = false := by decide) (hcd : (x == ("__classdict__" : Str)) = false := by decide) (he : starEach (e :: es) X.env = (false, eval e X.env) :: starEach es X.env := by rfl) (hpl : (backTo pos (starEach es X.env)).any (·.1) = false := by rfl) :
    PEa X W (.Call (.Name x p) (e :: es) [] pos) (aFnV i tbl fs) := by
  constructor
  intro pins s σ H Q I h
  obtain ⟨G, ρ, rl, h⟩ := h
  unfold aFnV at h
  split at h
  · rename_i y hy
    split at h
    · rename_i F hF0
      obtain ⟨a, fd, par, hm, hk, hF, hL, hb⟩ := hT y F hF0
      obtain ⟨v, e1, u, e2, e3⟩ := rl.slot i _ hy
      subst e2
      rw [Fz] at e3
      obtain ⟨b, rfl, e4⟩ := e3
      have e4 : X.mg y = some (.ref b) := e4
      rw [hm] at e4; cases e4
      have args := liftA_first rl (Aft.cl (W := W) (Q := Q)) h
      refine wpAny_Call_Name_kw (thn ((pe_var (pos := p) (i := i) hN hv hd hcd).run pins s σ H (fun v H1 => v = .ref a ∧ H1 = H) I ⟨.ref a, e1, rfl, rfl⟩) ?_)
      rintro z s0 ⟨v, H1, I0, r0, rfl, rfl⟩
      cases r0
      refine PySem.W.callWith_K (h₀ := X.base) I.ok.mod.kin hk (thn (ha.run pos pins s0 σ _ _ I0 args) ?_) he hpl
      rintro zs s1 ⟨us, H2, I1, rv, vs, ρ1, G1, P, h1⟩
      have sp := app_imp P h1
      have hl := hL.of sp
      have hb' := hb s1 zs I1.kIn (by rw [List.append_nil, ← rv.length]; exact hl)
      rw [List.append_nil] at hb'
      refine ⟨I1.kIn, wpAny_call (codeAny_mono (run_G hF hgd hr hx I1 hb' rv hl sp) ?_)⟩
      intro r s' q
      match r, q with
      | .error e, q => exact q
      | .ok (.ret u), q => exact q
    · exact h.elim
  · exact h.elim
end
end L2.AL
/-! A14: from the mirror of law to the law. -/
namespace L2.AL
open PySem PySem.Spec PyProof.Rows
/-- what is tracked at the entry: the script, where it is none of the module's own objects -/
def scH (K : PySem.W.Frag) (a : Addr) (zs : List Value) (ns : List Int) : Hp := fun b =>
  if b = a ∧ (K.lookup a).isNone = true then some (.frz { cls := .type "list", data := .seq zs.toArray } (.lst (ns.map V.int))) else none
section
variable {K : PySem.W.Frag} {a : Addr} {zs : List Value} {ns : List Int}
theorem scH_some {b : Addr} {o : HO} (h : scH K a zs ns b = some o) : b = a ∧ K.lookup a = none ∧ o = .frz { cls := .type "list", data := .seq zs.toArray } (.lst (ns.map V.int)) := by
  unfold scH at h
  split at h
  · rename_i c
    cases h
    exact ⟨c.1, Option.isNone_iff_eq_none.mp c.2, rfl⟩
  · cases h
theorem law_G {P : Program} {w : World} {mg mb : Str → Option Value} {n k : Nat} {fa : Addr} {fd : FuncData} {x : Str} {F : List S → Res E} {s : Shared}
    (inK : K.In s.heap) (names : s.heap.Ns mainGlobals mg) (bnames : s.heap.Ns builtinsNs mb) (bis : ∀ x : Str, x ≠ "__name__" → mb x = bootBuiltins x) (nolim : s.heap.NoLimit) (nogen : s.gens = #[])
    (ha : s.heap.get? a = some { cls := .type "list", data := .seq zs.toArray }) (whole : IntsAre zs ns) (few : ns.length ≤ sizeLine) (hr : Room k callerA)
    (hF : ∀ base : Heap, K.In base → base.Ns mainGlobals mg → FnG P w K mg base CX0 k fa fd [x] F) (hb : ∀ (s : Shared) (u : Value), BindsTo s fd ⟨[u], []⟩ [(x, u)])
    (math : ∃ ρ', F [.d (.scr ns)] = .ok (.d (.bl true)) ρ') :
    codeAny (model P w) callerA (.call (.ref fa) ⟨[.ref a], []⟩) (fun r s' => r = .ok (.ret (.bool true)) ∧ OldK s.heap s'.heap ∧ s'.os = s.os ∧ AllBare s'.gens) s := by
  have zv := vals_ints whole
  have zl := whole.length
  obtain ⟨H, hH⟩ : ∃ H, H = scH K a zs ns := ⟨_, rfl⟩
  have at_a : ∀ {b : Addr} {o : HO}, H b = some o → b = a ∧ K.lookup a = none ∧ o = .frz { cls := .type "list", data := .seq zs.toArray } (.lst (ns.map V.int)) := fun e => scH_some (by rw [← hH]; exact e)
  have free : ∀ {b : Addr}, (b ≠ a ∨ K.lookup a ≠ none) → H b = none := fun {b} h => by
    cases e : H b with
    | none => rfl
    | some o =>
      obtain ⟨h1, h2, _⟩ := at_a e
      rcases h with h | h
      · exact absurd h1 h
      · exact absurd h2 h
  have seq : SqL K H a (ns.map V.int) := by
    cases e : K.lookup a with
    | some o =>
      have q := inK a o e
      rw [ha] at q
      cases q
      exact .inr ⟨_, zs.toArray, _, e, rfl, rfl, rfl, by rw [List.size_toArray, zl]; exact few, by simpa using zv⟩
    | none => exact .inl (.inr ⟨{ cls := .type "list", data := .seq zs.toArray }, by rw [hH]; unfold scH; rw [if_pos ⟨rfl, by rw [e]; rfl⟩]⟩)
  have ok : HOk P w H s.heap := fun b o e => by
    obtain ⟨rfl, _, rfl⟩ := at_a e
    exact ⟨ha, by rw [List.length_map]; exact few, zs, _, zv, ha⟩
  have spaces : ∀ {b : Addr} {m : Str → Option Value}, s.heap.Ns b m → (hidT s.heap H).Ns b m := by
    rintro b m ⟨o, es, ep, e, d, rest⟩
    refine ⟨o, es, ep, hidT_get e ?_, d, rest⟩
    cases q : H b with
    | none => rfl
    | some u =>
      obtain ⟨rfl, _⟩ := at_a q
      rw [ha] at e
      cases e
      have d : Data.seq zs.toArray _ = Data.dict es ep := d
      cases d
  have still : K.In (hidT s.heap H) := by
    intro b o e
    refine hidT_get (inK b o e) (free ?_)
    by_cases hb : b = a
    · subst hb; exact .inr (by rw [e]; simp)
    · exact .inl hb
  have modul : Mod K mg (hidT s.heap H) := by
    obtain ⟨mc, n1, n2⟩ := nolim
    exact ⟨still, spaces names, ⟨mb, spaces bnames, bis⟩, mc, spaces n1, n2⟩
  have enter : Env0 P w K mg (hidT s.heap H) callerA [] s H := by
    refine ⟨rfl, modul, fun b o e => of_hidT e, Nat.le_of_eq (hidT_size _ _), trivial, ?_, ok, .of_eq nogen⟩
    intro b z
    exact absurd (show b ∈ ([] : List Addr) from z) (by simp)
  have asked : spC ⟨K, mg, w⟩ F [.ref a] H (fun v _ => v = .bl true) (fun _ _ _ => False) := by
    obtain ⟨ρ', e⟩ := math
    refine ⟨H, [.d (.scr ns)], ⟨fun _ _ h => h, rfl, ?_, ?_⟩, ?_⟩
    · intro i t e
      match i, e with
      | 0, e =>
        cases e
        refine ⟨_, rfl, .ref a, rfl, ?_⟩
        rw [Fz]
        exact ⟨a, rfl, seq⟩
    · rintro i j b ⟨_, o, z⟩ _
      match i, z with
      | 0, z => cases z
    · rw [e]
      intro u H' G' _ re _
      have re : Fz ⟨K, mg, w⟩ G' u (.bl true) := re
      rw [Fz] at re
      exact re
  refine codeAny_mono ((hF _ still (spaces names)).go callerA [] s H ⟨[.ref a], []⟩ [.ref a] [.ref a] _ _ rfl hr enter (hb s (.ref a)) (.cons rfl .nil) rfl asked) ?_
  intro r s' q
  match r, q with
  | .ok (.ret u), ⟨v, H', os, bare, un, ok', rv, ev⟩ =>
    have ev : v = .bl true := ev
    subst ev
    have rv : u = Value.bool true := rv
    subst rv
    refine ⟨rfl, OldK.of_keep ?_, os, bare⟩
    intro b o e
    cases q : H b with
    | none => exact un.keep b o e q (fun z => absurd (show b ∈ ([] : List Addr) from z) (by simp)) (by simp)
    | some u =>
      obtain ⟨rfl, _, rfl⟩ := at_a q
      rw [ha] at e
      cases e
      exact (ok' b _ (un.frzs b _ _ q)).1
end
/-- the goal behind the head, from the mirror -/
theorem walk_G {l : PySem.W.OpenLaw} {n k : Nat} {q : Program} {loose : List Str} {XP : (Str → Option Value) → Heap → Prop} {YP : World → Heap → Prop} {d : DefRec} {K : Params → PySem.W.Frag} {x : Str} {F : List S → Res E}
    (most : l.most = some n) (small : n ≤ sizeLine) (nodef : d.params.defaults = []) (room : Room k callerA) (inK : ∀ (w : World) (h : Heap), YP w h → (K w.params).In h)
    (walks : ∀ (w : World) (mg : Str → Option Value) (fa : Addr) (h : Heap), (K w.params).In h → h.Ns mainGlobals mg → mg d.name = some (.ref fa) →
      ∃ fd : FuncData, (∀ (s : Shared) (u : Value), BindsTo s fd ⟨[u], []⟩ [(x, u)]) ∧ ∀ base : Heap, (K w.params).In base → base.Ns mainGlobals mg → FnG l.prog w (K w.params) mg base CX0 k fa fd [x] F)
    (math : ∀ ns : List Int, ns.length ≤ n → ∃ ρ', F [.d (.scr ns)] = .ok (.d (.bl true)) ρ') : PySem.W.WalkO q loose XP YP l.row.toRowW d [] (fun f vs => PySem.call f vs) := by
  apply Att.attach_call most nodef
  intro w s₀ s mg mb fa o pm cd doc a zs ns G Y ho hd hcd hmg ha whole few nogen
  obtain ⟨fd, hb, hF⟩ := walks w mg fa _ (inK w _ Y) G.T.g hmg
  exact law_G (n := n) (inK w _ Y) G.T.g G.T.b G.T.builtins G.T.nolimit nogen ha whole (Nat.le_trans few small) room hF hb (math ns few)
end L2.AL
/-! AE: enumerate(a tuple). -/
namespace L2.AL
open PySem PySem.Spec PyProof.Rows
open Sem (wp)
/-- enumerate(v): its two new cells, whatever v's iterator is -/
theorem enum_new {v : Value} {o : Obj} {H : Heap → Prop} (B : Begins v o H) :
    Meets (Builtin.«enumerate.__new__» ⟨[.type "enumerate", v], []⟩) (fun _ R s => H s.heap ∧
      R (.ok (.ret (.ref (s.heap.push o).objs.size))) { s with heap := (s.heap.push o).push { cls := .type "enumerate", data := .fields #[.none, .bool false, .ref s.heap.objs.size, rawInt 0, .none, .none] } }) := by
  refine .of_wp fun prog w A R s h => ?_
  obtain ⟨hp, gs, dr, tk, os⟩ := s
  obtain ⟨h1, h⟩ := h
  have hsub := sub_enumerate
  have it : ∀ {A' : Around} {E : Value → Shared → Prop} {Q : Value → Shared → Prop}, Q (.ref hp.objs.size) ⟨hp.push o, gs, dr, tk, os⟩ → wpAny (model prog w) A' (pyIter v) Q E ⟨hp, gs, dr, tk, os⟩ := by
    intro A' E Q q
    exact B.iter prog w _ _ ⟨hp, gs, dr, tk, os⟩ _ h1 q
  wp_walk using it
  refine wpAny_stack_any fun st => wpAny_pure ?_
  split
  · rename_i c _ _ _ _ _
    cases (c == Value.type "enumerate") <;> (wp_walk using it; exact ⟨_, rfl, h⟩)
  · wp_walk using it
    exact ⟨_, rfl, h⟩
theorem call_enum {prog : Program} {w : World} {A : Around} {E : Value → Shared → Prop} {s : Shared} {v : Value} {o : Obj} {H : Heap → Prop} {Q : Value → Shared → Prop} (B : Begins v o H) (h1 : H s.heap)
    (h : ∀ h', IsEnum h' (s.heap.objs.size + 1) s.heap.objs.size 0 .none → h'.get? s.heap.objs.size = some o → (∀ b u, s.heap.get? b = some u → h'.get? b = some u) → Q (.ref (s.heap.objs.size + 1)) { s with heap := h' }) :
    wpAny (model prog w) A (call (.type "enumerate") [v]) Q E s := by
  refine callType_new F.called_enumerate (by decide) (F.typeCall_enumerate_1 _) (F.newCall_enumerate_1 _) (fun obj => F.args_object_init_2 obj _) F.entry_enumerate_new (enum_new B) ⟨h1, ?_⟩
  have size1 : (s.heap.push o).objs.size = s.heap.objs.size + 1 := Heap.size_push ..
  show _ ∧ _
  rw [size1]
  have made : IsEnum ((s.heap.push o).push { cls := .type "enumerate", data := .fields #[.none, .bool false, .ref s.heap.objs.size, rawInt 0, .none, .none] }) (s.heap.objs.size + 1) s.heap.objs.size 0 .none := by
    have q := Heap.get?_push_size (s.heap.push o) (o := { cls := .type "enumerate", data := .fields #[.none, .bool false, .ref s.heap.objs.size, rawInt 0, .none, .none] }) rfl
    rw [size1] at q
    exact q
  exact ⟨⟨_, made, rfl⟩, h _ made (Heap.get?_push_of_some _ (Heap.get?_push_size _ B.free)) fun b u q => Heap.get?_push_of_some _ (Heap.get?_push_of_some _ q)⟩
/-- the tuple at a, each item in a new pair -/
def IteT (K : PySem.W.Frag) (a : Addr) : It where
  go := fun i H => ∃ (xs : List V) (x : V), SqT K H a xs ∧ xs[i]? = some x
  yld := fun i H v H' => ∃ T x, v = .ref T ∧ H T = none ∧ H' = upd H T (.tup [.int (i : Nat), x]) ∧ ∀ xs, SqT K H a xs → xs[i]? = some x
  stop := fun i H => ∃ xs : List V, SqT K H a xs ∧ xs.length = i
theorem turn_enumT {P : Program} {w : World} {K : PySem.W.Frag} {elts : List Expr} {kk : Nat} {tpos : Pos} (a e it : Addr) (hne : e ≠ it) (hea : a ≠ e) (hia : a ≠ it) :
    Turn P w K (.Tuple elts kk tpos) (IteT K a) [e, it] e (fun i h => (∃ old, IsEnum h e it ((i : Nat) : Int) old) ∧ h.IsTupleIter it a i) where
  mem := by simp
  obj := by
    rintro i h ⟨⟨old, he⟩, ⟨o, ho, hc, hd⟩⟩ b hb
    have e' : b = e ∨ b = it := by simpa using hb
    rcases e' with rfl | rfl
    · exact ⟨_, he, fun v q => nomatch q⟩
    · exact ⟨o, ho, fun v q => by rw [hd] at q; cases q⟩
  keep := by
    rintro i h h' ⟨⟨old, he⟩, hi⟩ k
    exact ⟨⟨old, k e (by simp) _ he⟩, hi.at fun o q => k it (by simp) o q⟩
  item := by
    intro X hP hw hK hc i pins s σ H E I hf st hg
    subst hP hw hK
    obtain ⟨⟨old, he⟩, hit⟩ := st
    obtain ⟨xs, x, hq, hx⟩ := hg
    obtain ⟨its, rv, p, hz⟩ := I.tuple hq
    have hlen := rv.length
    have hlt : i < its.toArray.size := by
      have := (List.getElem?_eq_some_iff.mp hx).1
      rw [List.size_toArray]; omega
    have size_e : e < s.heap.objs.size := Heap.lt_size he
    have size_it : it < s.heap.objs.size := by
      obtain ⟨_, q, _⟩ := hit
      exact Heap.lt_size q
    have D := Draws.tuple (prog := X.prog) (w := X.w) (A := X.A.in1) (show X.A.in1.handled = none from I.ok.hd hc) it a hia its.toArray
    refine wpAny_pyNext_enum_itemD D he ⟨hit, show s.heap.IsTuple a its.toArray from p⟩ hlt hne (by simp [hne, Ne.symm hea]) ?_
    intro u h1 tk hu out st1 hT hsz hk
    obtain ⟨x', hx', ru⟩ : ∃ x', xs[i]? = some x' ∧ RelV x' u := by
      obtain ⟨u', hu', ru⟩ := rv.get hx
      have hu : its.toArray[i]? = some u := hu
      rw [List.getElem?_toArray, hu'] at hu
      cases hu
      exact ⟨x, hx, ru⟩
    rw [hx] at hx'
    cases hx'
    refine ⟨_, rfl, wpAny_letOwnedTupleGo_enum (s := { s with heap := h1, toks := tk + 1 }) out fun h2 he2 sb => ?_⟩
    have hT2 : h2.get? s.heap.objs.size = some { cls := .type "tuple", data := .seq #[.int i tk, u] } := (sb.2 _ (Nat.ne_of_gt size_e)).trans hT
    have pair : ObjOk X.prog X.w (upd H s.heap.objs.size (.tup [.int (i : Nat), x])) h2 s.heap.objs.size (.tup [.int (i : Nat), x]) :=
      ⟨by show 2 ≤ sizeLine; decide, [.int i tk, u], .cons ⟨_, rfl⟩ (.cons ru .nil), ⟨_, hT2, rfl, _, rfl⟩⟩
    have J : Inv X pins σ (upd H s.heap.objs.size (.tup [.int (i : Nat), x])) { s with heap := h2, toks := tk + 1 } := by
      refine I.turnedNew (ch := [e, it]) (fun b ob hb q => ?_) hf (Nat.le_refl _) pair
      exact (sb.2 b (fun z => hb (by simp [z]))).trans (hk b ob (fun z => hb (by simp [z])) (fun z => hb (by simp [z])) q)
    refine ⟨.ref s.heap.objs.size, _, J, rfl, ⟨_, x, rfl, I.hok.fresh (Nat.le_refl _), rfl, fun ys hy => by rw [I.tuple_inj hy hq]; exact hx⟩, ⟨⟨u, ?_⟩, st1.1.at fun o q => (sb.2 it (Ne.symm hne)).trans q⟩, fun b hb => ?_⟩
    · have e1 : ((i + 1 : Nat) : Int) = (i : Int) + 1 := by omega
      rw [e1]
      exact he2
    · have small : b < s.heap.objs.size := by
        have e' : b = e ∨ b = it := by simpa using hb
        rcases e' with rfl | rfl
        · exact size_e
        · exact size_it
      rw [upd_ne (Nat.ne_of_lt small)]
      exact (hf b hb).1
  done := by
    intro X hP hw hK hc i pins s σ H E I hf st hg
    subst hP hw hK
    obtain ⟨⟨old, he⟩, hit⟩ := st
    obtain ⟨xs, hq, hx⟩ := hg
    obtain ⟨its, rv, p, hz⟩ := I.tuple hq
    obtain ⟨f0, f1, f2, f3, f4, f5⟩ := hf it (by simp)
    have hlen := rv.length
    have D := Draws.tuple (prog := X.prog) (w := X.w) (A := X.A.in1) (show X.A.in1.handled = none from I.ok.hd hc) it a hia its.toArray
    have hi : its.toArray.size = i := by rw [List.size_toArray]; omega
    exact wpAny_pyNext_enum_endD D he (by rw [hi]; exact ⟨hit, show s.heap.IsTuple a its.toArray from p⟩) fun h' eb => ⟨rfl, I.turned (t' := s.toks) (fun b o hb q => eb b o hb q) f0 f1 f3 f4 f5⟩
  self := by
    rintro A i s Q E ⟨⟨_, he⟩, _⟩ h
    exact wpAny_pyIter_enum he h
def iEnumT (K : PySem.W.Frag) (ta : TA) : TI := fun σ H R => ta σ H fun vs H1 => ∃ a xs, vs = [.ref a] ∧ SqT K H1 a xs ∧ R (IteT K a) H1
theorem pi_enumT {X : Cx} {e : Expr} {ta : TA} {p pos tpos : Pos} {elts : List Expr} {kk : Nat} (hg : Gl X "enumerate") (hm : X.mg "enumerate" = none) (ha : PA X [e] ta) (hs : starEach [e] X.env = [(false, eval e X.env)] := by rfl) :
    PI X (.Tuple elts kk tpos) (.Call (.Name "enumerate" p) [e] [] pos) (iEnumT X.K ta) := by
  constructor
  intro pins s σ H R I h
  refine Call_ (ld_blt I hg hm boot_enumerate (PyProof.Rows.callWith_type1 (thn (ha.run pos pins s σ H _ I h) ?_) hs rfl))
  rintro us s1 ⟨vs, H1, I1, r1, a, xs, rfl, hq, q⟩
  cases r1 with
  | cons r rr =>
    cases rr
    cases r
    obtain ⟨its, rv, p', hz⟩ := I1.tuple hq
    have tup : s1.heap.IsTuple a its.toArray := p'
    have size_a : a < s1.heap.objs.size := by
      obtain ⟨o, q, _⟩ := tup
      exact Heap.lt_size q
    refine call_enum (begins_tuple a its.toArray) tup fun h' he ho hk => wpAny_pyIter_enum he ?_
    have J : Inv X pins σ H1 { s1 with heap := h' } := I1.kept (t' := s1.toks) hk
    refine ⟨s1.heap.objs.size + 1, [s1.heap.objs.size + 1, s1.heap.objs.size], _, _, H1, rfl, J, turn_enumT a (s1.heap.objs.size + 1) s1.heap.objs.size (Nat.succ_ne_self _) (Nat.ne_of_lt (Nat.lt_succ_of_lt size_a)) (Nat.ne_of_lt size_a), ⟨⟨.none, he⟩, ⟨_, ho, rfl, rfl⟩⟩, fun b hb => ?_, q⟩
    have e' : b = s1.heap.objs.size + 1 ∨ b = s1.heap.objs.size := by simpa using hb
    have old : s1.heap.objs.size ≤ b := by
      rcases e' with z | z
      · rw [z]; exact Nat.le_add_right _ _
      · rw [z]; exact Nat.le_refl _
    exact I1.fpOk old (I1.hok.fresh old)
section
variable {B : Bk} {G : Hp}
theorem walks_enumT {a : Addr} {us : List V} {xs : List D} (h : SqT B.K G a us) (f : FzL B G us xs) : WalksD B (IteT B.K a) G (enumD xs) := by
  have hl := f.length
  have hl' : (enumD xs).length = xs.length := by unfold enumD; simp
  refine ⟨fun i H G' hi s1 s2 => ?_, fun H G' s1 s2 => ?_, fun i H G' v H' hi s1 s2 y => ?_⟩
  · have hi' : i < us.length := by omega
    exact ⟨us, us[i], Same.sqt s2 (Same.sqt s1 h), by simp [hi']⟩
  · exact ⟨us, Same.sqt s2 (Same.sqt s1 h), by omega⟩
  · obtain ⟨T, q, rfl, hT, rfl, e2⟩ := y
    obtain ⟨x, e3, f1⟩ := f.get' (e2 us (Same.sqt s2 (Same.sqt s1 h)))
    exact ⟨.tup [.int i, x], _, by unfold enumD; rw [List.getElem?_mapIdx, e3]; rfl, .tup s2 hT (.cons (fz_int _) (.one (Fz.mono s1 _ _ f1)))⟩
end
def aEnumA (fs : List S → Res (List E)) : List S → Res (List D) := fun ρ => (fs ρ).bind fun vs ρ1 => match vs with
  | [v] => match keep1 v ρ1 with
    | some (.lst xs, ρ2) => .ok (enumD xs) ρ2
    | some (.tup xs, ρ2) => .ok (enumD xs) ρ2
    | _ => .no
  | _ => .no
theorem i_enumA {X : Cx} {W : WX'} {fs : List S → Res (List E)} {p pos : Pos} {a : Expr} {elts : List Expr} {kk : Nat} {tpos : Pos} (hg : Gl X "enumerate") (hm : X.mg "enumerate" = none) (ha : PAa X W [a] fs) (hs : starEach [a] X.env = [(false, eval a X.env)] := by rfl) : PIa X W (.Tuple elts kk tpos) (.Call (.Name "enumerate" p) [a] [] pos) (aEnumA fs) :=
  pi_imp (pi_or (pi_enum hg hm ha hs) (pi_enumT hg hm ha hs)) fun σ H R ⟨G, ρ, r, h⟩ => by
    unfold aEnumA at h
    cases ef : fs ρ with
    | no => rw [ef] at h; exact h.elim
    | ex x ρ' => rw [ef] at h; exact .inl ⟨G, ρ, r, by rw [ef]; exact h⟩
    | ok vs ρ1 =>
      rw [ef, Res.bind_ok] at h
      split at h
      · rename_i v
        split at h
        · rename_i xs ρ2 hk
          refine .inl ⟨G, ρ, r, ?_⟩
          rw [ef]
          intro us H' G' P
          have hl := P.len
          match us, hl, P with
          | [w], _, P =>
            obtain ⟨G2, p2, f2, _⟩ := P.keep1 hk
            rw [Fz] at f2
            obtain ⟨a, us, rfl, q1, q2⟩ := f2
            exact ⟨a, us, rfl, SqL.of (p2.post.rel.sub _ _ q1), h _ _ _ p2.post (walks_enum q1 q2)⟩
        · rename_i xs ρ2 hk
          refine .inr ⟨G, ρ, r, ?_⟩
          rw [ef]
          intro us H' G' P
          have hl := P.len
          match us, hl, P with
          | [w], _, P =>
            obtain ⟨G2, p2, f2, _⟩ := P.keep1 hk
            rw [Fz] at f2
            obtain ⟨a, us, rfl, q1, q2⟩ := f2
            exact ⟨a, us, rfl, Same.sqt p2.post.rel.sub q1, h _ _ _ p2.post (walks_enumT q1 q2)⟩
        · exact h.elim
      · exact h.elim
end L2.AL
/-! AB: list.count of flat items, len(set(ints)), dict displays. -/
namespace L2.AL
open PySem PySem.Spec PyProof.Rows
/-! ### list.count -/
def rCntF (K : PySem.W.Frag) : V → List V → Hp → VK → Prop := fun x xs H Q => ∃ (p : Addr) (ys : List V) (y : V), x = .ref p ∧ xs = [y] ∧ SqL K H p ys ∧ flatV y = true ∧ ys.all flatV = true ∧ Q (.int (ys.countP fun z => eqV z y : Nat)) H
theorem count_eqU {x : V} : ∀ {xs : List V} {us : List Value}, Vals xs us → xs.all flatV = true → us.countP (eqU x) = xs.countP fun y => eqV y x
  | _, _, .nil, _ => rfl
  | y :: xs, u :: us, .cons r t, f => by
    rw [List.all_cons, Bool.and_eq_true] at f
    rw [List.countP_cons, List.countP_cons, eqU_of r f.1, count_eqU t f.2]
theorem mt_countF {X : Cx} : MtR X "list.count" (rCntF X.K) := by
  intro pins s σ H x xs v us Q I rx rxs h
  obtain ⟨p, ys, y, rfl, rfl, hs, fy, fys, q⟩ := h
  cases rx
  obtain ⟨u, rfl, ru⟩ := rxs.one
  obtain ⟨its, rv, ⟨⟨cls, dd, data, sl⟩, n, ho, hc, hdn, hd⟩, hlen⟩ := I.list hs
  simp only at hc hd
  subst hc hd
  refine call_meets PySem.F.slot_list_count ⟨_, ho, rfl⟩ PySem.F.entry_list_count (PySem.F.args_list_count_2 _ _)
    (SeqAt.list_countAt p its.toArray n dd sl u (eqU y)) ⟨ho, fun w hw => mem_eqAt ru fy rv fys w (by simpa using hw), ?_⟩
  have e : its.toArray.toList.countP (eqU y) = ys.countP fun z => eqV z y := count_eqU rv fys
  refine ⟨.int (ys.countP fun z => eqV z y : Nat), H, I.tok _, ⟨s.toks, ?_⟩, q⟩
  show Value.int ((its.toArray.toList.countP (eqU y) : Nat) : Int) s.toks = _
  rw [e]
def gCount : D → List D → Option E
  | .lst xs, [x] => if x.flat = true ∧ xs.all D.flat = true then some (eInt (xs.countP fun y => y.eqf x : Nat)) else none
  | _, _ => none
theorem countF_v {B : Bk} {G : Hp} {x : D} {v : V} (h : Fz B G v x) (f : x.flat = true) : ∀ {ds : List D} {us : List V}, FzL B G us ds → ds.all D.flat = true → (us.countP fun z => eqV z v) = ds.countP fun y => y.eqf x
  | [], [], _, _ => rfl
  | [], _ :: _, h, _ => by rw [FzL] at h; exact h.elim
  | _ :: _, [], h, _ => by rw [FzL] at h; exact h.elim
  | d :: ds, u :: us, h1, f1 => by
    rw [FzL] at h1
    rw [List.all_cons, Bool.and_eq_true] at f1
    rw [List.countP_cons, List.countP_cons, eqf_v h1.1 h f1.1 f, countF_v h f h1.2 f1.2]
theorem tz_flat {B : Bk} {G H : Hp} {u : V} {x : D} (h : Tz B G H u x) (f : x.flat = true) : Fz B G u x := by
  cases x <;> first | exact h | cases f
theorem count_snd {B : Bk} : SndM B gCount (rCntF B.K) := by
  intro x xs v a as G H Q e s hx hxs q
  unfold gCount at e
  split at e
  · split at e
    · rename_i c
      cases e
      obtain ⟨p, us, rfl, h1, h2⟩ := hx
      obtain ⟨u, rfl, h⟩ := tzl1 hxs
      have hf := tz_flat h c.1
      refine ⟨p, us, u, rfl, rfl, SqL.of h1, flat_v hf c.1, flats_v h2 c.2, ?_⟩
      rw [countF_v hf c.1 h2 c.2]
      exact q _ _ _ (.scalar s (fz_int _))
    · cases e
  · cases e
/-! ### len(set(a list of ints)) -/
def tLenSet (K : PySem.W.Frag) (ta : TA) : TE := fun σ H Q => ta σ H fun vs H1 => ∃ (p : Addr) (ns : List Int), vs = [.ref p] ∧ SqL K H1 p (ns.map V.int) ∧ ns.length + 1 < scanBound ∧ Q (.int ((firstMet (fun i => ns.getD i 0) ns.length).length : Nat)) H1
section
variable {X : Cx} {e : Expr} {ta : TA} {p p2 pos pos2 : Pos}
theorem pe_lenset (hc : X.calm = true) (ml : X.mg "len" = none) (ms : X.mg "set" = none) (ha : PA X [e] ta) (hl : Gl X "len" := by rfl) (hs : Gl X "set" := by rfl) (st : starEach [e] X.env = (false, eval e X.env) :: starEach [] X.env := by rfl)
    (st2 : starEach [.Call (.Name "set" p2) [e] [] pos2] X.env = (false, eval (.Call (.Name "set" p2) [e] [] pos2) X.env) :: starEach [] X.env := by rfl) : PE X (.Call (.Name "len" p) [.Call (.Name "set" p2) [e] [] pos2] [] pos) (tLenSet X.K ta) := by
  constructor
  intro pins s σ H Q I h
  refine wpAny_Call_Name_kw (ld_blt I hl ml PySem.boot_len ?_ (by decide) (by decide))
  refine PyProof.Rows.callWith_builtin1 ?_ st2 rfl
  rw [st2]
  show wpAny _ _ (spliced ((false, eval (.Call (.Name "set" p2) [e] [] pos2) X.env) :: backTo pos (starEach [] X.env))) _ _ s
  refine Calls.spliced_cons ?_
  refine wpAny_Call_Name_kw (ld_blt I hs ms PyProof.Rows.boot_set ?_ (by decide) (by decide))
  refine PyProof.Rows.callWith_type1 (thn (ha.run pos2 pins s σ H _ I h) ?_) st rfl
  rintro us s1 ⟨vs, H1, I1, rv, a, ns, rfl, hq, hn, q⟩
  obtain ⟨u, rfl, ru⟩ := rv.one
  cases ru
  obtain ⟨its, ri, pl, hz⟩ := I1.list hq
  have hlen := ri.length
  rw [List.length_map] at hlen
  have whole : IntsAre its.toArray.toList ns := ints_of_vals ri
  have size_its : its.toArray.size = ns.length := by rw [List.size_toArray]; omega
  refine call_set_list (I1.ok.hd hc) pl.isList whole (by rw [size_its]; exact hn) ?_
  intro h' tk so kk
  obtain ⟨o, es, ep, t, ho, hex, hd, _, _, hb, hf, hz2⟩ := so
  refine Calls.spliced_nil ?_
  refine call_len_set (s := { s1 with heap := h', toks := tk }) ho hex hd hf (by have : es.size < 4096 := hb; omega) ?_
  have J : Inv X pins σ H1 { s1 with heap := h', toks := tk + 1 + 1 } := I1.kept fun b o e => kk b o (Heap.lt_size e) e
  refine ⟨.int ((firstMet (fun i => ns.getD i 0) ns.length).length : Nat), H1, J, ⟨tk + 1, ?_⟩, q⟩
  rw [hz2, size_its]
end
def gLenSet : List D → Option E
  | [.lst xs] => (D.ints? xs).bind fun ns => if ns.length + 1 < 4096 then some (eInt ((firstMet (fun i => ns.getD i 0) ns.length).length : Nat)) else none
  | _ => none
theorem a_lenset {X : Cx} {W : WX'} {e : Expr} {fs : List S → Res (List E)} {p p2 pos pos2 : Pos} (hc : X.calm = true) (ml : X.mg "len" = none) (ms : X.mg "set" = none) (ha : PAa X W [e] fs) (hl : Gl X "len" := by rfl) (hs : Gl X "set" := by rfl) (st : starEach [e] X.env = (false, eval e X.env) :: starEach [] X.env := by rfl)
    (st2 : starEach [.Call (.Name "set" p2) [e] [] pos2] X.env = (false, eval (.Call (.Name "set" p2) [e] [] pos2) X.env) :: starEach [] X.env := by rfl) : PEa X W (.Call (.Name "len" p) [.Call (.Name "set" p2) [e] [] pos2] [] pos) (aCall gLenSet fs) :=
  pe_imp (pe_lenset hc ml ms ha hl hs st st2) fun σ H Q h => by
    obtain ⟨G, ρ, rl, h⟩ := h
    refine liftA_mono (liftA_first rl (Aft.cl (Q := Q)) h) fun us H1 ⟨vs, ρ1, G1, P, h1⟩ => ?_
    split at h1
    · rename_i v e
      obtain ⟨xs, e1, e2⟩ := Option.bind_eq_some_iff.mp e
      unfold gLenSet at e2
      split at e2
      · obtain ⟨ns, e3, e4⟩ := Option.bind_eq_some_iff.mp e2
        split at e4
        · rename_i hn
          cases e4
          obtain ⟨u, rfl, a, ws, rfl, q1, q2⟩ := tzl1 (P.vals e1)
          rw [ints_v q2 e3] at q1
          exact ⟨a, ns, rfl, SqL.of q1, hn, h1.fin P.post (.scalar P.post.rel.sub (fz_int _))⟩
        · cases e4
      · cases e2
    · exact h1.elim
/-! ### {k: v, ..} -/
def aDict0 : List S → Res E := fun ρ => .ok (.fr (.dct [])) ρ
def kmerge (ds : List (Key × D)) : List (Key × D) → List (Key × D)
  | [] => ds
  | p :: r => kmerge (kput ds p.1 p.2) r
/-- keys that are texts, values kept -/
def aPairs : List (Str × (List S → Res E)) → List (Key × D) → List S → Res (List (Key × D))
  | [], acc, ρ => .ok acc ρ
  | (k, f) :: r, acc, ρ => (f ρ).bind fun v ρ1 => match keep1 v ρ1 with
    | some (x, ρ2) => aPairs r (acc ++ [(.inr k, x)]) ρ2
    | none => .no
def aDict (ps : List (Str × (List S → Res E))) : List S → Res E := fun ρ => (aPairs ps [] ρ).bind fun kvs ρ1 => if kvs.length ≤ 15 then .ok (.fr (.dct (kmerge [] kvs))) ρ1 else .no
section
variable {X : Cx} {W : WX'} {pos : Pos}
theorem a_dict0 : PEa X W (.Dict [] [] pos) aDict0 := pe_imp pe_dnewK fun σ H Q ⟨G, ρ, r, h⟩ => by
  intro p hp
  exact h.fin (.refl r) (.own r.sub hp ⟨[], rfl, by rw [FzK]; trivial⟩)
end
theorem mergeK_cons {us r : List (Key × V)} {p : Key × V} : mergeK us (p :: r) = mergeK (putK us p.1 p.2) r := rfl
theorem FzK.merge {B : Bk} {G : Hp} : ∀ {more : List (Key × V)} {ms : List (Key × D)} {us : List (Key × V)} {ds : List (Key × D)}, FzK B G more ms → FzK B G us ds → FzK B G (mergeK us more) (kmerge ds ms)
  | [], [], _, _, _, h => h
  | [], _ :: _, _, _, h, _ => by rw [FzK] at h; exact h.elim
  | _ :: _, [], _, _, h, _ => by rw [FzK] at h; exact h.elim
  | u :: us, d :: ds, xs, ys, h, h' => by
    rw [FzK] at h
    rw [mergeK_cons, kmerge, ← h.1]
    exact FzK.merge h.2.2 (FzK.put h.2.1 h')
def trsOf (B : Bk) (W : WX') (ps : List (Str × (List S → Res E))) : List (TE × TE) := ps.map fun p => (lift B W (aK (.str p.1)), lift B W p.2)
theorem pairs_mono {B : Bk} {W : WX'} : ∀ {ps : List (Str × (List S → Res E))} {σ : St} {H : Hp} {Q Q' : List (V × V) → Hp → Prop}, (∀ zs H, Q zs H → Q' zs H) → tPairs (trsOf B W ps) σ H Q → tPairs (trsOf B W ps) σ H Q'
  | [], _, _, _, _, w, h => w _ _ h
  | (k, f) :: r, σ, H, Q, Q', w, h => lift_mono (show lift B W (aK (.str k)) σ H _ from h) fun x H1 h1 => lift_mono (show lift B W f σ H1 _ from h1) fun y H2 h2 => pairs_mono (ps := r) (fun zs H3 h3 => w _ _ h3) h2
theorem FzK.mono' {B : Bk} {G G' : Hp} (s : Same G G') {us : List (Key × V)} {ds : List (Key × D)} (h : FzK B G us ds) : FzK B G' us ds := FzK.mono s ds us h
def stepP (r : List (Str × (List S → Res E))) (acc : List (Key × D)) (key : Str) (k : List (Key × D) → List S → Res E) (v : E) (ρ1 : List S) : Res E := match keep1 v ρ1 with
  | some (x, ρ2) => (aPairs r (acc ++ [((Sum.inr key : Key), x)]) ρ2).bind k
  | none => .no
theorem pairs_imp {B : Bk} {W : WX'} {σ : St} {ρ0 : List S} {H0 G0 : Hp} {Φ : Res E → Prop} {k : List (Key × D) → List S → Res E} {p : Addr} (cl : Cl B W σ ρ0 H0 G0 Φ) (h0 : H0 p = none) :
    ∀ (ps : List (Str × (List S → Res E))) (acc : List (Key × D)) (accV : List (Key × V)) (ρ : List S) (H G : Hp), Post B σ ρ0 H0 G0 σ ρ H G → H p = some (.dK []) → G p = none → (∀ j, ¬ Own σ ρ j p) → FzK B G accV acc →
      Φ ((aPairs ps acc ρ).bind k) → tPairs (trsOf B W ps) σ H fun zs H2 => ∃ kv2 ρ2 G2 all, Post B σ ρ0 H0 G0 σ ρ2 H2 G2 ∧ H2 p = some (.dK []) ∧ G2 p = none ∧ (∀ j, ¬ Own σ ρ2 j p) ∧ FzK B G2 (accV ++ kv2) all ∧ zs = kv2.map (fun kv => (kV kv.1, kv.2)) ∧ Φ (k all ρ2)
  | [], acc, accV, ρ, H, G, P, hp, gp, np, f, h => ⟨[], ρ, G, acc, P, hp, gp, np, by rw [List.append_nil]; exact f, rfl, h⟩
  | (key, g) :: r, acc, accV, ρ, H, G, P, hp, gp, np, f, h => by
    have c1 := cl.step P
    have h : Φ ((g ρ).bind fun v ρ1 => stepP r acc key k v ρ1) := by
      rw [aPairs] at h
      cases eg : g ρ with
      | ok v ρ2 => rw [eg, Res.bind_ok] at h; rw [Res.bind_ok]; unfold stepP; split at h <;> simp_all
      | ex e ρ2 => rw [eg] at h; exact h
      | no => rw [eg] at h; exact h
    refine ⟨G, ρ, P.rel, fun x H1 G1 p1 re1 fr1 => ?_⟩
    have ex : x = .str key := by
      have re1 : Fz B G1 x (.str key) := re1
      rw [Fz] at re1; exact re1
    have P1 : Pend B σ ρ H G ρ H1 G1 [x] [.d (.str key)] := Pend.one p1 P.rel re1 trivial
    refine lift_mono (lift_next P1 c1 h) fun y H2 ⟨v, ρ2, G2, P2, h2⟩ => ?_
    unfold stepP at h2
    split at h2
    · rename_i xd ρ3 hk
      obtain ⟨G3, P3, f3, s3⟩ := Pend.keep1 (us := []) (vs := []) (Pend.tail (us := [y]) (vs := [v]) P2) hk
      have Q3 := P3.post
      have hp3 : H2 p = some (.dK []) := Q3.frame p _ hp np
      have gp3 : G3 p = none := Q3.keep p _ hp gp np
      have np3 : ∀ j, ¬ Own σ ρ3 j p := Q3.notown hp np
      have f4 : FzK B G3 (accV ++ [((Sum.inr key : Key), y)]) (acc ++ [((Sum.inr key : Key), xd)]) := FzK.appK (FzK.mono' Q3.grow f) (by rw [FzK]; exact ⟨rfl, f3, by rw [FzK]; trivial⟩)
      refine pairs_mono ?_ (pairs_imp cl h0 r _ _ ρ3 H2 G3 (P.trans Q3) hp3 gp3 np3 f4 h2)
      rintro zs H4 ⟨kv2, ρ4, G4, all, P4, hp4, gp4, np4, f5, ez, h4⟩
      refine ⟨((Sum.inr key : Key), y) :: kv2, ρ4, G4, all, P4, hp4, gp4, np4, by simpa using f5, ?_, h4⟩
      rw [ez, ex]
      rfl
    · exact (cl.no h2).elim
theorem a_dict {X : Cx} {W : WX'} {pos : Pos} {keys : List (Option Expr)} {values : List Expr} {ps : List (Str × (List S → Res E))} (h : PPs X pos keys values (trsOf X.bk W ps)) (hall : keys.all (·.isSome) = true := by rfl) (hl : keys.length = values.length := by rfl) (h0 : keys ≠ [] := by exact List.cons_ne_nil _ _)
    (h15 : keys.length ≤ 15 := by decide) : PEa X W (.Dict keys values pos) (aDict ps) :=
  pe_imp (pe_disp h hall hl h0 h15) fun σ H Q ⟨G, ρ, r, h⟩ => by
    intro p hp
    have gp : G p = none := Same.free r.sub hp
    have np : ∀ j, ¬ Own σ ρ j p := fun j ⟨w1, o, w2⟩ => by
      obtain ⟨v, e1, a, ho, e2, e3, _⟩ := r.slot j _ w2
      rw [w1] at e1; cases e1; cases e2
      rw [hp] at e3; cases e3
    refine pairs_mono ?_ (pairs_imp (Aft.cl (Q := Q)) hp ps [] [] ρ _ G ((Post.refl r).poke hp gp np) upd_same gp np (by rw [FzK]; trivial) h)
    rintro zs H2 ⟨kv2, ρ2, G2, all, P, hp2, gp2, np2, f, ez, h2⟩
    refine ⟨hp2, kv2, ez, ?_⟩
    split at h2
    · rename_i hz
      have f' : FzK X.bk G2 kv2 all := f
      refine ⟨by rw [f'.length]; exact hz, ?_⟩
      refine h2 (.ref p) _ G2 (P.poke hp gp2 np2) ⟨p, _, rfl, upd_same, gp2, ⟨_, rfl, FzK.merge f' (by rw [FzK]; trivial)⟩, np2⟩ fun a e => by cases e; exact hp
    · exact h2.elim
end L2.AL
/-! AW: a def that may be called by its name; short forms for the printed derivations. -/
namespace L2.AL
open PySem PySem.Spec PyProof.Rows
structure DefOk (P : Program) (w : World) (K : PySem.W.Frag) (mg : Str → Option Value) (base : Heap) (x : Str) (par : List Str) (n : Nat) (F : List S → Res E) : Prop where
  ex : ∃ (a : Addr) (fd : FuncData), mg x = some (.ref a) ∧ PySem.W.keepIn K (.ref a) = true ∧ Binds K fd par [] ∧ KwB K fd par par ∧ FnG P w K mg base CX0 n a fd par F
  len : Len F par.length
theorem kwB_of {K : PySem.W.Frag} {x qual : Str} {st : Stmt} {a : Addr} {fd : FuncData} {par : List Str} (F : Fun K x qual st a fd)
    (h : ∀ (kV doc pm : Value) (an : Option Addr) (cdv ct : Value) (zs : List Value), zs.length = par.length → bindArgs (PySem.W.fnOf x qual (defArgs st) (defBody st) (defScope st) .none kV doc pm an cdv ct) ⟨[], par.zip zs⟩ = pure (par.zip zs)) : KwB K fd par par := by
  obtain ⟨oc, od, kV, doc, pm, an, cdv, ct, osl, rfl, lk, hcd⟩ := F.ex
  exact fun s zs _ hl => .of_eq (h kV doc pm an cdv ct zs hl)
section
variable {P : Program} {w : World} {K : PySem.W.Frag} {mg : Str → Option Value} {base : Heap} {n : Nat} {a : Addr} {x qual : Str} {st : Stmt} {N par : List Str} {fd : FuncData}
/-- a def none of whose exceptions leaves -/
theorem FnG.ofN {f : List S → Res Fl} (F : Fun K x qual st a fd) (S : FnScope N par (defScope st)) (np nl : Nat) (hnp : par.length = np) (hnl : N.length - np = nl)
    (hbody : ∀ (cd : Value) (A : Around) (up : List Env) (s0 : Shared) (H : Hp) (Ex : XK), (A.deeper (envOfC qual (defScope st) s0.heap.objs.size a cd)).guards = some [] → Room n (A.deeper (envOfC qual (defScope st) s0.heap.objs.size a cd)) →
      PSsa (cxOf CX0 P w K mg base N qual (defScope st) a cd A up s0 H Ex).nox (fun cls d _ H => Ex cls d H) (List.range np) (defBody st) f) :
    FnG P w K mg base CX0 (n + 1) a fd par (runF np nl f) :=
  FnG.of F S np nl hnp hnl fun cd A up s0 H Ex hg hr => (hbody cd A up s0 H Ex hg hr).nox
theorem pass0W {X : Cx} {W : WX'} : PassW CX0 X W := fun _ _ _ _ _ _ _ z => z.elim
end
section
variable {X : Cx} {W : WX'} {x : Str} {p pos : Pos} {par : List Str} {m n : Nat} {F : List S → Res E} {fs : List S → Res (List E)} {e : Expr} {es : List Expr} {kws : List Keyword}
/-- what stands around a body: no guard, room -/
structure Rm (A : Around) (n : Nat) : Prop where
  g : A.guards = some []
  r : Room n A
theorem Rm.u {A : Around} (r : Rm A n) : A.units + 64 < cLine := r.r.units
theorem Rm.u65 {A : Around} (r : Rm A n) : A.units + 65 < cLine := by have := r.r.un; omega
theorem Rm.u1 {A : Around} (r : Rm A n) : A.units + 1 < cLine := by have := r.r.un; omega
theorem c_fn (D : DefOk X.prog X.w X.K X.mg X.base x par m F) (r : Rm X.A n) (hmn : m ≤ n) (ha : PAa X W (e :: es) fs) (hg : Gl X x := by rfl) (hdb : (x == ("__debug__" : Str)) = false := by decide) (he : starEach (e :: es) X.env = (false, eval e X.env) :: starEach es X.env := by rfl) (hpl : (backTo pos (starEach es X.env)).any (·.1) = false := by rfl) :
    PEa X W (.Call (.Name x p) (e :: es) [] pos) (aFn F fs) := by
  obtain ⟨a, fd, hm, hk, hb, _, hF⟩ := D.ex
  exact a_fn (hF.mono hmn) D.len r.g r.r pass0W hm hk hb ha hg hdb he hpl
theorem c_fn0 (D : DefOk X.prog X.w X.K X.mg X.base x par m F) (r : Rm X.A n) (hmn : m ≤ n) (hg : Gl X x := by rfl) (hdb : (x == ("__debug__" : Str)) = false := by decide) : PEa X W (.Call (.Name x p) [] [] pos) (aFn F aNil) := by
  obtain ⟨a, fd, hm, hk, hb, _, hF⟩ := D.ex
  exact a_fn0 (hF.mono hmn) D.len r.g r.r pass0W hm hk hb hg hdb
theorem c_fnK (D : DefOk X.prog X.w X.K X.mg X.base x par m F) (r : Rm X.A n) (hmn : m ≤ n) (ha : PKa X W kws fs) (hall : (backToKw pos (keywordEach kws X.env)).all (·.1.isSome) = true := by rfl) (hks : (backToKw pos (keywordEach kws X.env)).filterMap (·.1) = par := by rfl)
    (hg : Gl X x := by rfl) (hdb : (x == ("__debug__" : Str)) = false := by decide) (hpl : ((backTo pos (starEach [] X.env)).any (·.1) || (backToKw pos (keywordEach kws X.env)).any (·.1.isNone)) = false := by rfl) :
    PEa X W (.Call (.Name x p) [] kws pos) (aFn F fs) := by
  obtain ⟨a, fd, hm, hk, _, hb, hF⟩ := D.ex
  exact a_fnK (hF.mono hmn) D.len r.g r.r pass0W hm hk hb ha hall hks hg hdb hpl
/-- what a table of defs by name must have -/
def TblOk (X : Cx) (n : Nat) (tbl : Str → Option (List S → Res E)) : Prop := ∀ y F, tbl y = some F → ∃ (par : List Str) (m : Nat), m ≤ n ∧ DefOk X.prog X.w X.K X.mg X.base y par m F
theorem c_fnV {i : Nat} {tbl : Str → Option (List S → Res E)} (hT : TblOk X n tbl) (r : Rm X.A n) (hN : X.N[i]? = some x) (ha : PAa X W (e :: es) fs) (hv : Vis X.env.scope x := by first | exact Or.inl rfl | exact Or.inr (Or.inl rfl) | exact Or.inr (Or.inr rfl))
    (hd : (x == ("__debug__" : Str)) = false := by decide) (hcd : (x == ("__classdict__" : Str)) = false := by decide) (he : starEach (e :: es) X.env = (false, eval e X.env) :: starEach es X.env := by rfl) (hpl : (backTo pos (starEach es X.env)).any (·.1) = false := by rfl) :
    PEa X W (.Call (.Name x p) (e :: es) [] pos) (aFnV i tbl fs) := by
  refine a_fnV (n := n) (fun y F e => ?_) r.g r.r pass0W hN ha hv hd hcd he hpl
  obtain ⟨par, m, le, D⟩ := hT y F e
  obtain ⟨a, fd, hm, hk, hb, _, hF⟩ := D.ex
  exact ⟨a, fd, par, hm, hk, hF.mono le, D.len, hb⟩
/-- a built-in type by its name -/
theorem a_ty {T : String} (hm : X.mg x = none) (hv : bootBuiltins x = some (.type T)) (hg : Gl X x := by rfl) (hn : x ≠ "__name__" := by decide) (hd : (x == ("__debug__" : Str)) = false := by decide) : PEa X W (.Name x pos) (aK (.ty T)) :=
  a_const (pe_bltn (v := .ty T) hg hm hv rfl hn hd) fun G => by rw [Fz]
theorem gc_fn {B : Bk} {x : Str} {a : Addr} (h : B.mg x = some (.ref a)) : GC B x (.fn x) := ⟨_, .ref a, h, rfl, fun G => by rw [Fz]; exact ⟨a, rfl, h⟩⟩
theorem gc_str {B : Bk} {x z : Str} {t : Tok} (h : B.mg x = some (.str z t)) : GC B x (.str z) := ⟨_, .str z, h, ⟨t, rfl⟩, fun G => by rw [Fz]⟩
theorem gc_int {B : Bk} {x : Str} {z : Int} {t : Tok} (h : B.mg x = some (.int z t)) : GC B x (.int z) := ⟨_, .int z, h, ⟨t, rfl⟩, fun G => by rw [Fz]⟩
theorem gc_tup {B : Bk} {x : Str} {a : Addr} {o : Obj} {its : List Value} {k : Nat} {ds : List D} {us : List V} (h : B.mg x = some (.ref a)) (l : B.K.lookup a = some o) (hc : o.cls = .type "tuple") (hs : o.data = .seq its.toArray k) (hz : its.length ≤ sizeLine) (rv : Vals us its) (f : ∀ G, FzL B G us ds) : GC B x (.tup ds) :=
  ⟨_, .ref a, h, rfl, fun G => by rw [Fz]; exact ⟨a, us, rfl, .inr ⟨o, its.toArray, k, l, hc, hs, by simpa using hz, by simpa using rv⟩, f G⟩⟩
end
theorem DefOk.gc {P : Program} {w : World} {K : PySem.W.Frag} {mg : Str → Option Value} {base : Heap} {x : Str} {par : List Str} {n : Nat} {F : List S → Res E} (D : DefOk P w K mg base x par n F) : GC ⟨K, mg, w⟩ x (.fn x) := by
  obtain ⟨a, fd, hm, _⟩ := D.ex
  exact gc_fn hm
/-- a comprehension, its side conditions by computation -/
def okT (t : Tg) (vs : List Nat) : Bool := t.names.all fun j => vs.contains j
theorem okT_of {t : Tg} {vs : List Nat} (h : okT t vs = true) : ∀ j, j ∈ t.names → j ∈ vs := fun j hj => by
  have := List.all_eq_true.mp h j hj
  simpa using this
def offT (t : Tg) (P : List Nat) : Bool := t.names.all fun j => !P.contains j
theorem offT_of {t : Tg} {P : List Nat} (h : offT t P = true) : ∀ j, j ∈ t.names → j ∉ P := fun j hj => by
  have := List.all_eq_true.mp h j hj
  simpa using this
def tblOf : List (Str × (List S → Res E)) → Str → Option (List S → Res E)
  | [], _ => none
  | p :: r, y => if p.1 = y then some p.2 else tblOf r y
theorem tbl_nil {X : Cx} {n : Nat} : TblOk X n (tblOf []) := fun y F e => by cases e
theorem tbl_cons {X : Cx} {n : Nat} {x : Str} {par : List Str} {m : Nat} {F : List S → Res E} {r : List (Str × (List S → Res E))} (le : m ≤ n) (D : DefOk X.prog X.w X.K X.mg X.base x par m F) (h : TblOk X n (tblOf r)) : TblOk X n (tblOf ((x, F) :: r)) := fun y G e => by
  rw [tblOf] at e
  split at e
  · rename_i q
    cases e
    have q : x = y := q
    subst q
    exact ⟨par, m, le, D⟩
  · exact h y G e
end L2.AL
/-! AH: what the head tells of the module's names. -/
namespace L2.AL
open PySem PySem.Spec PyProof.Rows
/-- the entries of a written dict by content -/
def EntOk (B : Bk) : List DictEntry → List (Str × D) → Prop
  | [], [] => True
  | e :: es, p :: ps => (∃ t, e.key = .str p.1 t) ∧ (∃ v, RelV v e.val ∧ ∀ G, Fz B G v p.2) ∧ EntOk B es ps
  | [], _ :: _ => False
  | _ :: _, [] => False
section
variable {B : Bk} {a : Addr} {n : Nat}
theorem entFind : ∀ {es : List DictEntry} {ps : List (Str × D)} {z : Str}, EntOk B es ps → ps.lookup z = none → es.find? (fun e => e.key.isStr z) = none ∧ es.any (·.refKey) = false
  | [], [], z, _, _ => ⟨rfl, rfl⟩
  | [], _ :: _, _, h, _ => h.elim
  | _ :: _, [], _, h, _ => h.elim
  | e :: es, p :: ps, z, ⟨⟨t, hk⟩, _, h⟩, hl => by
    rw [List.lookup_cons] at hl
    cases hb : z == p.1 with
    | true => rw [hb] at hl; cases hl
    | false =>
      rw [hb] at hl
      obtain ⟨h1, h2⟩ := entFind h hl
      have hne : e.key.isStr z = false := by
        rw [hk, PySem.W.isStr_of]
        unfold Value.isStrOf
        have : z ≠ p.1 := fun q => by rw [q] at hb; simp at hb
        simp [Ne.symm this, this]
      refine ⟨?_, ?_⟩
      · rw [List.find?_cons, hne]; exact h1
      · rw [List.any_cons, h2, Bool.or_false]
        unfold DictEntry.refKey
        rw [hk]
theorem entAt : ∀ {es : List DictEntry} {ps : List (Str × D)} {q : Str × D}, EntOk B es ps → (ps.map (·.1)).Nodup → q ∈ ps → ∃ e v, es.find? (fun e => e.key.isStr q.1) = some e ∧ RelV v e.val ∧ ∀ G, Fz B G v q.2
  | [], [], q, _, _, hq => by cases hq
  | [], _ :: _, _, h, _, _ => h.elim
  | _ :: _, [], _, h, _, _ => h.elim
  | e :: es, p :: ps, q, ⟨⟨t, hk⟩, ⟨v, rv, fv⟩, h⟩, nd, hq => by
    rw [List.map_cons, List.nodup_cons] at nd
    rcases List.mem_cons.mp hq with rfl | hq'
    · refine ⟨e, v, ?_, rv, fv⟩
      have : e.key.isStr q.1 = true := by
        rw [hk, PySem.W.isStr_of]
        unfold Value.isStrOf
        simp
      rw [List.find?_cons, this]
    · obtain ⟨e', v', h1, h2, h3⟩ := entAt h nd.2 hq'
      refine ⟨e', v', ?_, h2, h3⟩
      have : e.key.isStr q.1 = false := by
        rw [hk, PySem.W.isStr_of]
        unfold Value.isStrOf
        have : p.1 ≠ q.1 := fun z => nd.1 (by rw [z]; exact List.mem_map_of_mem hq')
        simp [this, Ne.symm this]
      rw [List.find?_cons, this]
      exact h1
theorem fzc_of {G : Hp} {all : List (Str × D)} {es : List DictEntry} (hl : B.K.lookup a = some ⟨.type "dict", none, .dict es.toArray n, #[]⟩) (h : EntOk B es all) (nd : (all.map (·.1)).Nodup) : ∀ ps : List (Str × D), (∀ q ∈ ps, q ∈ all) → FzC B G a ps
  | [], _ => by rw [FzC]; trivial
  | p :: ps, hp => by
    rw [FzC]
    obtain ⟨e, v, h1, h2, h3⟩ := entAt h nd (hp p List.mem_cons_self)
    refine ⟨⟨e.val, v, ?_, h2, h3 G⟩, fzc_of hl h nd ps fun q hq => hp q (List.mem_cons_of_mem _ hq)⟩
    unfold PySem.W.nsIn
    rw [hl]
    show (match es.find? (fun e => e.key.isStr p.1) with | some e => some (some e.val) | none => _) = _
    rw [h1]
theorem gc_dict {x : Str} {es : List DictEntry} {ps : List (Str × D)} (h : B.mg x = some (.ref a)) (hl : B.K.lookup a = some ⟨.type "dict", none, .dict es.toArray n, #[]⟩) (lit : PySem.W.KeysLit B.w.params es) (low : (a == sysModules) = false) (ent : EntOk B es ps) (nd : (ps.map (·.1)).Nodup) : GC B x (.cd ps) :=
  ⟨_, .ref a, h, rfl, fun G => by
    rw [Fz]
    refine ⟨a, rfl, ⟨⟨es.toArray, n, hl, by simpa using lit, low⟩, fun z hz => ?_⟩, fzc_of hl ent nd ps fun q hq => hq⟩
    obtain ⟨h1, h2⟩ := entFind ent hz
    unfold PySem.W.nsIn
    rw [hl]
    show (match es.find? (fun e => e.key.isStr z) with | some e => some (some e.val) | none => if es.any (·.refKey) then none else some none) = _
    rw [h1, h2]
    rfl⟩
/-- a written tuple of texts -/
theorem fz_ktup {ds : List D} {us : List V} {o : Obj} {its : List Value} {k : Nat} (l : B.K.lookup a = some o) (hc : o.cls = .type "tuple") (hs : o.data = .seq its.toArray k) (hz : its.length ≤ 1000) (rv : Vals us its) (f : ∀ G, FzL B G us ds) : ∀ G, Fz B G (.ref a) (.tup ds) := fun G => by
  rw [Fz]
  exact ⟨a, us, rfl, .inr ⟨o, its.toArray, k, l, hc, hs, by simpa using Nat.le_of_lt (small1000 hz), by simpa using rv⟩, f G⟩
theorem gc_of {x : Str} {v : V} {u : Value} {d : D} (h : B.mg x = some u) (r : RelV v u) (f : ∀ G, Fz B G v d) : GC B x d := ⟨u, v, h, r, f⟩
end
end L2.AL
namespace L2.AL.K11
open PySem PySem.Spec PyProof.Rows L2 L2.AL
def c_ANSWERS : D := (.cd [("put", (.tup [(.str "done"), (.str "refused"), (.str "again")])), ("drop", (.tup [(.str "done"), (.str "none"), (.str "again")])), ("look", (.tup [(.str "there"), (.str "none"), (.str "again")]))])
def c_BEGIN : D := (.str "begin")
def c_BLANK : D := (.str " ")
def c_DIGITS : D := (.str "0123456789")
def c_FEED : D := (.str "\n")
def c_LETTERS : D := (.str "abcdefghijklmnopqrstuvwxyz")
def c_LONGEST_NAME : D := (.int 8)
def c_MOST_OF_A_KEY : D := (.int 8)
def c_MOST_RECORDS : D := (.int 24)
def c_NOTHING : D := (.str "-")
def c_NUMBER_EVENTS : D := (.tup [(.str "step"), (.str "stay"), (.str "leave"), (.str "come"), (.str "lapse")])
def c_PAIR_reading : D := (.int 2)
def c_PAIR_showing : D := (.int 2)
def c_RECORD : D := (.int 5)
def c_RECORD_WORDS : D := (.int 5)
/-- is_integer: 0 value -/
def b_is_integer : List S → Res Fl := (sRet (aAndV (aCall gIsi (aCons (aVar 0) (aCons (aK (.ty "int")) aNil))) (aNotV (aCall gIsi (aCons (aVar 0) (aCons (aK (.ty "bool")) aNil))))))
def m_is_integer : List S → Res E := runF 1 0 b_is_integer
/-- is_name: 0 value, 1 sign -/
def b_is_name : List S → Res Fl := (sSeq (sIf (aOrT (aNotT (aT (aCall gIsi (aCons (aVar 0) (aCons (aK (.ty "str")) aNil))))) (aNotT (aT (aChain gLe gLe (aK (.int 1)) (aCall gLen (aCons (aVar 0) aNil)) (aK c_LONGEST_NAME))))) (sRet (aK (.bl false))) sNx)
  (sRet (aCall gAll (aCons (aLc [1] (aIter (aVar 0)) (.nm 1) aYes (aOp2 gIn (aVar 1) (aK c_LETTERS))) aNil))))
def m_is_name : List S → Res E := runF 1 1 b_is_name
/-- is_record: 0 value, 1 begin, 2 end, 3 key, 4 sort, 5 answer -/
def b_is_record : List S → Res Fl := (sSeq (sIf (aOrT (aNotT (aT (aCall gIsi (aCons (aVar 0) (aCons (aK (.ty "tuple")) aNil))))) (aT (aOp2 gNe (aCall gLen (aCons (aVar 0) aNil)) (aK c_RECORD)))) (sRet (aK (.bl false))) sNx)
  (sSeq (sTg (.tp [(.nm 1), (.nm 2), (.nm 3), (.nm 4), (.nm 5)]) (aVar 0))
  (sSeq (sIf (aOrT (aNotT (aT (aFn m_is_integer (aCons (aVar 1) aNil)))) (aOrT (aT (aOp2 gLt (aVar 1) (aK (.int 1)))) (aOrT (aNotT (aT (aFn m_is_name (aCons (aVar 3) aNil)))) (aOrT (aNotT (aT (aCall gIsi (aCons (aVar 4) (aCons (aK (.ty "str")) aNil))))) (aT (aOp2 gNi (aVar 4) (aK c_ANSWERS))))))) (sRet (aK (.bl false))) sNx)
  (sSeq (sIf (aT (aOp2 gIs (aVar 2) (aK .non))) (sRet (aOp2 gIs (aVar 5) (aK .non))) sNx)
  (sRet (aAndV (aFn m_is_integer (aCons (aVar 2) aNil)) (aAndV (aOp2 gLt (aVar 1) (aVar 2)) (aAndV (aCall gIsi (aCons (aVar 5) (aCons (aK (.ty "str")) aNil))) (aOp2 gIn (aVar 5) (aOp2 gIx (aK c_ANSWERS) (aVar 4)))))))))))
def m_is_record : List S → Res E := runF 1 5 b_is_record
/-- is_history: 0 value, 1 one, 2 begins, 3 keys, 4 record, 5 times, 6 key -/
def b_is_history : List S → Res Fl := (sSeq (sIf (aOrT (aNotT (aT (aCall gIsi (aCons (aVar 0) (aCons (aK (.ty "tuple")) aNil))))) (aOrT (aT (aOp2 gGt (aCall gLen (aCons (aVar 0) aNil)) (aK c_MOST_RECORDS))) (aNotT (aT (aCall gAll (aCons (aLc [1] (aIter (aVar 0)) (.nm 1) aYes (aFn m_is_record (aCons (aVar 1) aNil))) aNil)))))) (sRet (aK (.bl false))) sNx)
  (sSeq (sSet [2, 3] (aCons (aLc [4] (aIter (aVar 0)) (.nm 4) aYes (aOp2 gIx (aVar 4) (aK (.int 0)))) (aCons (aLc [4] (aIter (aVar 0)) (.nm 4) aYes (aOp2 gIx (aVar 4) (aK (.int 2)))) aNil)))
  (sSeq (sSet1 5 (aOp2 gAdd (aVar 2) (aLc [4] (aIter (aVar 0)) (.nm 4) (aT (aOp2 gIsn (aOp2 gIx (aVar 4) (aK (.int 1))) (aK .non))) (aOp2 gIx (aVar 4) (aK (.int 1))))))
  (sSeq (sIf (aOrT (aT (aOp2 gNe (aVar 2) (aCall gSorted (aCons (aVar 2) aNil)))) (aT (aOp2 gNe (aCall gLenSet (aCons (aVar 5) aNil)) (aCall gLen (aCons (aVar 5) aNil))))) (sRet (aK (.bl false))) sNx)
  (sRet (aCall gAll (aCons (aLc [6] (aIter (aVar 3)) (.nm 6) aYes (aOp2 gLe (aMeth "list" gCount (aVar 3) (aCons (aVar 6) aNil)) (aK c_MOST_OF_A_KEY))) aNil)))))))
def m_is_history : List S → Res E := runF 1 6 b_is_history
/-- line_of: 0 words, 1 word -/
def b_line_of : List S → Res Fl := (sRet (aMeth "str" gJoin (aK c_BLANK) (aCons (aLc [1] (aIter (aVar 0)) (.nm 1) aYes (aCall gStr (aCons (aVar 1) aNil))) aNil)))
def m_line_of : List S → Res E := runF 1 1 b_line_of
/-- is_count: 0 value -/
def b_is_count : List S → Res Fl := (sRet (aAndV (aCall gIsi (aCons (aVar 0) (aCons (aK (.ty "int")) aNil))) (aAndV (aNotV (aCall gIsi (aCons (aVar 0) (aCons (aK (.ty "bool")) aNil)))) (aOp2 gGe (aVar 0) (aK (.int 0))))))
def m_is_count : List S → Res E := runF 1 0 b_is_count
/-- has_event_form: 0 value -/
def b_has_event_form : List S → Res Fl := (sSeq (sIf (aOrT (aNotT (aT (aCall gIsi (aCons (aVar 0) (aCons (aK (.ty "tuple")) aNil))))) (aOrT (aT (aOp2 gNe (aCall gLen (aCons (aVar 0) aNil)) (aK c_PAIR_showing))) (aNotT (aT (aCall gIsi (aCons (aOp2 gIx (aVar 0) (aK (.int 0))) (aCons (aK (.ty "str")) aNil))))))) (sRet (aK (.bl false))) sNx)
  (sSeq (sIf (aT (aOp2 gEq (aOp2 gIx (aVar 0) (aK (.int 0))) (aK c_BEGIN))) (sRet (aFn m_is_name (aCons (aOp2 gIx (aVar 0) (aK (.int 1))) aNil))) sNx)
  (sRet (aAndV (aOp2 gIn (aOp2 gIx (aVar 0) (aK (.int 0))) (aK c_NUMBER_EVENTS)) (aFn m_is_count (aCons (aOp2 gIx (aVar 0) (aK (.int 1))) aNil))))))
def m_has_event_form : List S → Res E := runF 1 0 b_has_event_form
/-- show_run: 0 run, 1 index, 2 event -/
def b_show_run : List S → Res Fl := (sSeq (sIf (aNotT (aT (aCall gIsi (aCons (aVar 0) (aCons (aK (.ty "tuple")) aNil))))) sNo sNx)
  (sSeq (sFor (aEnumA (aCons (aVar 0) aNil)) (.tp [(.nm 1), (.nm 2)]) (sIf (aNotT (aT (aFn m_has_event_form (aCons (aVar 2) aNil)))) sNo sNx))
  (sRet (aMeth "str" gJoin (aK c_FEED) (aCons (aLc [2] (aIter (aVar 0)) (.nm 2) aYes (aFn m_line_of (aCons (aVar 2) aNil))) aNil)))))
def m_show_run : List S → Res E := runF 1 2 b_show_run
/-- show_history: 0 history, 1 lines, 2 part, 3 record, 4 line -/
def b_show_history : List S → Res Fl := (sSeq (sIf (aNotT (aT (aFn m_is_history (aCons (aVar 0) aNil)))) sNo sNx)
  (sSeq (sSet1 1 (aLc [3] (aIter (aVar 0)) (.nm 3) aYes (aLc [2] (aIter (aVar 3)) (.nm 2) aYes (aIf (aT (aOp2 gIs (aVar 2) (aK .non))) (aK c_NOTHING) (aVar 2)))))
  (sRet (aMeth "str" gJoin (aK c_FEED) (aCons (aLc [4] (aIter (aVar 1)) (.nm 4) aYes (aFn m_line_of (aCons (aVar 4) aNil))) aNil)))))
def m_show_history : List S → Res E := runF 1 4 b_show_history
/-- lines_of: 0 text, 1 line -/
def b_lines_of : List S → Res Fl := (sSeq (sIf (aNotT (aT (aCall gIsi (aCons (aVar 0) (aCons (aK (.ty "str")) aNil))))) sNo sNx)
  (sRet (aLc [1] (aIter (aMeth "str" gSplit (aVar 0) (aCons (aK c_FEED) aNil))) (.nm 1) aYes (aMeth "str" gSplit (aVar 1) (aCons (aK c_BLANK) aNil)))))
def m_lines_of : List S → Res E := runF 1 1 b_lines_of
/-- number_in: 0 word, 1 sign -/
def b_number_in : List S → Res Fl := (sSeq (sIf (aOrT (aT (aOp2 gEq (aVar 0) (aK (.str "")))) (aOrT (aNotT (aT (aCall gAll (aCons (aLc [1] (aIter (aVar 0)) (.nm 1) aYes (aOp2 gIn (aVar 1) (aK c_DIGITS))) aNil)))) (aAndT (aT (aOp2 gEq (aOp2 gIx (aVar 0) (aK (.int 0))) (aK (.str "0")))) (aT (aOp2 gNe (aVar 0) (aK (.str "0"))))))) (sRet (aK .non)) sNx)
  (sRet (aCall gInt (aCons (aVar 0) aNil))))
def m_number_in : List S → Res E := runF 1 1 b_number_in
/-- names_in: 0 words, 1 least, 2 word -/
def b_names_in : List S → Res Fl := (sRet (aIf (aAndT (aT (aOp2 gGe (aCall gLen (aCons (aVar 0) aNil)) (aVar 1))) (aT (aCall gAll (aCons (aLc [2] (aIter (aVar 0)) (.nm 2) aYes (aFn m_is_name (aCons (aVar 2) aNil))) aNil)))) (aCall gTuple (aCons (aVar 0) aNil)) (aK .non)))
def m_names_in : List S → Res E := runF 2 1 b_names_in
/-- event_in: 0 words, 1 number -/
def b_event_in : List S → Res Fl := (sSeq (sIf (aT (aOp2 gNe (aCall gLen (aCons (aVar 0) aNil)) (aK c_PAIR_reading))) (sRet (aK .non)) sNx)
  (sSeq (sIf (aT (aOp2 gEq (aOp2 gIx (aVar 0) (aK (.int 0))) (aK c_BEGIN))) (sRet (aFn m_names_in (aCons (aVar 0) (aCons (aK c_PAIR_reading) aNil)))) sNx)
  (sSeq (sSet1 1 (aFn m_number_in (aCons (aOp2 gIx (aVar 0) (aK (.int 1))) aNil)))
  (sRet (aIf (aAndT (aT (aOp2 gIn (aOp2 gIx (aVar 0) (aK (.int 0))) (aK c_NUMBER_EVENTS))) (aT (aOp2 gIsn (aVar 1) (aK .non)))) (aTup (aCons (aOp2 gIx (aVar 0) (aK (.int 0))) (aCons (aVar 1) aNil))) (aK .non))))))
def m_event_in : List S → Res E := runF 1 1 b_event_in
/-- record_in: 0 words, 1 begin, 2 end, 3 key, 4 sort, 5 answer, 6 told -/
def b_record_in : List S → Res Fl := (sSeq (sIf (aOrT (aT (aOp2 gNe (aCall gLen (aCons (aVar 0) aNil)) (aK c_RECORD_WORDS))) (aT (aOp2 gIs (aFn m_names_in (aCons (aSlice (aVar 0) (aPart (aK (.int 2))) (aPart (aK (.int 4)))) (aCons (aK c_PAIR_reading) aNil))) (aK .non)))) (sRet (aK .non)) sNx)
  (sSeq (sTg (.tp [(.nm 1), (.nm 2), (.nm 3), (.nm 4), (.nm 5)]) (aVar 0))
  (sSeq (sSet1 6 (aTup (aCons (aFn m_number_in (aCons (aVar 1) aNil)) (aCons (aIf (aT (aOp2 gEq (aVar 2) (aK c_NOTHING))) (aK .non) (aFn m_number_in (aCons (aVar 2) aNil))) (aCons (aVar 3) (aCons (aVar 4) aNil))))))
  (sSeq (sIf (aOrT (aT (aOp2 gIs (aOp2 gIx (aVar 6) (aK (.int 0))) (aK .non))) (aOrT (aAndT (aT (aOp2 gIs (aOp2 gIx (aVar 6) (aK (.int 1))) (aK .non))) (aT (aOp2 gNe (aVar 2) (aK c_NOTHING)))) (aAndT (aNotT (aT (aFn m_is_name (aCons (aVar 5) aNil)))) (aT (aOp2 gNe (aVar 5) (aK c_NOTHING)))))) (sRet (aK .non)) sNx)
  (sRet (aTup (aStar (aVar 6) (aCons (aIf (aT (aOp2 gEq (aVar 5) (aK c_NOTHING))) (aK .non) (aVar 5)) aNil))))))))
def m_record_in : List S → Res E := runF 1 6 b_record_in
/-- all_in: 0 text, 1 read, 2 found, 3 number, 4 words, 5 thing -/
def b_all_in : List S → Res Fl := (sSeq (sSet1 2 (aLst aNil))
  (sSeq (sFor (aEnumA (aCons (aFn m_lines_of (aCons (aVar 0) aNil)) aNil)) (.tp [(.nm 3), (.nm 4)]) (sSeq (sSet1 5 (aFnV 1 (tblOf [("event_in", m_event_in), ("record_in", m_record_in)]) (aCons (aVar 4) aNil)))
  (sSeq (sIf (aAndT (aT (aOp2 gIs (aVar 5) (aK .non))) (aT (aOp2 gNe (aVar 0) (aK (.str ""))))) sNo sNx)
  (sExpr (aMut "list" 2 uAppend (aCons (aVar 5) aNil))))))
  (sRet (aIf (aT (aOp2 gEq (aVar 0) (aK (.str "")))) (aTup aNil) (aCall gTuple (aCons (aVar 2) aNil))))))
def m_all_in : List S → Res E := runF 2 4 b_all_in
/-- read_run: 0 text -/
def b_read_run : List S → Res Fl := (sRet (aFn m_all_in (aCons (aVar 0) (aCons (aK (.fn "event_in")) aNil))))
def m_read_run : List S → Res E := runF 1 0 b_read_run
/-- read_history: 0 text, 1 history -/
def b_read_history : List S → Res Fl := (sSeq (sSet1 1 (aFn m_all_in (aCons (aVar 0) (aCons (aK (.fn "record_in")) aNil))))
  (sSeq (sIf (aNotT (aT (aFn m_is_history (aCons (aVar 1) aNil)))) sNo sNx)
  (sRet (aVar 1))))
def m_read_history : List S → Res E := runF 1 1 b_read_history
/-- _law_jar: 0 _law_script, 1 _law_k, 2 _law_cell, 3 _law_mine -/
def b__law_jar : List S → Res Fl := (sSeq (sSet1 2 (aIf (aT (aOp2 gLt (aVar 1) (aCall gLen (aCons (aVar 0) aNil)))) (aOp2 gIx (aVar 0) (aVar 1)) (aOp2 gAdd (aOp2 gMul (aK (.int 29)) (aVar 1)) (aK (.int 11)))))
  (sSeq (sSet1 3 (aOp2 gMul (aOp2 gMod (aCall gInt (aCons (aCall gAbs (aCons (aVar 2) aNil)) aNil)) (aOp2 gPow (aOp2 gPow (aK (.int 10)) (aK (.int 60))) (aK (.int 5)))) (aCall gInt (aCons (aOp2 gGe (aCall gAbs (aCons (aVar 2) aNil)) (aOp2 gPow (aK (.int 10)) (aK (.int 18)))) aNil))))
  (sRet (aLst (aCons (aVar 3) (aCons (aOp2 gMod (aCall gInt (aCons (aOp2 gAdd (aOp2 gAdd (aOp2 gMul (aOp2 gMod (aCall gInt (aCons (aVar 2) aNil)) (aK (.int 2305843009213693951))) (aK (.int 70843))) (aOp2 gMul (aOp2 gMul (aK (.int 8521)) (aVar 1)) (aVar 1))) (aK (.int 41))) aNil)) (aK (.int 2305843009213693921))) (aCons (aK (.int 0)) aNil)))))))
def m__law_jar : List S → Res E := runF 2 2 b__law_jar
/-- _law_take: 0 _law_jar_here, 1 _law_many, 2 _law_digit, 3 _law_prime, 4 _law_made -/
def b__law_take : List S → Res Fl := (sSeq (sIf (aT (aOp2 gGt (aOp2 gIx (aVar 0) (aK (.int 0))) (aK (.int 0)))) (sSeq (sSet1 2 (aOp2 gMod (aCall gInt (aCons (aOp2 gIx (aVar 0) (aK (.int 0))) aNil)) (aVar 1)))
  (sSeq (sPut 0 (aK (.int 0)) (aOp2 gDiv (aOp2 gIx (aVar 0) (aK (.int 0))) (aVar 1)))
  (sRet (aVar 2)))) sNx)
  (sSeq (sPut 0 (aK (.int 2)) (aOp2 gAdd (aOp2 gIx (aVar 0) (aK (.int 2))) (aK (.int 1))))
  (sSeq (sSet1 3 (aOp2 gIx (aLst (aCons (aK (.int 2147483647)) (aCons (aK (.int 2147483629)) (aCons (aK (.int 2147483587)) (aCons (aK (.int 2147483579)) (aCons (aK (.int 2147483563)) aNil)))))) (aOp2 gMod (aCall gInt (aCons (aOp2 gIx (aVar 0) (aK (.int 2))) aNil)) (aK (.int 5)))))
  (sSeq (sSet1 4 (aOp2 gMod (aCall gInt (aCons (aOp2 gPow (aOp2 gAdd (aOp2 gAdd (aOp2 gIx (aVar 0) (aK (.int 1))) (aOp2 gMul (aOp2 gMul (aK (.int 99877)) (aOp2 gIx (aVar 0) (aK (.int 2)))) (aOp2 gIx (aVar 0) (aK (.int 2))))) (aK (.int 71))) (aK (.int 3))) aNil)) (aVar 3)))
  (sSeq (sSet1 4 (aOp2 gMod (aCall gInt (aCons (aOp2 gMul (aVar 4) (aOp2 gAdd (aOp2 gMod (aCall gInt (aCons (aVar 4) aNil)) (aK (.int 10007))) (aOp2 gMul (aK (.int 89)) (aOp2 gIx (aVar 0) (aK (.int 2)))))) aNil)) (aK (.int 2305843009213693907))))
  (sRet (aOp2 gMod (aCall gInt (aCons (aOp2 gDiv (aVar 4) (aK (.int 83))) aNil)) (aVar 1))))))))
def m__law_take : List S → Res E := runF 2 3 b__law_take
/-- _law_of: 0 _law_jar_here, 1 _law_some -/
def b__law_of : List S → Res Fl := (sRet (aOp2 gIx (aVar 1) (aFn m__law_take (aCons (aVar 0) (aCons (aCall gLen (aCons (aVar 1) aNil)) aNil)))))
def m__law_of : List S → Res E := runF 2 0 b__law_of
/-- _law_names: 0 _law_jar_here, 1 _law_many, 2 _law_small, 3 _law_stem, 4 _law_turn, 5 _law_spot, 6 _law_first, 7 _law_k -/
def b__law_names : List S → Res Fl := (sSeq (sSet1 2 (aK (.str "abcdefghijklmnopqrstuvwxyz")))
  (sSeq (sSet1 3 (aMeth "str" gJoin (aK (.str "")) (aCons (aLc [4] (aRng1 (aCons (aFn m__law_of (aCons (aVar 0) (aCons (aLst (aCons (aK (.int 0)) (aCons (aK (.int 0)) (aCons (aK (.int 1)) (aCons (aK (.int 3)) (aCons (aK (.int 7)) aNil)))))) aNil))) aNil)) (.nm 4) aYes (aFn m__law_of (aCons (aVar 0) (aCons (aVar 2) aNil)))) aNil)))
  (sSeq (sSet [5, 6] (aCons (aFn m__law_take (aCons (aVar 0) (aCons (aOp2 gAdd (aCall gLen (aCons (aVar 3) aNil)) (aK (.int 1))) aNil))) (aCons (aFn m__law_take (aCons (aVar 0) (aCons (aK (.int 26)) aNil))) aNil)))
  (sRet (aLc [7] (aRng1 (aCons (aVar 1) aNil)) (.nm 7) aYes (aOp2 gAdd (aOp2 gAdd (aSlice (aVar 3) aPartN (aPart (aVar 5))) (aOp2 gIx (aVar 2) (aOp2 gMod (aCall gInt (aCons (aOp2 gAdd (aVar 6) (aOp2 gMul (aK (.int 3)) (aVar 7))) aNil)) (aK (.int 26))))) (aSlice (aVar 3) (aPart (aVar 5)) aPartN)))))))
def m__law_names : List S → Res E := runF 2 6 b__law_names
/-- _law_events: 0 _law_jar_here, 1 _law_names_here, 2 _law_found, 3 _law_turn, 4 _law_word, 5 _law_number -/
def b__law_events : List S → Res Fl := (sSeq (sSet1 2 (aLst aNil))
  (sSeq (sFor (aRng1 (aCons (aFn m__law_take (aCons (aVar 0) (aCons (aK (.int 30)) aNil))) aNil)) (.nm 3) (sSeq (sSet1 4 (aFn m__law_of (aCons (aVar 0) (aCons (aLst (aCons (aK (.str "begin")) (aCons (aK (.str "step")) (aCons (aK (.str "stay")) (aCons (aK (.str "leave")) (aCons (aK (.str "come")) (aCons (aK (.str "lapse")) aNil))))))) aNil))))
  (sSeq (sSet1 5 (aFn m__law_of (aCons (aVar 0) (aCons (aLst (aCons (aK (.int 0)) (aCons (aK (.int 1)) (aCons (aK (.int 9)) (aCons (aK (.int 10)) (aCons (aOp2 gPow (aK (.int 10)) (aK (.int 17))) (aCons (aFn m__law_take (aCons (aVar 0) (aCons (aOp2 gPow (aK (.int 10)) (aK (.int 18))) aNil))) aNil))))))) aNil))))
  (sExpr (aMut "list" 2 uAppend (aCons (aTup (aCons (aVar 4) (aCons (aIf (aT (aOp2 gEq (aVar 4) (aK (.str "begin")))) (aFn m__law_of (aCons (aVar 0) (aCons (aVar 1) aNil))) (aVar 5)) aNil))) aNil))))))
  (sRet (aCall gTuple (aCons (aVar 2) aNil)))))
def m__law_events : List S → Res E := runF 2 4 b__law_events
/-- _law_answer: 0 _law_jar_here, 1 _law_sort, 2 _law_some -/
def b__law_answer : List S → Res Fl := (sSeq (sSet1 2 (aDict [("put", (aLst (aCons (aK (.str "done")) (aCons (aK (.str "refused")) (aCons (aK (.str "again")) aNil))))), ("drop", (aLst (aCons (aK (.str "done")) (aCons (aK (.str "none")) (aCons (aK (.str "again")) aNil))))), ("look", (aLst (aCons (aK (.str "there")) (aCons (aK (.str "none")) (aCons (aK (.str "again")) aNil)))))]))
  (sRet (aFn m__law_of (aCons (aVar 0) (aCons (aOp2 gIx (aVar 2) (aVar 1)) aNil)))))
def m__law_answer : List S → Res E := runF 2 1 b__law_answer
/-- _law_book: 0 _law_jar_here, 1 _law_names_here, 2 _law_found, 3 _law_left, 4 _law_now, 5 _law_many, 6 _law_turn, 7 _law_key, 8 _law_at, 9 _law_begin, 10 _law_end, 11 _law_sort, 12 _law_answer_here -/
def b__law_book : List S → Res Fl := (sSeq (sSet [2, 3, 4, 5] (aCons (aLst aNil) (aCons (aLst aNil) (aCons (aK (.int 0)) (aCons aDict0 aNil)))))
  (sSeq (sFor (aRng1 (aCons (aFn m__law_take (aCons (aVar 0) (aCons (aK (.int 49)) aNil))) aNil)) (.nm 6) (sSeq (sSet1 4 (aOp2 gAdd (aVar 4) (aFn m__law_of (aCons (aVar 0) (aCons (aLst (aCons (aK (.int 1)) (aCons (aK (.int 1)) (aCons (aK (.int 2)) (aCons (aOp2 gPow (aK (.int 10)) (aK (.int 9))) aNil))))) aNil)))))
  (sSeq (sSet1 7 (aFn m__law_of (aCons (aVar 0) (aCons (aVar 1) aNil))))
  (sIf (aAndT (aT (aOp2 gEq (aFn m__law_take (aCons (aVar 0) (aCons (aK (.int 2)) aNil))) (aK (.int 0)))) (aAndT (aT (aOp2 gLt (aCall gLen (aCons (aVar 2) aNil)) (aK (.int 24)))) (aT (aOp2 gLt (aMeth "dict" gGet (aVar 5) (aCons (aVar 7) (aCons (aK (.int 0)) aNil))) (aK (.int 8)))))) (sSeq (sPut 5 (aVar 7) (aOp2 gAdd (aMeth "dict" gGet (aVar 5) (aCons (aVar 7) (aCons (aK (.int 0)) aNil))) (aK (.int 1))))
  (sSeq (sExpr (aMut "list" 3 uAppend (aCons (aCall gLen (aCons (aVar 2) aNil)) aNil)))
  (sExpr (aMut "list" 2 uAppend (aCons (aTup (aCons (aVar 4) (aCons (aK .non) (aCons (aVar 7) (aCons (aFn m__law_of (aCons (aVar 0) (aCons (aLst (aCons (aK (.str "put")) (aCons (aK (.str "drop")) (aCons (aK (.str "look")) aNil)))) aNil))) (aCons (aK .non) aNil)))))) aNil))))) (sIf (aT (aOp2 gNe (aVar 3) (aLst aNil))) (sSeq (sSet1 8 (aMut "list" 3 uPopAt (aCons (aFn m__law_take (aCons (aVar 0) (aCons (aCall gLen (aCons (aVar 3) aNil)) aNil))) aNil)))
  (sSeq (sTg (.tp [(.nm 9), (.nm 10), (.nm 7), (.nm 11), (.nm 12)]) (aOp2 gIx (aVar 2) (aVar 8)))
  (sPut 2 (aVar 8) (aTup (aCons (aVar 9) (aCons (aVar 4) (aCons (aVar 7) (aCons (aVar 11) (aCons (aFn m__law_answer (aCons (aVar 0) (aCons (aVar 11) aNil))) aNil))))))))) sNx)))))
  (sRet (aCall gTuple (aCons (aVar 2) aNil)))))
def m__law_book : List S → Res E := runF 2 11 b__law_book
/-- _law_lines: 0 _law_rows, 1 _law_part, 2 _law_row -/
def b__law_lines : List S → Res Fl := (sRet (aMeth "str" gJoin (aK (.str "\n")) (aCons (aLc [2] (aIter (aVar 0)) (.nm 2) aYes (aMeth "str" gJoin (aK (.str " ")) (aCons (aLc [1] (aIter (aVar 2)) (.nm 1) aYes (aIf (aT (aOp2 gIs (aVar 1) (aK .non))) (aK (.str "-")) (aCall gStr (aCons (aVar 1) aNil)))) aNil))) aNil)))
def m__law_lines : List S → Res E := runF 1 2 b__law_lines
/-- _law_run_right: 0 _law_jar_here, 1 _law_names_here, 2 _law_walk, 3 _law_page -/
def b__law_run_right : List S → Res Fl := (sSeq (sSet1 2 (aFn m__law_events (aCons (aVar 0) (aCons (aVar 1) aNil))))
  (sSeq (sSet1 3 (aFn m__law_lines (aCons (aVar 2) aNil)))
  (sSeq (sIf (aOrT (aT (aOp2 gNe (aFn m_show_run (aCons (aVar 2) aNil)) (aVar 3))) (aT (aOp2 gNe (aFn m_show_run (aCons (aVar 2) aNil)) (aVar 3)))) (sRet (aK (.bl false))) sNx)
  (sRet (aAndV (aOp2 gEq (aCall gRepr (aCons (aFn m_read_run (aCons (aVar 3) aNil)) aNil)) (aCall gRepr (aCons (aVar 2) aNil))) (aOp2 gEq (aCall gRepr (aCons (aFn m_read_run (aCons (aVar 3) aNil)) aNil)) (aCall gRepr (aCons (aVar 2) aNil))))))))
def m__law_run_right : List S → Res E := runF 2 2 b__law_run_right
/-- _law_book_right: 0 _law_jar_here, 1 _law_names_here, 2 _law_book_here, 3 _law_page -/
def b__law_book_right : List S → Res Fl := (sSeq (sSet1 2 (aFn m__law_book (aCons (aVar 0) (aCons (aVar 1) aNil))))
  (sSeq (sSet1 3 (aFn m__law_lines (aCons (aVar 2) aNil)))
  (sSeq (sIf (aOrT (aT (aOp2 gIsn (aFn m_is_history (aCons (aVar 2) aNil)) (aK (.bl true)))) (aOrT (aT (aOp2 gNe (aFn m_show_history (aCons (aVar 2) aNil)) (aVar 3))) (aT (aOp2 gNe (aFn m_show_history (aCons (aVar 2) aNil)) (aVar 3))))) (sRet (aK (.bl false))) sNx)
  (sRet (aAndV (aOp2 gEq (aCall gRepr (aCons (aFn m_read_history (aCons (aVar 3) aNil)) aNil)) (aCall gRepr (aCons (aVar 2) aNil))) (aOp2 gEq (aFn m_read_history (aCons (aVar 3) aNil)) (aVar 2)))))))
def m__law_book_right : List S → Res E := runF 2 2 b__law_book_right
/-- law: 0 _law_script, 1 _law_k, 2 _law_jar_here, 3 _law_names_here, 4 _law_turn -/
def b_law : List S → Res Fl := (sSeq (sIf (aT (aOp2 gNe (aLst (aCons (aFn m_show_run (aCons (aTup aNil) aNil)) (aCons (aFn m_show_history (aCons (aTup aNil) aNil)) (aCons (aFn m_read_run (aCons (aK (.str "")) aNil)) (aCons (aFn m_read_history (aCons (aK (.str "")) aNil)) aNil))))) (aLst (aCons (aK (.str "")) (aCons (aK (.str "")) (aCons (aTup aNil) (aCons (aTup aNil) aNil))))))) (sRet (aK (.bl false))) sNx)
  (sSeq (sFor (aRng1 (aCons (aCall gMax (aCons (aK (.int 1)) (aCons (aCall gMin (aCons (aK (.int 4)) (aCons (aCall gLen (aCons (aVar 0) aNil)) aNil))) aNil))) aNil)) (.nm 1) (sSeq (sSet1 2 (aFn m__law_jar (aCons (aVar 0) (aCons (aVar 1) aNil))))
  (sSeq (sSet1 3 (aFn m__law_names (aCons (aVar 2) (aCons (aOp2 gAdd (aK (.int 1)) (aFn m__law_take (aCons (aVar 2) (aCons (aK (.int 5)) aNil)))) aNil))))
  (sIf (aNotT (aT (aCall gAll (aCons (aLc [4] (aRng1 (aCons (aK (.int 3)) aNil)) (.nm 4) aYes (aAndV (aFn m__law_run_right (aCons (aVar 2) (aCons (aVar 3) aNil))) (aFn m__law_book_right (aCons (aVar 2) (aCons (aVar 3) aNil))))) aNil)))) (sRet (aK (.bl false))) sNx))))
  (sRet (aK (.bl true)))))
def m_law : List S → Res E := runF 1 4 b_law
end L2.AL.K11
namespace L2.AL.K11
open PySem PySem.Spec PyProof.Rows L2 L2.AL
def top (i : Nat) : Stmt := PySem.Challenge.pw_unlikekeys_k11_texts_of_runs_and_histori.main.body.getD i (.Pass ⟨0, 0, 0, 0⟩)
structure Tops (K : PySem.W.Frag) (mg : Str → Option Value) (w : World) : Prop where
  z_abs : mg "abs" = none
  z_all : mg "all" = none
  z_bool : mg "bool" = none
  z_enumerate : mg "enumerate" = none
  z_int : mg "int" = none
  z_isinstance : mg "isinstance" = none
  z_len : mg "len" = none
  z_max : mg "max" = none
  z_min : mg "min" = none
  z_range : mg "range" = none
  z_repr : mg "repr" = none
  z_set : mg "set" = none
  z_sorted : mg "sorted" = none
  z_str : mg "str" = none
  z_tuple : mg "tuple" = none
  c_ANSWERS : GC ⟨K, mg, w⟩ "ANSWERS" c_ANSWERS
  c_BEGIN : GC ⟨K, mg, w⟩ "BEGIN" c_BEGIN
  c_BLANK : GC ⟨K, mg, w⟩ "BLANK" c_BLANK
  c_DIGITS : GC ⟨K, mg, w⟩ "DIGITS" c_DIGITS
  c_FEED : GC ⟨K, mg, w⟩ "FEED" c_FEED
  c_LETTERS : GC ⟨K, mg, w⟩ "LETTERS" c_LETTERS
  c_LONGEST_NAME : GC ⟨K, mg, w⟩ "LONGEST_NAME" c_LONGEST_NAME
  c_MOST_OF_A_KEY : GC ⟨K, mg, w⟩ "MOST_OF_A_KEY" c_MOST_OF_A_KEY
  c_MOST_RECORDS : GC ⟨K, mg, w⟩ "MOST_RECORDS" c_MOST_RECORDS
  c_NOTHING : GC ⟨K, mg, w⟩ "NOTHING" c_NOTHING
  c_NUMBER_EVENTS : GC ⟨K, mg, w⟩ "NUMBER_EVENTS" c_NUMBER_EVENTS
  c_PAIR_reading : GC ⟨K, mg, w⟩ "PAIR_reading" c_PAIR_reading
  c_PAIR_showing : GC ⟨K, mg, w⟩ "PAIR_showing" c_PAIR_showing
  c_RECORD : GC ⟨K, mg, w⟩ "RECORD" c_RECORD
  c_RECORD_WORDS : GC ⟨K, mg, w⟩ "RECORD_WORDS" c_RECORD_WORDS
section
variable {P : Program} {w : World} {K : PySem.W.Frag} {mg : Str → Option Value} {base : Heap}
theorem sc_is_integer : FnScope ["value"] ["value"] (defScope (top 8)) := ⟨rfl, rfl, rfl, by decide +kernel, rfl, by decide +kernel, by decide +kernel⟩
theorem fg_is_integer (T : Tops K mg w) {a : Addr} {fd : FuncData} (F : Fun K "is_integer" "is_integer" (top 8) a fd) : FnG P w K mg base CX0 1 a fd ["value"] m_is_integer := by
  refine FnG.ofN F sc_is_integer 1 0 rfl rfl ?_
  intro cd A up s0 H Ex hg hr
  have sc := sc_is_integer
  have r : Rm _ 0 := ⟨hg, hr⟩
  exact (s_one (s_ret (a_andV (a_callB call_isi isi_snd T.z_isinstance PyProof.Rows.boot_isinstance (a_cons (a_var 0 rfl) (a_cons (a_ty T.z_int PyProof.Rows.boot_int) a_nil))) (a_one (a_notV (a_callB call_isi isi_snd T.z_isinstance PyProof.Rows.boot_isinstance (a_cons (a_var 0 rfl) (a_cons (a_ty T.z_bool PyProof.Rows.boot_bool) a_nil))))))))
theorem w_is_integer (T : Tops K mg w) {a : Addr} {fd : FuncData} (F : Fun K "is_integer" "is_integer" (top 8) a fd) (hm : mg "is_integer" = some (.ref a)) : DefOk P w K mg base "is_integer" ["value"] 1 m_is_integer :=
  ⟨⟨a, fd, hm, F.kp, F.binds fun _ _ _ _ _ _ us hl => (match us, hl with | [_], _ => rfl), kwB_of F fun _ _ _ _ _ _ us hl => (match us, hl with | [_], _ => rfl), fg_is_integer T F⟩, len_runF⟩
theorem sc_is_name : FnScope ["value", "sign"] ["value"] (defScope (top 9)) := ⟨rfl, rfl, rfl, by decide +kernel, rfl, by decide +kernel, by decide +kernel⟩
theorem fg_is_name (T : Tops K mg w) {a : Addr} {fd : FuncData} (F : Fun K "is_name" "is_name" (top 9) a fd) : FnG P w K mg base CX0 1 a fd ["value"] m_is_name := by
  refine FnG.ofN F sc_is_name 1 1 rfl rfl ?_
  intro cd A up s0 H Ex hg hr
  have sc := sc_is_name
  have r : Rm _ 0 := ⟨hg, hr⟩
  exact (s_cons (s_if (PW.pt (a_orT (a_notT (a_tval (a_callB call_isi isi_snd T.z_isinstance PyProof.Rows.boot_isinstance (a_cons (a_var 0 rfl) (a_cons (a_ty T.z_str PyProof.Rows.boot_str) a_nil))))) (a_or1 (a_notT (a_tchain op_leA op_leA le_snd le_snd le_bl a_int (a_callB call_lenA len_snd T.z_len PySem.boot_len (a_cons (a_var 0 rfl) a_nil)) (a_glob T.c_LONGEST_NAME)))))) (s_one (s_ret a_bl)) s_nil)
    (s_one (s_ret (a_callB (cr_all rfl) all_snd T.z_all PyProof.Rows.boot_all (a_cons (a_lc (own := [("sign", 1)]) (vs := [1]) rfl sc.nd (blkOk_by (by rfl)) rfl (okT_of (by rfl)) (i_seq (a_var 0 rfl)) (fun _ _ _ _ _ => (g_nm sc.nd rfl (by first | exact Or.inl rfl | exact Or.inr rfl))) (fun _ _ _ _ _ => c_yes) (fun _ _ _ _ _ => (a_cmp (op_inA r.u) in_snd (a_var 1 rfl) (a_glob T.c_LETTERS)))) a_nil)))))
theorem w_is_name (T : Tops K mg w) {a : Addr} {fd : FuncData} (F : Fun K "is_name" "is_name" (top 9) a fd) (hm : mg "is_name" = some (.ref a)) : DefOk P w K mg base "is_name" ["value"] 1 m_is_name :=
  ⟨⟨a, fd, hm, F.kp, F.binds fun _ _ _ _ _ _ us hl => (match us, hl with | [_], _ => rfl), kwB_of F fun _ _ _ _ _ _ us hl => (match us, hl with | [_], _ => rfl), fg_is_name T F⟩, len_runF⟩
theorem sc_is_record : FnScope ["value", "begin", "end", "key", "sort", "answer"] ["value"] (defScope (top 17)) := ⟨rfl, rfl, rfl, by decide +kernel, rfl, by decide +kernel, by decide +kernel⟩
theorem fg_is_record (T : Tops K mg w) (d_is_name : DefOk P w K mg base "is_name" ["value"] 1 m_is_name) (d_is_integer : DefOk P w K mg base "is_integer" ["value"] 1 m_is_integer) {a : Addr} {fd : FuncData} (F : Fun K "is_record" "is_record" (top 17) a fd) : FnG P w K mg base CX0 2 a fd ["value"] m_is_record := by
  refine FnG.ofN F sc_is_record 1 5 rfl rfl ?_
  intro cd A up s0 H Ex hg hr
  have sc := sc_is_record
  have r : Rm _ 1 := ⟨hg, hr⟩
  exact (s_cons (s_if (PW.pt (a_orT (a_notT (a_tval (a_callB call_isi isi_snd T.z_isinstance PyProof.Rows.boot_isinstance (a_cons (a_var 0 rfl) (a_cons (a_ty T.z_tuple PyProof.Rows.boot_tuple) a_nil))))) (a_or1 (a_tcmp (op_neA r.u) ne_snd (a_callB call_lenA len_snd T.z_len PySem.boot_len (a_cons (a_var 0 rfl) a_nil)) (a_glob T.c_RECORD))))) (s_one (s_ret a_bl)) s_nil)
    (s_cons (s_tg (a_var 0 rfl) (g_tp rfl (g_cons (g_nm sc.nd rfl (by first | exact Or.inl rfl | exact Or.inr rfl)) (g_cons (g_nm sc.nd rfl (by first | exact Or.inl rfl | exact Or.inr rfl)) (g_cons (g_nm sc.nd rfl (by first | exact Or.inl rfl | exact Or.inr rfl)) (g_cons (g_nm sc.nd rfl (by first | exact Or.inl rfl | exact Or.inr rfl)) (g_cons (g_nm sc.nd rfl (by first | exact Or.inl rfl | exact Or.inr rfl)) g_nil)))))) (offT_of (by rfl)))
    (s_cons (s_if (PW.pt (a_orT (a_notT (a_tval (c_fn d_is_integer r (by decide) (a_cons (a_var 1 rfl) a_nil)))) (a_orT (a_tcmp op_ltA lt_snd (a_var 1 rfl) a_int) (a_orT (a_notT (a_tval (c_fn d_is_name r (by decide) (a_cons (a_var 3 rfl) a_nil)))) (a_orT (a_notT (a_tval (a_callB call_isi isi_snd T.z_isinstance PyProof.Rows.boot_isinstance (a_cons (a_var 4 rfl) (a_cons (a_ty T.z_str PyProof.Rows.boot_str) a_nil))))) (a_or1 (a_tcmp (op_niA r.u) ni_snd (a_var 4 rfl) (a_glob T.c_ANSWERS)))))))) (s_one (s_ret a_bl)) s_nil)
    (s_cons (s_if (a_tcmp op_isA is_snd (a_var 2 rfl) a_non) (s_one (s_ret (a_cmp op_isA is_snd (a_var 5 rfl) a_non))) s_nil)
    (s_one (s_ret (a_andV (c_fn d_is_integer r (by decide) (a_cons (a_var 2 rfl) a_nil)) (a_andV (a_cmp op_ltA lt_snd (a_var 1 rfl) (a_var 2 rfl)) (a_andV (a_callB call_isi isi_snd T.z_isinstance PyProof.Rows.boot_isinstance (a_cons (a_var 5 rfl) (a_cons (a_ty T.z_str PyProof.Rows.boot_str) a_nil))) (a_one (a_cmp (op_inA r.u) in_snd (a_var 5 rfl) (a_ix (ix_any r.u) ix_snd (a_glob T.c_ANSWERS) (a_var 4 rfl)))))))))))))
theorem w_is_record (T : Tops K mg w) (d_is_name : DefOk P w K mg base "is_name" ["value"] 1 m_is_name) (d_is_integer : DefOk P w K mg base "is_integer" ["value"] 1 m_is_integer) {a : Addr} {fd : FuncData} (F : Fun K "is_record" "is_record" (top 17) a fd) (hm : mg "is_record" = some (.ref a)) : DefOk P w K mg base "is_record" ["value"] 2 m_is_record :=
  ⟨⟨a, fd, hm, F.kp, F.binds fun _ _ _ _ _ _ us hl => (match us, hl with | [_], _ => rfl), kwB_of F fun _ _ _ _ _ _ us hl => (match us, hl with | [_], _ => rfl), fg_is_record T d_is_name d_is_integer F⟩, len_runF⟩
theorem sc_is_history : FnScope ["value", "one", "begins", "keys", "record", "times", "key"] ["value"] (defScope (top 18)) := ⟨rfl, rfl, rfl, by decide +kernel, rfl, by decide +kernel, by decide +kernel⟩
theorem fg_is_history (T : Tops K mg w) (d_is_record : DefOk P w K mg base "is_record" ["value"] 2 m_is_record) {a : Addr} {fd : FuncData} (F : Fun K "is_history" "is_history" (top 18) a fd) : FnG P w K mg base CX0 3 a fd ["value"] m_is_history := by
  refine FnG.ofN F sc_is_history 1 6 rfl rfl ?_
  intro cd A up s0 H Ex hg hr
  have sc := sc_is_history
  have r : Rm _ 2 := ⟨hg, hr⟩
  exact (s_cons (s_if (PW.pt (a_orT (a_notT (a_tval (a_callB call_isi isi_snd T.z_isinstance PyProof.Rows.boot_isinstance (a_cons (a_var 0 rfl) (a_cons (a_ty T.z_tuple PyProof.Rows.boot_tuple) a_nil))))) (a_orT (a_tcmp op_gt gt_snd (a_callB call_lenA len_snd T.z_len PySem.boot_len (a_cons (a_var 0 rfl) a_nil)) (a_glob T.c_MOST_RECORDS)) (a_or1 (a_notT (a_tval (a_callB (cr_all rfl) all_snd T.z_all PyProof.Rows.boot_all (a_cons (a_lc (own := [("one", 1)]) (vs := [1]) rfl sc.nd (blkOk_by (by rfl)) rfl (okT_of (by rfl)) (i_seq (a_var 0 rfl)) (fun _ _ _ _ _ => (g_nm sc.nd rfl (by first | exact Or.inl rfl | exact Or.inr rfl))) (fun _ _ _ _ _ => c_yes) (fun _ _ _ _ _ => (c_fn d_is_record r (by decide) (a_cons (a_var 1 rfl) a_nil)))) a_nil)))))))) (s_one (s_ret a_bl)) s_nil)
    (s_cons (s_parN (is := [2, 3]) rfl (pgs_cons (pg_name (i := 2) sc.nd rfl (by first | exact Or.inl rfl | exact Or.inr rfl)) (pgs_cons (pg_name (i := 3) sc.nd rfl (by first | exact Or.inl rfl | exact Or.inr rfl)) pgs_nil)) (a_cons (a_lc (own := [("record", 4)]) (vs := [4]) rfl sc.nd (blkOk_by (by rfl)) rfl (okT_of (by rfl)) (i_seq (a_var 0 rfl)) (fun _ _ _ _ _ => (g_nm sc.nd rfl (by first | exact Or.inl rfl | exact Or.inr rfl))) (fun _ _ _ _ _ => c_yes) (fun _ _ _ _ _ => (a_ix (ix_any r.u) ix_snd (a_var 4 rfl) a_int))) (a_cons (a_lc (own := [("record", 4)]) (vs := [4]) rfl sc.nd (blkOk_by (by rfl)) rfl (okT_of (by rfl)) (i_seq (a_var 0 rfl)) (fun _ _ _ _ _ => (g_nm sc.nd rfl (by first | exact Or.inl rfl | exact Or.inr rfl))) (fun _ _ _ _ _ => c_yes) (fun _ _ _ _ _ => (a_ix (ix_any r.u) ix_snd (a_var 4 rfl) a_int))) a_nil)) (by decide))
    (s_cons (s_set (i := 5) sc.nd rfl (a_bin op_addA add_snd (a_var 2 rfl) (a_lc (own := [("record", 4)]) (vs := [4]) rfl sc.nd (blkOk_by (by rfl)) rfl (okT_of (by rfl)) (i_seq (a_var 0 rfl)) (fun _ _ _ _ _ => (g_nm sc.nd rfl (by first | exact Or.inl rfl | exact Or.inr rfl))) (fun _ _ _ _ _ => c_one (a_tcmp op_isnA isn_snd (a_ix (ix_any r.u) ix_snd (a_var 4 rfl) a_int) a_non)) (fun _ _ _ _ _ => (a_ix (ix_any r.u) ix_snd (a_var 4 rfl) a_int)))))
    (s_cons (s_if (PW.pt (a_orT (a_tcmp (op_neA r.u) ne_snd (a_var 2 rfl) (a_callB cr_sortedI sorted_snd T.z_sorted PyProof.Rows.boot_sorted (a_cons (a_var 2 rfl) a_nil))) (a_or1 (a_tcmp (op_neA r.u) ne_snd (a_lenset rfl T.z_len T.z_set (a_cons (a_var 5 rfl) a_nil)) (a_callB call_lenA len_snd T.z_len PySem.boot_len (a_cons (a_var 5 rfl) a_nil)))))) (s_one (s_ret a_bl)) s_nil)
    (s_one (s_ret (a_callB (cr_all rfl) all_snd T.z_all PyProof.Rows.boot_all (a_cons (a_lc (own := [("key", 6)]) (vs := [6]) rfl sc.nd (blkOk_by (by rfl)) rfl (okT_of (by rfl)) (i_seq (a_var 3 rfl)) (fun _ _ _ _ _ => (g_nm sc.nd rfl (by first | exact Or.inl rfl | exact Or.inr rfl))) (fun _ _ _ _ _ => c_yes) (fun _ _ _ _ _ => (a_cmp op_leA le_snd (a_meth (by decide) PySem.F.plainAttrs_list PySem.F.slot_list_count PySem.F.type_list_count mt_countF count_snd (a_var 3 rfl) (a_cons (a_var 6 rfl) a_nil)) (a_glob T.c_MOST_OF_A_KEY)))) a_nil))))))))
theorem w_is_history (T : Tops K mg w) (d_is_record : DefOk P w K mg base "is_record" ["value"] 2 m_is_record) {a : Addr} {fd : FuncData} (F : Fun K "is_history" "is_history" (top 18) a fd) (hm : mg "is_history" = some (.ref a)) : DefOk P w K mg base "is_history" ["value"] 3 m_is_history :=
  ⟨⟨a, fd, hm, F.kp, F.binds fun _ _ _ _ _ _ us hl => (match us, hl with | [_], _ => rfl), kwB_of F fun _ _ _ _ _ _ us hl => (match us, hl with | [_], _ => rfl), fg_is_history T d_is_record F⟩, len_runF⟩
theorem sc_line_of : FnScope ["words", "word"] ["words"] (defScope (top 26)) := ⟨rfl, rfl, rfl, by decide +kernel, rfl, by decide +kernel, by decide +kernel⟩
theorem fg_line_of (T : Tops K mg w) {a : Addr} {fd : FuncData} (F : Fun K "line_of" "line_of" (top 26) a fd) : FnG P w K mg base CX0 1 a fd ["words"] m_line_of := by
  refine FnG.ofN F sc_line_of 1 1 rfl rfl ?_
  intro cd A up s0 H Ex hg hr
  have sc := sc_line_of
  have r : Rm _ 0 := ⟨hg, hr⟩
  exact (s_one (s_ret (a_meth (by decide) PySem.F.plainAttrs_str PySem.F.slot_str_join PySem.F.type_str_join mt_join join_snd (a_glob T.c_BLANK) (a_cons (a_lc (own := [("word", 1)]) (vs := [1]) rfl sc.nd (blkOk_by (by rfl)) rfl (okT_of (by rfl)) (i_seq (a_var 0 rfl)) (fun _ _ _ _ _ => (g_nm sc.nd rfl (by first | exact Or.inl rfl | exact Or.inr rfl))) (fun _ _ _ _ _ => c_yes) (fun _ _ _ _ _ => (a_callT call_strA str_snd T.z_str PyProof.Rows.boot_str (a_cons (a_var 1 rfl) a_nil)))) a_nil))))
theorem w_line_of (T : Tops K mg w) {a : Addr} {fd : FuncData} (F : Fun K "line_of" "line_of" (top 26) a fd) (hm : mg "line_of" = some (.ref a)) : DefOk P w K mg base "line_of" ["words"] 1 m_line_of :=
  ⟨⟨a, fd, hm, F.kp, F.binds fun _ _ _ _ _ _ us hl => (match us, hl with | [_], _ => rfl), kwB_of F fun _ _ _ _ _ _ us hl => (match us, hl with | [_], _ => rfl), fg_line_of T F⟩, len_runF⟩
theorem sc_is_count : FnScope ["value"] ["value"] (defScope (top 27)) := ⟨rfl, rfl, rfl, by decide +kernel, rfl, by decide +kernel, by decide +kernel⟩
theorem fg_is_count (T : Tops K mg w) {a : Addr} {fd : FuncData} (F : Fun K "is_count" "is_count" (top 27) a fd) : FnG P w K mg base CX0 1 a fd ["value"] m_is_count := by
  refine FnG.ofN F sc_is_count 1 0 rfl rfl ?_
  intro cd A up s0 H Ex hg hr
  have sc := sc_is_count
  have r : Rm _ 0 := ⟨hg, hr⟩
  exact (s_one (s_ret (a_andV (a_callB call_isi isi_snd T.z_isinstance PyProof.Rows.boot_isinstance (a_cons (a_var 0 rfl) (a_cons (a_ty T.z_int PyProof.Rows.boot_int) a_nil))) (a_andV (a_notV (a_callB call_isi isi_snd T.z_isinstance PyProof.Rows.boot_isinstance (a_cons (a_var 0 rfl) (a_cons (a_ty T.z_bool PyProof.Rows.boot_bool) a_nil)))) (a_one (a_cmp op_ge ge_snd (a_var 0 rfl) a_int))))))
theorem w_is_count (T : Tops K mg w) {a : Addr} {fd : FuncData} (F : Fun K "is_count" "is_count" (top 27) a fd) (hm : mg "is_count" = some (.ref a)) : DefOk P w K mg base "is_count" ["value"] 1 m_is_count :=
  ⟨⟨a, fd, hm, F.kp, F.binds fun _ _ _ _ _ _ us hl => (match us, hl with | [_], _ => rfl), kwB_of F fun _ _ _ _ _ _ us hl => (match us, hl with | [_], _ => rfl), fg_is_count T F⟩, len_runF⟩
theorem sc_has_event_form : FnScope ["value"] ["value"] (defScope (top 28)) := ⟨rfl, rfl, rfl, by decide +kernel, rfl, by decide +kernel, by decide +kernel⟩
theorem fg_has_event_form (T : Tops K mg w) (d_is_name : DefOk P w K mg base "is_name" ["value"] 1 m_is_name) (d_is_count : DefOk P w K mg base "is_count" ["value"] 1 m_is_count) {a : Addr} {fd : FuncData} (F : Fun K "has_event_form" "has_event_form" (top 28) a fd) : FnG P w K mg base CX0 2 a fd ["value"] m_has_event_form := by
  refine FnG.ofN F sc_has_event_form 1 0 rfl rfl ?_
  intro cd A up s0 H Ex hg hr
  have sc := sc_has_event_form
  have r : Rm _ 1 := ⟨hg, hr⟩
  exact (s_cons (s_if (PW.pt (a_orT (a_notT (a_tval (a_callB call_isi isi_snd T.z_isinstance PyProof.Rows.boot_isinstance (a_cons (a_var 0 rfl) (a_cons (a_ty T.z_tuple PyProof.Rows.boot_tuple) a_nil))))) (a_orT (a_tcmp (op_neA r.u) ne_snd (a_callB call_lenA len_snd T.z_len PySem.boot_len (a_cons (a_var 0 rfl) a_nil)) (a_glob T.c_PAIR_showing)) (a_or1 (a_notT (a_tval (a_callB call_isi isi_snd T.z_isinstance PyProof.Rows.boot_isinstance (a_cons (a_ix (ix_any r.u) ix_snd (a_var 0 rfl) a_int) (a_cons (a_ty T.z_str PyProof.Rows.boot_str) a_nil))))))))) (s_one (s_ret a_bl)) s_nil)
    (s_cons (s_if (a_tcmp (op_eqA r.u) eq_snd (a_ix (ix_any r.u) ix_snd (a_var 0 rfl) a_int) (a_glob T.c_BEGIN)) (s_one (s_ret (c_fn d_is_name r (by decide) (a_cons (a_ix (ix_any r.u) ix_snd (a_var 0 rfl) a_int) a_nil)))) s_nil)
    (s_one (s_ret (a_andV (a_cmp (op_inA r.u) in_snd (a_ix (ix_any r.u) ix_snd (a_var 0 rfl) a_int) (a_glob T.c_NUMBER_EVENTS)) (a_one (c_fn d_is_count r (by decide) (a_cons (a_ix (ix_any r.u) ix_snd (a_var 0 rfl) a_int) a_nil))))))))
theorem w_has_event_form (T : Tops K mg w) (d_is_name : DefOk P w K mg base "is_name" ["value"] 1 m_is_name) (d_is_count : DefOk P w K mg base "is_count" ["value"] 1 m_is_count) {a : Addr} {fd : FuncData} (F : Fun K "has_event_form" "has_event_form" (top 28) a fd) (hm : mg "has_event_form" = some (.ref a)) : DefOk P w K mg base "has_event_form" ["value"] 2 m_has_event_form :=
  ⟨⟨a, fd, hm, F.kp, F.binds fun _ _ _ _ _ _ us hl => (match us, hl with | [_], _ => rfl), kwB_of F fun _ _ _ _ _ _ us hl => (match us, hl with | [_], _ => rfl), fg_has_event_form T d_is_name d_is_count F⟩, len_runF⟩
theorem sc_show_run : FnScope ["run", "index", "event"] ["run"] (defScope (top 29)) := ⟨rfl, rfl, rfl, by decide +kernel, rfl, by decide +kernel, by decide +kernel⟩
theorem fg_show_run (T : Tops K mg w) (d_has_event_form : DefOk P w K mg base "has_event_form" ["value"] 2 m_has_event_form) (d_line_of : DefOk P w K mg base "line_of" ["words"] 1 m_line_of) {a : Addr} {fd : FuncData} (F : Fun K "show_run" "show_run" (top 29) a fd) : FnG P w K mg base CX0 3 a fd ["run"] m_show_run := by
  refine FnG.ofN F sc_show_run 1 2 rfl rfl ?_
  intro cd A up s0 H Ex hg hr
  have sc := sc_show_run
  have r : Rm _ 2 := ⟨hg, hr⟩
  exact (s_cons (s_if (a_notT (a_tval (a_callB call_isi isi_snd T.z_isinstance PyProof.Rows.boot_isinstance (a_cons (a_var 0 rfl) (a_cons (a_ty T.z_tuple PyProof.Rows.boot_tuple) a_nil))))) (s_one s_no) s_nil)
    (s_cons (s_for PassesOwn.never rfl (i_enumA rfl T.z_enumerate (a_cons (a_var 0 rfl) a_nil)) (g_tp rfl (g_cons (g_nm sc.nd rfl (by first | exact Or.inl rfl | exact Or.inr rfl)) (g_cons (g_nm sc.nd rfl (by first | exact Or.inl rfl | exact Or.inr rfl)) g_nil))) (s_one (s_if (a_notT (a_tval (c_fn d_has_event_form r (by decide) (a_cons (a_var 2 rfl) a_nil)))) (s_one s_no) s_nil)) (offT_of (by rfl)))
    (s_one (s_ret (a_meth (by decide) PySem.F.plainAttrs_str PySem.F.slot_str_join PySem.F.type_str_join mt_join join_snd (a_glob T.c_FEED) (a_cons (a_lc (own := [("event", 2)]) (vs := [2]) rfl sc.nd (blkOk_by (by rfl)) rfl (okT_of (by rfl)) (i_seq (a_var 0 rfl)) (fun _ _ _ _ _ => (g_nm sc.nd rfl (by first | exact Or.inl rfl | exact Or.inr rfl))) (fun _ _ _ _ _ => c_yes) (fun _ _ _ _ _ => (c_fn d_line_of r (by decide) (a_cons (a_var 2 rfl) a_nil)))) a_nil))))))
theorem w_show_run (T : Tops K mg w) (d_has_event_form : DefOk P w K mg base "has_event_form" ["value"] 2 m_has_event_form) (d_line_of : DefOk P w K mg base "line_of" ["words"] 1 m_line_of) {a : Addr} {fd : FuncData} (F : Fun K "show_run" "show_run" (top 29) a fd) (hm : mg "show_run" = some (.ref a)) : DefOk P w K mg base "show_run" ["run"] 3 m_show_run :=
  ⟨⟨a, fd, hm, F.kp, F.binds fun _ _ _ _ _ _ us hl => (match us, hl with | [_], _ => rfl), kwB_of F fun _ _ _ _ _ _ us hl => (match us, hl with | [_], _ => rfl), fg_show_run T d_has_event_form d_line_of F⟩, len_runF⟩
theorem sc_show_history : FnScope ["history", "lines", "part", "record", "line"] ["history"] (defScope (top 30)) := ⟨rfl, rfl, rfl, by decide +kernel, rfl, by decide +kernel, by decide +kernel⟩
theorem fg_show_history (T : Tops K mg w) (d_is_history : DefOk P w K mg base "is_history" ["value"] 3 m_is_history) (d_line_of : DefOk P w K mg base "line_of" ["words"] 1 m_line_of) {a : Addr} {fd : FuncData} (F : Fun K "show_history" "show_history" (top 30) a fd) : FnG P w K mg base CX0 4 a fd ["history"] m_show_history := by
  refine FnG.ofN F sc_show_history 1 4 rfl rfl ?_
  intro cd A up s0 H Ex hg hr
  have sc := sc_show_history
  have r : Rm _ 3 := ⟨hg, hr⟩
  exact (s_cons (s_if (a_notT (a_tval (c_fn d_is_history r (by decide) (a_cons (a_var 0 rfl) a_nil)))) (s_one s_no) s_nil)
    (s_cons (s_setLc (own := [("record", 3)]) (vs := [3]) rfl sc.nd rfl (sw_true rfl rfl rfl rfl) (blkOk_by (by rfl)) rfl (okT_of (by rfl)) (i_seq (a_var 0 rfl)) (fun _ _ _ _ _ => (g_nm sc.nd rfl (by first | exact Or.inl rfl | exact Or.inr rfl))) (fun _ _ _ _ _ => c_yes) (fun _ _ _ _ _ => (a_lc (own := [("part", 2)]) (vs := [2]) rfl sc.nd (blkOk_by (by rfl)) rfl (okT_of (by rfl)) (i_seq (a_var 3 rfl)) (fun _ _ _ _ _ => (g_nm sc.nd rfl (by first | exact Or.inl rfl | exact Or.inr rfl))) (fun _ _ _ _ _ => c_yes) (fun _ _ _ _ _ => (a_ifx (a_tcmp op_isA is_snd (a_var 2 rfl) a_non) (a_glob T.c_NOTHING) (a_var 2 rfl))))))
    (s_one (s_ret (a_meth (by decide) PySem.F.plainAttrs_str PySem.F.slot_str_join PySem.F.type_str_join mt_join join_snd (a_glob T.c_FEED) (a_cons (a_lc (own := [("line", 4)]) (vs := [4]) rfl sc.nd (blkOk_by (by rfl)) rfl (okT_of (by rfl)) (i_seq (a_var 1 rfl)) (fun _ _ _ _ _ => (g_nm sc.nd rfl (by first | exact Or.inl rfl | exact Or.inr rfl))) (fun _ _ _ _ _ => c_yes) (fun _ _ _ _ _ => (c_fn d_line_of r (by decide) (a_cons (a_var 4 rfl) a_nil)))) a_nil))))))
theorem w_show_history (T : Tops K mg w) (d_is_history : DefOk P w K mg base "is_history" ["value"] 3 m_is_history) (d_line_of : DefOk P w K mg base "line_of" ["words"] 1 m_line_of) {a : Addr} {fd : FuncData} (F : Fun K "show_history" "show_history" (top 30) a fd) (hm : mg "show_history" = some (.ref a)) : DefOk P w K mg base "show_history" ["history"] 4 m_show_history :=
  ⟨⟨a, fd, hm, F.kp, F.binds fun _ _ _ _ _ _ us hl => (match us, hl with | [_], _ => rfl), kwB_of F fun _ _ _ _ _ _ us hl => (match us, hl with | [_], _ => rfl), fg_show_history T d_is_history d_line_of F⟩, len_runF⟩
theorem sc_lines_of : FnScope ["text", "line"] ["text"] (defScope (top 35)) := ⟨rfl, rfl, rfl, by decide +kernel, rfl, by decide +kernel, by decide +kernel⟩
theorem fg_lines_of (T : Tops K mg w) {a : Addr} {fd : FuncData} (F : Fun K "lines_of" "lines_of" (top 35) a fd) : FnG P w K mg base CX0 1 a fd ["text"] m_lines_of := by
  refine FnG.ofN F sc_lines_of 1 1 rfl rfl ?_
  intro cd A up s0 H Ex hg hr
  have sc := sc_lines_of
  have r : Rm _ 0 := ⟨hg, hr⟩
  exact (s_cons (s_if (a_notT (a_tval (a_callB call_isi isi_snd T.z_isinstance PyProof.Rows.boot_isinstance (a_cons (a_var 0 rfl) (a_cons (a_ty T.z_str PyProof.Rows.boot_str) a_nil))))) (s_one s_no) s_nil)
    (s_one (s_ret (a_lc (own := [("line", 1)]) (vs := [1]) rfl sc.nd (blkOk_by (by rfl)) rfl (okT_of (by rfl)) (i_seq (a_meth (by decide) PySem.F.plainAttrs_str PySem.F.slot_str_split PySem.F.type_str_split mt_split split_snd (a_var 0 rfl) (a_cons (a_glob T.c_FEED) a_nil))) (fun _ _ _ _ _ => (g_nm sc.nd rfl (by first | exact Or.inl rfl | exact Or.inr rfl))) (fun _ _ _ _ _ => c_yes) (fun _ _ _ _ _ => (a_meth (by decide) PySem.F.plainAttrs_str PySem.F.slot_str_split PySem.F.type_str_split mt_split split_snd (a_var 1 rfl) (a_cons (a_glob T.c_BLANK) a_nil)))))))
theorem w_lines_of (T : Tops K mg w) {a : Addr} {fd : FuncData} (F : Fun K "lines_of" "lines_of" (top 35) a fd) (hm : mg "lines_of" = some (.ref a)) : DefOk P w K mg base "lines_of" ["text"] 1 m_lines_of :=
  ⟨⟨a, fd, hm, F.kp, F.binds fun _ _ _ _ _ _ us hl => (match us, hl with | [_], _ => rfl), kwB_of F fun _ _ _ _ _ _ us hl => (match us, hl with | [_], _ => rfl), fg_lines_of T F⟩, len_runF⟩
theorem sc_number_in : FnScope ["word", "sign"] ["word"] (defScope (top 36)) := ⟨rfl, rfl, rfl, by decide +kernel, rfl, by decide +kernel, by decide +kernel⟩
theorem fg_number_in (T : Tops K mg w) {a : Addr} {fd : FuncData} (F : Fun K "number_in" "number_in" (top 36) a fd) : FnG P w K mg base CX0 1 a fd ["word"] m_number_in := by
  refine FnG.ofN F sc_number_in 1 1 rfl rfl ?_
  intro cd A up s0 H Ex hg hr
  have sc := sc_number_in
  have r : Rm _ 0 := ⟨hg, hr⟩
  exact (s_cons (s_if (PW.pt (a_orT (a_tcmp (op_eqA r.u) eq_snd (a_var 0 rfl) a_str) (a_orT (a_notT (a_tval (a_callB (cr_all rfl) all_snd T.z_all PyProof.Rows.boot_all (a_cons (a_lc (own := [("sign", 1)]) (vs := [1]) rfl sc.nd (blkOk_by (by rfl)) rfl (okT_of (by rfl)) (i_seq (a_var 0 rfl)) (fun _ _ _ _ _ => (g_nm sc.nd rfl (by first | exact Or.inl rfl | exact Or.inr rfl))) (fun _ _ _ _ _ => c_yes) (fun _ _ _ _ _ => (a_cmp (op_inA r.u) in_snd (a_var 1 rfl) (a_glob T.c_DIGITS)))) a_nil)))) (a_or1 (PW.pt (a_andT (a_tcmp (op_eqA r.u) eq_snd (a_ix (ix_any r.u) ix_snd (a_var 0 rfl) a_int) a_str) (a_and1 (a_tcmp (op_neA r.u) ne_snd (a_var 0 rfl) a_str)))))))) (s_one (s_ret a_non)) s_nil)
    (s_one (s_ret (a_callT call_intA int_snd T.z_int PyProof.Rows.boot_int (a_cons (a_var 0 rfl) a_nil)))))
theorem w_number_in (T : Tops K mg w) {a : Addr} {fd : FuncData} (F : Fun K "number_in" "number_in" (top 36) a fd) (hm : mg "number_in" = some (.ref a)) : DefOk P w K mg base "number_in" ["word"] 1 m_number_in :=
  ⟨⟨a, fd, hm, F.kp, F.binds fun _ _ _ _ _ _ us hl => (match us, hl with | [_], _ => rfl), kwB_of F fun _ _ _ _ _ _ us hl => (match us, hl with | [_], _ => rfl), fg_number_in T F⟩, len_runF⟩
theorem sc_names_in : FnScope ["words", "least", "word"] ["words", "least"] (defScope (top 37)) := ⟨rfl, rfl, rfl, by decide +kernel, rfl, by decide +kernel, by decide +kernel⟩
theorem fg_names_in (T : Tops K mg w) (d_is_name : DefOk P w K mg base "is_name" ["value"] 1 m_is_name) {a : Addr} {fd : FuncData} (F : Fun K "names_in" "names_in" (top 37) a fd) : FnG P w K mg base CX0 2 a fd ["words", "least"] m_names_in := by
  refine FnG.ofN F sc_names_in 2 1 rfl rfl ?_
  intro cd A up s0 H Ex hg hr
  have sc := sc_names_in
  have r : Rm _ 1 := ⟨hg, hr⟩
  exact (s_one (s_ret (a_ifx (PW.pt (a_andT (a_tcmp op_ge ge_snd (a_callB call_lenA len_snd T.z_len PySem.boot_len (a_cons (a_var 0 rfl) a_nil)) (a_var 1 rfl)) (a_and1 (a_tval (a_callB (cr_all rfl) all_snd T.z_all PyProof.Rows.boot_all (a_cons (a_lc (own := [("word", 2)]) (vs := [2]) rfl sc.nd (blkOk_by (by rfl)) rfl (okT_of (by rfl)) (i_seq (a_var 0 rfl)) (fun _ _ _ _ _ => (g_nm sc.nd rfl (by first | exact Or.inl rfl | exact Or.inr rfl))) (fun _ _ _ _ _ => c_yes) (fun _ _ _ _ _ => (c_fn d_is_name r (by decide) (a_cons (a_var 2 rfl) a_nil)))) a_nil)))))) (a_callT call_tuple_of tuple_snd T.z_tuple PyProof.Rows.boot_tuple (a_cons (a_var 0 rfl) a_nil)) a_non)))
theorem w_names_in (T : Tops K mg w) (d_is_name : DefOk P w K mg base "is_name" ["value"] 1 m_is_name) {a : Addr} {fd : FuncData} (F : Fun K "names_in" "names_in" (top 37) a fd) (hm : mg "names_in" = some (.ref a)) : DefOk P w K mg base "names_in" ["words", "least"] 2 m_names_in :=
  ⟨⟨a, fd, hm, F.kp, F.binds fun _ _ _ _ _ _ us hl => (match us, hl with | [_, _], _ => rfl), kwB_of F fun _ _ _ _ _ _ us hl => (match us, hl with | [_, _], _ => rfl), fg_names_in T d_is_name F⟩, len_runF⟩
theorem sc_event_in : FnScope ["words", "number"] ["words"] (defScope (top 38)) := ⟨rfl, rfl, rfl, by decide +kernel, rfl, by decide +kernel, by decide +kernel⟩
theorem fg_event_in (T : Tops K mg w) (d_names_in : DefOk P w K mg base "names_in" ["words", "least"] 2 m_names_in) (d_number_in : DefOk P w K mg base "number_in" ["word"] 1 m_number_in) {a : Addr} {fd : FuncData} (F : Fun K "event_in" "event_in" (top 38) a fd) : FnG P w K mg base CX0 3 a fd ["words"] m_event_in := by
  refine FnG.ofN F sc_event_in 1 1 rfl rfl ?_
  intro cd A up s0 H Ex hg hr
  have sc := sc_event_in
  have r : Rm _ 2 := ⟨hg, hr⟩
  exact (s_cons (s_if (a_tcmp (op_neA r.u) ne_snd (a_callB call_lenA len_snd T.z_len PySem.boot_len (a_cons (a_var 0 rfl) a_nil)) (a_glob T.c_PAIR_reading)) (s_one (s_ret a_non)) s_nil)
    (s_cons (s_if (a_tcmp (op_eqA r.u) eq_snd (a_ix (ix_any r.u) ix_snd (a_var 0 rfl) a_int) (a_glob T.c_BEGIN)) (s_one (s_ret (c_fn d_names_in r (by decide) (a_cons (a_var 0 rfl) (a_cons (a_glob T.c_PAIR_reading) a_nil))))) s_nil)
    (s_cons (s_set (i := 1) sc.nd rfl (c_fn d_number_in r (by decide) (a_cons (a_ix (ix_any r.u) ix_snd (a_var 0 rfl) a_int) a_nil)))
    (s_one (s_ret (a_ifx (PW.pt (a_andT (a_tcmp (op_inA r.u) in_snd (a_ix (ix_any r.u) ix_snd (a_var 0 rfl) a_int) (a_glob T.c_NUMBER_EVENTS)) (a_and1 (a_tcmp op_isnA isn_snd (a_var 1 rfl) a_non)))) (a_tup (a_cons (a_ix (ix_any r.u) ix_snd (a_var 0 rfl) a_int) (a_cons (a_var 1 rfl) a_nil))) a_non))))))
theorem w_event_in (T : Tops K mg w) (d_names_in : DefOk P w K mg base "names_in" ["words", "least"] 2 m_names_in) (d_number_in : DefOk P w K mg base "number_in" ["word"] 1 m_number_in) {a : Addr} {fd : FuncData} (F : Fun K "event_in" "event_in" (top 38) a fd) (hm : mg "event_in" = some (.ref a)) : DefOk P w K mg base "event_in" ["words"] 3 m_event_in :=
  ⟨⟨a, fd, hm, F.kp, F.binds fun _ _ _ _ _ _ us hl => (match us, hl with | [_], _ => rfl), kwB_of F fun _ _ _ _ _ _ us hl => (match us, hl with | [_], _ => rfl), fg_event_in T d_names_in d_number_in F⟩, len_runF⟩
theorem sc_record_in : FnScope ["words", "begin", "end", "key", "sort", "answer", "told"] ["words"] (defScope (top 39)) := ⟨rfl, rfl, rfl, by decide +kernel, rfl, by decide +kernel, by decide +kernel⟩
theorem fg_record_in (T : Tops K mg w) (d_names_in : DefOk P w K mg base "names_in" ["words", "least"] 2 m_names_in) (d_number_in : DefOk P w K mg base "number_in" ["word"] 1 m_number_in) (d_is_name : DefOk P w K mg base "is_name" ["value"] 1 m_is_name) {a : Addr} {fd : FuncData} (F : Fun K "record_in" "record_in" (top 39) a fd) : FnG P w K mg base CX0 3 a fd ["words"] m_record_in := by
  refine FnG.ofN F sc_record_in 1 6 rfl rfl ?_
  intro cd A up s0 H Ex hg hr
  have sc := sc_record_in
  have r : Rm _ 2 := ⟨hg, hr⟩
  exact (s_cons (s_if (PW.pt (a_orT (a_tcmp (op_neA r.u) ne_snd (a_callB call_lenA len_snd T.z_len PySem.boot_len (a_cons (a_var 0 rfl) a_nil)) (a_glob T.c_RECORD_WORDS)) (a_or1 (a_tcmp op_isA is_snd (c_fn d_names_in r (by decide) (a_cons (a_slice (a_var 0 rfl) (a_part a_int) (a_part a_int)) (a_cons (a_glob T.c_PAIR_reading) a_nil))) a_non)))) (s_one (s_ret a_non)) s_nil)
    (s_cons (s_tg (a_var 0 rfl) (g_tp rfl (g_cons (g_nm sc.nd rfl (by first | exact Or.inl rfl | exact Or.inr rfl)) (g_cons (g_nm sc.nd rfl (by first | exact Or.inl rfl | exact Or.inr rfl)) (g_cons (g_nm sc.nd rfl (by first | exact Or.inl rfl | exact Or.inr rfl)) (g_cons (g_nm sc.nd rfl (by first | exact Or.inl rfl | exact Or.inr rfl)) (g_cons (g_nm sc.nd rfl (by first | exact Or.inl rfl | exact Or.inr rfl)) g_nil)))))) (offT_of (by rfl)))
    (s_cons (s_set (i := 6) sc.nd rfl (a_tup (a_cons (c_fn d_number_in r (by decide) (a_cons (a_var 1 rfl) a_nil)) (a_cons (a_ifx (a_tcmp (op_eqA r.u) eq_snd (a_var 2 rfl) (a_glob T.c_NOTHING)) a_non (c_fn d_number_in r (by decide) (a_cons (a_var 2 rfl) a_nil))) (a_cons (a_var 3 rfl) (a_cons (a_var 4 rfl) a_nil))))))
    (s_cons (s_if (PW.pt (a_orT (a_tcmp op_isA is_snd (a_ix (ix_any r.u) ix_snd (a_var 6 rfl) a_int) a_non) (a_orT (PW.pt (a_andT (a_tcmp op_isA is_snd (a_ix (ix_any r.u) ix_snd (a_var 6 rfl) a_int) a_non) (a_and1 (a_tcmp (op_neA r.u) ne_snd (a_var 2 rfl) (a_glob T.c_NOTHING))))) (a_or1 (PW.pt (a_andT (a_notT (a_tval (c_fn d_is_name r (by decide) (a_cons (a_var 5 rfl) a_nil)))) (a_and1 (a_tcmp (op_neA r.u) ne_snd (a_var 5 rfl) (a_glob T.c_NOTHING))))))))) (s_one (s_ret a_non)) s_nil)
    (s_one (s_ret (a_tup (a_star (a_var 6 rfl) (a_cons (a_ifx (a_tcmp (op_eqA r.u) eq_snd (a_var 5 rfl) (a_glob T.c_NOTHING)) a_non (a_var 5 rfl)) a_nil)))))))))
theorem w_record_in (T : Tops K mg w) (d_names_in : DefOk P w K mg base "names_in" ["words", "least"] 2 m_names_in) (d_number_in : DefOk P w K mg base "number_in" ["word"] 1 m_number_in) (d_is_name : DefOk P w K mg base "is_name" ["value"] 1 m_is_name) {a : Addr} {fd : FuncData} (F : Fun K "record_in" "record_in" (top 39) a fd) (hm : mg "record_in" = some (.ref a)) : DefOk P w K mg base "record_in" ["words"] 3 m_record_in :=
  ⟨⟨a, fd, hm, F.kp, F.binds fun _ _ _ _ _ _ us hl => (match us, hl with | [_], _ => rfl), kwB_of F fun _ _ _ _ _ _ us hl => (match us, hl with | [_], _ => rfl), fg_record_in T d_names_in d_number_in d_is_name F⟩, len_runF⟩
theorem sc_all_in : FnScope ["text", "read", "found", "number", "words", "thing"] ["text", "read"] (defScope (top 40)) := ⟨rfl, rfl, rfl, by decide +kernel, rfl, by decide +kernel, by decide +kernel⟩
theorem fg_all_in (T : Tops K mg w) (d_lines_of : DefOk P w K mg base "lines_of" ["text"] 1 m_lines_of) (d_event_in : DefOk P w K mg base "event_in" ["words"] 3 m_event_in) (d_record_in : DefOk P w K mg base "record_in" ["words"] 3 m_record_in) {a : Addr} {fd : FuncData} (F : Fun K "all_in" "all_in" (top 40) a fd) : FnG P w K mg base CX0 4 a fd ["text", "read"] m_all_in := by
  refine FnG.ofN F sc_all_in 2 4 rfl rfl ?_
  intro cd A up s0 H Ex hg hr
  have sc := sc_all_in
  have r : Rm _ 3 := ⟨hg, hr⟩
  exact (s_cons (s_set (i := 2) sc.nd rfl (a_lst a_nil))
    (s_cons (s_for PassesOwn.never rfl (i_enumA rfl T.z_enumerate (a_cons (c_fn d_lines_of r (by decide) (a_cons (a_var 0 rfl) a_nil)) a_nil)) (g_tp rfl (g_cons (g_nm sc.nd rfl (by first | exact Or.inl rfl | exact Or.inr rfl)) (g_cons (g_nm sc.nd rfl (by first | exact Or.inl rfl | exact Or.inr rfl)) g_nil))) (s_cons (s_set (i := 5) sc.nd rfl (c_fnV (tbl_cons (by decide) d_event_in (tbl_cons (by decide) d_record_in tbl_nil)) r rfl (a_cons (a_var 4 rfl) a_nil)))
    (s_cons (s_if (PW.pt (a_andT (a_tcmp op_isA is_snd (a_var 5 rfl) a_non) (a_and1 (a_tcmp (op_neA r.u) ne_snd (a_var 0 rfl) a_str)))) (s_one s_no) s_nil)
    (s_one (s_expr (a_mut PySem.F.plainAttrs_list PySem.F.slot_list_append PySem.F.type_list_append mt_append append_snd rfl (a_cons (a_var 5 rfl) a_nil)))))) (offT_of (by rfl)))
    (s_one (s_ret (a_ifx (a_tcmp (op_eqA r.u) eq_snd (a_var 0 rfl) a_str) (a_tup a_nil) (a_callT call_tuple_of tuple_snd T.z_tuple PyProof.Rows.boot_tuple (a_cons (a_var 2 rfl) a_nil)))))))
theorem w_all_in (T : Tops K mg w) (d_lines_of : DefOk P w K mg base "lines_of" ["text"] 1 m_lines_of) (d_event_in : DefOk P w K mg base "event_in" ["words"] 3 m_event_in) (d_record_in : DefOk P w K mg base "record_in" ["words"] 3 m_record_in) {a : Addr} {fd : FuncData} (F : Fun K "all_in" "all_in" (top 40) a fd) (hm : mg "all_in" = some (.ref a)) : DefOk P w K mg base "all_in" ["text", "read"] 4 m_all_in :=
  ⟨⟨a, fd, hm, F.kp, F.binds fun _ _ _ _ _ _ us hl => (match us, hl with | [_, _], _ => rfl), kwB_of F fun _ _ _ _ _ _ us hl => (match us, hl with | [_, _], _ => rfl), fg_all_in T d_lines_of d_event_in d_record_in F⟩, len_runF⟩
theorem sc_read_run : FnScope ["text"] ["text"] (defScope (top 41)) := ⟨rfl, rfl, rfl, by decide +kernel, rfl, by decide +kernel, by decide +kernel⟩
theorem fg_read_run (T : Tops K mg w) (d_all_in : DefOk P w K mg base "all_in" ["text", "read"] 4 m_all_in) (d_event_in : DefOk P w K mg base "event_in" ["words"] 3 m_event_in) {a : Addr} {fd : FuncData} (F : Fun K "read_run" "read_run" (top 41) a fd) : FnG P w K mg base CX0 5 a fd ["text"] m_read_run := by
  refine FnG.ofN F sc_read_run 1 0 rfl rfl ?_
  intro cd A up s0 H Ex hg hr
  have sc := sc_read_run
  have r : Rm _ 4 := ⟨hg, hr⟩
  exact (s_one (s_ret (c_fn d_all_in r (by decide) (a_cons (a_var 0 rfl) (a_cons (a_glob d_event_in.gc) a_nil)))))
theorem w_read_run (T : Tops K mg w) (d_all_in : DefOk P w K mg base "all_in" ["text", "read"] 4 m_all_in) (d_event_in : DefOk P w K mg base "event_in" ["words"] 3 m_event_in) {a : Addr} {fd : FuncData} (F : Fun K "read_run" "read_run" (top 41) a fd) (hm : mg "read_run" = some (.ref a)) : DefOk P w K mg base "read_run" ["text"] 5 m_read_run :=
  ⟨⟨a, fd, hm, F.kp, F.binds fun _ _ _ _ _ _ us hl => (match us, hl with | [_], _ => rfl), kwB_of F fun _ _ _ _ _ _ us hl => (match us, hl with | [_], _ => rfl), fg_read_run T d_all_in d_event_in F⟩, len_runF⟩
theorem sc_read_history : FnScope ["text", "history"] ["text"] (defScope (top 42)) := ⟨rfl, rfl, rfl, by decide +kernel, rfl, by decide +kernel, by decide +kernel⟩
theorem fg_read_history (T : Tops K mg w) (d_all_in : DefOk P w K mg base "all_in" ["text", "read"] 4 m_all_in) (d_record_in : DefOk P w K mg base "record_in" ["words"] 3 m_record_in) (d_is_history : DefOk P w K mg base "is_history" ["value"] 3 m_is_history) {a : Addr} {fd : FuncData} (F : Fun K "read_history" "read_history" (top 42) a fd) : FnG P w K mg base CX0 5 a fd ["text"] m_read_history := by
  refine FnG.ofN F sc_read_history 1 1 rfl rfl ?_
  intro cd A up s0 H Ex hg hr
  have sc := sc_read_history
  have r : Rm _ 4 := ⟨hg, hr⟩
  exact (s_cons (s_set (i := 1) sc.nd rfl (c_fn d_all_in r (by decide) (a_cons (a_var 0 rfl) (a_cons (a_glob d_record_in.gc) a_nil))))
    (s_cons (s_if (a_notT (a_tval (c_fn d_is_history r (by decide) (a_cons (a_var 1 rfl) a_nil)))) (s_one s_no) s_nil)
    (s_one (s_ret (a_var 1 rfl)))))
theorem w_read_history (T : Tops K mg w) (d_all_in : DefOk P w K mg base "all_in" ["text", "read"] 4 m_all_in) (d_record_in : DefOk P w K mg base "record_in" ["words"] 3 m_record_in) (d_is_history : DefOk P w K mg base "is_history" ["value"] 3 m_is_history) {a : Addr} {fd : FuncData} (F : Fun K "read_history" "read_history" (top 42) a fd) (hm : mg "read_history" = some (.ref a)) : DefOk P w K mg base "read_history" ["text"] 5 m_read_history :=
  ⟨⟨a, fd, hm, F.kp, F.binds fun _ _ _ _ _ _ us hl => (match us, hl with | [_], _ => rfl), kwB_of F fun _ _ _ _ _ _ us hl => (match us, hl with | [_], _ => rfl), fg_read_history T d_all_in d_record_in d_is_history F⟩, len_runF⟩
theorem sc__law_jar : FnScope ["_law_script", "_law_k", "_law_cell", "_law_mine"] ["_law_script", "_law_k"] (defScope (top 44)) := ⟨rfl, rfl, rfl, by decide +kernel, rfl, by decide +kernel, by decide +kernel⟩
theorem fg__law_jar (T : Tops K mg w) {a : Addr} {fd : FuncData} (F : Fun K "_law_jar" "_law_jar" (top 44) a fd) : FnG P w K mg base CX0 1 a fd ["_law_script", "_law_k"] m__law_jar := by
  refine FnG.ofN F sc__law_jar 2 2 rfl rfl ?_
  intro cd A up s0 H Ex hg hr
  have sc := sc__law_jar
  have r : Rm _ 0 := ⟨hg, hr⟩
  exact (s_cons (s_set (i := 2) sc.nd rfl (a_ifx (a_tcmp op_ltA lt_snd (a_var 1 rfl) (a_callB call_lenA len_snd T.z_len PySem.boot_len (a_cons (a_var 0 rfl) a_nil))) (a_ix (ix_any r.u) ix_snd (a_var 0 rfl) (a_var 1 rfl)) (a_bin op_addA add_snd (a_bin op_mulW mul_snd a_int (a_var 1 rfl)) a_int)))
    (s_cons (s_set (i := 3) sc.nd rfl (a_bin op_mulW mul_snd (a_bin op_mod mod_snd (a_callT call_intA int_snd T.z_int PyProof.Rows.boot_int (a_cons (a_callB call_abs abs_snd T.z_abs PyProof.Rows.boot_abs (a_cons (a_var 2 rfl) a_nil)) a_nil)) (a_bin op_powB pow_snd (a_bin op_powB pow_snd a_int a_int) a_int)) (a_callT call_intA int_snd T.z_int PyProof.Rows.boot_int (a_cons (a_cmp op_ge ge_snd (a_callB call_abs abs_snd T.z_abs PyProof.Rows.boot_abs (a_cons (a_var 2 rfl) a_nil)) (a_bin op_powB pow_snd a_int a_int)) a_nil))))
    (s_one (s_ret (a_lst (a_cons (a_var 3 rfl) (a_cons (a_bin op_mod mod_snd (a_callT call_intA int_snd T.z_int PyProof.Rows.boot_int (a_cons (a_bin op_addA add_snd (a_bin op_addA add_snd (a_bin op_mulW mul_snd (a_bin op_mod mod_snd (a_callT call_intA int_snd T.z_int PyProof.Rows.boot_int (a_cons (a_var 2 rfl) a_nil)) a_int) a_int) (a_bin op_mulW mul_snd (a_bin op_mulW mul_snd a_int (a_var 1 rfl)) (a_var 1 rfl))) a_int) a_nil)) a_int) (a_cons a_int a_nil))))))))
theorem w__law_jar (T : Tops K mg w) {a : Addr} {fd : FuncData} (F : Fun K "_law_jar" "_law_jar" (top 44) a fd) (hm : mg "_law_jar" = some (.ref a)) : DefOk P w K mg base "_law_jar" ["_law_script", "_law_k"] 1 m__law_jar :=
  ⟨⟨a, fd, hm, F.kp, F.binds fun _ _ _ _ _ _ us hl => (match us, hl with | [_, _], _ => rfl), kwB_of F fun _ _ _ _ _ _ us hl => (match us, hl with | [_, _], _ => rfl), fg__law_jar T F⟩, len_runF⟩
theorem sc__law_take : FnScope ["_law_jar_here", "_law_many", "_law_digit", "_law_prime", "_law_made"] ["_law_jar_here", "_law_many"] (defScope (top 45)) := ⟨rfl, rfl, rfl, by decide +kernel, rfl, by decide +kernel, by decide +kernel⟩
theorem fg__law_take (T : Tops K mg w) {a : Addr} {fd : FuncData} (F : Fun K "_law_take" "_law_take" (top 45) a fd) : FnG P w K mg base CX0 1 a fd ["_law_jar_here", "_law_many"] m__law_take := by
  refine FnG.ofN F sc__law_take 2 3 rfl rfl ?_
  intro cd A up s0 H Ex hg hr
  have sc := sc__law_take
  have r : Rm _ 0 := ⟨hg, hr⟩
  exact (s_cons (s_if (a_tcmp op_gt gt_snd (a_ix (ix_any r.u) ix_snd (a_var 0 rfl) a_int) a_int) (s_cons (s_set (i := 2) sc.nd rfl (a_bin op_mod mod_snd (a_callT call_intA int_snd T.z_int PyProof.Rows.boot_int (a_cons (a_ix (ix_any r.u) ix_snd (a_var 0 rfl) a_int) a_nil)) (a_var 1 rfl)))
    (s_cons (s_put (i := 0) r.u1 rfl a_int (a_bin op_fdivW div_snd (a_ix (ix_any r.u) ix_snd (a_var 0 rfl) a_int) (a_var 1 rfl)))
    (s_one (s_ret (a_var 2 rfl))))) s_nil)
    (s_cons (s_put (i := 0) r.u1 rfl a_int (a_bin op_addA add_snd (a_ix (ix_any r.u) ix_snd (a_var 0 rfl) a_int) a_int))
    (s_cons (s_set (i := 3) sc.nd rfl (a_ix (ix_any r.u) ix_snd (a_lst (a_cons a_int (a_cons a_int (a_cons a_int (a_cons a_int (a_cons a_int a_nil)))))) (a_bin op_mod mod_snd (a_callT call_intA int_snd T.z_int PyProof.Rows.boot_int (a_cons (a_ix (ix_any r.u) ix_snd (a_var 0 rfl) a_int) a_nil)) a_int)))
    (s_cons (s_set (i := 4) sc.nd rfl (a_bin op_mod mod_snd (a_callT call_intA int_snd T.z_int PyProof.Rows.boot_int (a_cons (a_bin op_powB pow_snd (a_bin op_addA add_snd (a_bin op_addA add_snd (a_ix (ix_any r.u) ix_snd (a_var 0 rfl) a_int) (a_bin op_mulW mul_snd (a_bin op_mulW mul_snd a_int (a_ix (ix_any r.u) ix_snd (a_var 0 rfl) a_int)) (a_ix (ix_any r.u) ix_snd (a_var 0 rfl) a_int))) a_int) a_int) a_nil)) (a_var 3 rfl)))
    (s_cons (s_set (i := 4) sc.nd rfl (a_bin op_mod mod_snd (a_callT call_intA int_snd T.z_int PyProof.Rows.boot_int (a_cons (a_bin op_mulW mul_snd (a_var 4 rfl) (a_bin op_addA add_snd (a_bin op_mod mod_snd (a_callT call_intA int_snd T.z_int PyProof.Rows.boot_int (a_cons (a_var 4 rfl) a_nil)) a_int) (a_bin op_mulW mul_snd a_int (a_ix (ix_any r.u) ix_snd (a_var 0 rfl) a_int)))) a_nil)) a_int))
    (s_one (s_ret (a_bin op_mod mod_snd (a_callT call_intA int_snd T.z_int PyProof.Rows.boot_int (a_cons (a_bin op_fdivW div_snd (a_var 4 rfl) a_int) a_nil)) (a_var 1 rfl)))))))))
theorem w__law_take (T : Tops K mg w) {a : Addr} {fd : FuncData} (F : Fun K "_law_take" "_law_take" (top 45) a fd) (hm : mg "_law_take" = some (.ref a)) : DefOk P w K mg base "_law_take" ["_law_jar_here", "_law_many"] 1 m__law_take :=
  ⟨⟨a, fd, hm, F.kp, F.binds fun _ _ _ _ _ _ us hl => (match us, hl with | [_, _], _ => rfl), kwB_of F fun _ _ _ _ _ _ us hl => (match us, hl with | [_, _], _ => rfl), fg__law_take T F⟩, len_runF⟩
theorem sc__law_of : FnScope ["_law_jar_here", "_law_some"] ["_law_jar_here", "_law_some"] (defScope (top 46)) := ⟨rfl, rfl, rfl, by decide +kernel, rfl, by decide +kernel, by decide +kernel⟩
theorem fg__law_of (T : Tops K mg w) (d__law_take : DefOk P w K mg base "_law_take" ["_law_jar_here", "_law_many"] 1 m__law_take) {a : Addr} {fd : FuncData} (F : Fun K "_law_of" "_law_of" (top 46) a fd) : FnG P w K mg base CX0 2 a fd ["_law_jar_here", "_law_some"] m__law_of := by
  refine FnG.ofN F sc__law_of 2 0 rfl rfl ?_
  intro cd A up s0 H Ex hg hr
  have sc := sc__law_of
  have r : Rm _ 1 := ⟨hg, hr⟩
  exact (s_one (s_ret (a_ix (ix_any r.u) ix_snd (a_var 1 rfl) (c_fn d__law_take r (by decide) (a_cons (a_var 0 rfl) (a_cons (a_callB call_lenA len_snd T.z_len PySem.boot_len (a_cons (a_var 1 rfl) a_nil)) a_nil))))))
theorem w__law_of (T : Tops K mg w) (d__law_take : DefOk P w K mg base "_law_take" ["_law_jar_here", "_law_many"] 1 m__law_take) {a : Addr} {fd : FuncData} (F : Fun K "_law_of" "_law_of" (top 46) a fd) (hm : mg "_law_of" = some (.ref a)) : DefOk P w K mg base "_law_of" ["_law_jar_here", "_law_some"] 2 m__law_of :=
  ⟨⟨a, fd, hm, F.kp, F.binds fun _ _ _ _ _ _ us hl => (match us, hl with | [_, _], _ => rfl), kwB_of F fun _ _ _ _ _ _ us hl => (match us, hl with | [_, _], _ => rfl), fg__law_of T d__law_take F⟩, len_runF⟩
theorem sc__law_names : FnScope ["_law_jar_here", "_law_many", "_law_small", "_law_stem", "_law_turn", "_law_spot", "_law_first", "_law_k"] ["_law_jar_here", "_law_many"] (defScope (top 47)) := ⟨rfl, rfl, rfl, by decide +kernel, rfl, by decide +kernel, by decide +kernel⟩
theorem fg__law_names (T : Tops K mg w) (d__law_of : DefOk P w K mg base "_law_of" ["_law_jar_here", "_law_some"] 2 m__law_of) (d__law_take : DefOk P w K mg base "_law_take" ["_law_jar_here", "_law_many"] 1 m__law_take) {a : Addr} {fd : FuncData} (F : Fun K "_law_names" "_law_names" (top 47) a fd) : FnG P w K mg base CX0 3 a fd ["_law_jar_here", "_law_many"] m__law_names := by
  refine FnG.ofN F sc__law_names 2 6 rfl rfl ?_
  intro cd A up s0 H Ex hg hr
  have sc := sc__law_names
  have r : Rm _ 2 := ⟨hg, hr⟩
  exact (s_cons (s_set (i := 2) sc.nd rfl a_str)
    (s_cons (s_set (i := 3) sc.nd rfl (a_meth (by decide) PySem.F.plainAttrs_str PySem.F.slot_str_join PySem.F.type_str_join mt_join join_snd a_str (a_cons (a_lc (own := [("_law_turn", 4)]) (vs := [4]) rfl sc.nd (blkOk_by (by rfl)) rfl (okT_of (by rfl)) (i_rng1 rfl T.z_range (a_cons (c_fn d__law_of r (by decide) (a_cons (a_var 0 rfl) (a_cons (a_lst (a_cons a_int (a_cons a_int (a_cons a_int (a_cons a_int (a_cons a_int a_nil)))))) a_nil))) a_nil)) (fun _ _ _ _ _ => (g_nm sc.nd rfl (by first | exact Or.inl rfl | exact Or.inr rfl))) (fun _ _ _ _ _ => c_yes) (fun _ _ _ _ _ => (c_fn d__law_of r (by decide) (a_cons (a_var 0 rfl) (a_cons (a_var 2 rfl) a_nil))))) a_nil)))
    (s_cons (s_parN (is := [5, 6]) rfl (pgs_cons (pg_name (i := 5) sc.nd rfl (by first | exact Or.inl rfl | exact Or.inr rfl)) (pgs_cons (pg_name (i := 6) sc.nd rfl (by first | exact Or.inl rfl | exact Or.inr rfl)) pgs_nil)) (a_cons (c_fn d__law_take r (by decide) (a_cons (a_var 0 rfl) (a_cons (a_bin op_addA add_snd (a_callB call_lenA len_snd T.z_len PySem.boot_len (a_cons (a_var 3 rfl) a_nil)) a_int) a_nil))) (a_cons (c_fn d__law_take r (by decide) (a_cons (a_var 0 rfl) (a_cons a_int a_nil))) a_nil)) (by decide))
    (s_one (s_ret (a_lc (own := [("_law_k", 7)]) (vs := [7]) rfl sc.nd (blkOk_by (by rfl)) rfl (okT_of (by rfl)) (i_rng1 rfl T.z_range (a_cons (a_var 1 rfl) a_nil)) (fun _ _ _ _ _ => (g_nm sc.nd rfl (by first | exact Or.inl rfl | exact Or.inr rfl))) (fun _ _ _ _ _ => c_yes) (fun _ _ _ _ _ => (a_bin op_addA add_snd (a_bin op_addA add_snd (a_slice (a_var 3 rfl) a_partN (a_part (a_var 5 rfl))) (a_ix (ix_any r.u) ix_snd (a_var 2 rfl) (a_bin op_mod mod_snd (a_callT call_intA int_snd T.z_int PyProof.Rows.boot_int (a_cons (a_bin op_addA add_snd (a_var 6 rfl) (a_bin op_mulW mul_snd a_int (a_var 7 rfl))) a_nil)) a_int))) (a_slice (a_var 3 rfl) (a_part (a_var 5 rfl)) a_partN)))))))))
theorem w__law_names (T : Tops K mg w) (d__law_of : DefOk P w K mg base "_law_of" ["_law_jar_here", "_law_some"] 2 m__law_of) (d__law_take : DefOk P w K mg base "_law_take" ["_law_jar_here", "_law_many"] 1 m__law_take) {a : Addr} {fd : FuncData} (F : Fun K "_law_names" "_law_names" (top 47) a fd) (hm : mg "_law_names" = some (.ref a)) : DefOk P w K mg base "_law_names" ["_law_jar_here", "_law_many"] 3 m__law_names :=
  ⟨⟨a, fd, hm, F.kp, F.binds fun _ _ _ _ _ _ us hl => (match us, hl with | [_, _], _ => rfl), kwB_of F fun _ _ _ _ _ _ us hl => (match us, hl with | [_, _], _ => rfl), fg__law_names T d__law_of d__law_take F⟩, len_runF⟩
theorem sc__law_events : FnScope ["_law_jar_here", "_law_names_here", "_law_found", "_law_turn", "_law_word", "_law_number"] ["_law_jar_here", "_law_names_here"] (defScope (top 48)) := ⟨rfl, rfl, rfl, by decide +kernel, rfl, by decide +kernel, by decide +kernel⟩
theorem fg__law_events (T : Tops K mg w) (d__law_take : DefOk P w K mg base "_law_take" ["_law_jar_here", "_law_many"] 1 m__law_take) (d__law_of : DefOk P w K mg base "_law_of" ["_law_jar_here", "_law_some"] 2 m__law_of) {a : Addr} {fd : FuncData} (F : Fun K "_law_events" "_law_events" (top 48) a fd) : FnG P w K mg base CX0 3 a fd ["_law_jar_here", "_law_names_here"] m__law_events := by
  refine FnG.ofN F sc__law_events 2 4 rfl rfl ?_
  intro cd A up s0 H Ex hg hr
  have sc := sc__law_events
  have r : Rm _ 2 := ⟨hg, hr⟩
  exact (s_cons (s_set (i := 2) sc.nd rfl (a_lst a_nil))
    (s_cons (s_for PassesOwn.never rfl (i_rng1 rfl T.z_range (a_cons (c_fn d__law_take r (by decide) (a_cons (a_var 0 rfl) (a_cons a_int a_nil))) a_nil)) (g_nm sc.nd rfl (by first | exact Or.inl rfl | exact Or.inr rfl)) (s_cons (s_set (i := 4) sc.nd rfl (c_fn d__law_of r (by decide) (a_cons (a_var 0 rfl) (a_cons (a_lst (a_cons a_str (a_cons a_str (a_cons a_str (a_cons a_str (a_cons a_str (a_cons a_str a_nil))))))) a_nil))))
    (s_cons (s_set (i := 5) sc.nd rfl (c_fn d__law_of r (by decide) (a_cons (a_var 0 rfl) (a_cons (a_lst (a_cons a_int (a_cons a_int (a_cons a_int (a_cons a_int (a_cons (a_bin op_powB pow_snd a_int a_int) (a_cons (c_fn d__law_take r (by decide) (a_cons (a_var 0 rfl) (a_cons (a_bin op_powB pow_snd a_int a_int) a_nil))) a_nil))))))) a_nil))))
    (s_one (s_expr (a_mut PySem.F.plainAttrs_list PySem.F.slot_list_append PySem.F.type_list_append mt_append append_snd rfl (a_cons (a_tup (a_cons (a_var 4 rfl) (a_cons (a_ifx (a_tcmp (op_eqA r.u) eq_snd (a_var 4 rfl) a_str) (c_fn d__law_of r (by decide) (a_cons (a_var 0 rfl) (a_cons (a_var 1 rfl) a_nil))) (a_var 5 rfl)) a_nil))) a_nil)))))) (offT_of (by rfl)))
    (s_one (s_ret (a_callT call_tuple_of tuple_snd T.z_tuple PyProof.Rows.boot_tuple (a_cons (a_var 2 rfl) a_nil))))))
theorem w__law_events (T : Tops K mg w) (d__law_take : DefOk P w K mg base "_law_take" ["_law_jar_here", "_law_many"] 1 m__law_take) (d__law_of : DefOk P w K mg base "_law_of" ["_law_jar_here", "_law_some"] 2 m__law_of) {a : Addr} {fd : FuncData} (F : Fun K "_law_events" "_law_events" (top 48) a fd) (hm : mg "_law_events" = some (.ref a)) : DefOk P w K mg base "_law_events" ["_law_jar_here", "_law_names_here"] 3 m__law_events :=
  ⟨⟨a, fd, hm, F.kp, F.binds fun _ _ _ _ _ _ us hl => (match us, hl with | [_, _], _ => rfl), kwB_of F fun _ _ _ _ _ _ us hl => (match us, hl with | [_, _], _ => rfl), fg__law_events T d__law_take d__law_of F⟩, len_runF⟩
theorem sc__law_answer : FnScope ["_law_jar_here", "_law_sort", "_law_some"] ["_law_jar_here", "_law_sort"] (defScope (top 49)) := ⟨rfl, rfl, rfl, by decide +kernel, rfl, by decide +kernel, by decide +kernel⟩
theorem fg__law_answer (T : Tops K mg w) (d__law_of : DefOk P w K mg base "_law_of" ["_law_jar_here", "_law_some"] 2 m__law_of) {a : Addr} {fd : FuncData} (F : Fun K "_law_answer" "_law_answer" (top 49) a fd) : FnG P w K mg base CX0 3 a fd ["_law_jar_here", "_law_sort"] m__law_answer := by
  refine FnG.ofN F sc__law_answer 2 1 rfl rfl ?_
  intro cd A up s0 H Ex hg hr
  have sc := sc__law_answer
  have r : Rm _ 2 := ⟨hg, hr⟩
  exact (s_cons (s_set (i := 2) sc.nd rfl (a_dict (pps_cons a_str (a_lst (a_cons a_str (a_cons a_str (a_cons a_str a_nil)))) (pps_cons a_str (a_lst (a_cons a_str (a_cons a_str (a_cons a_str a_nil)))) (pps_cons a_str (a_lst (a_cons a_str (a_cons a_str (a_cons a_str a_nil)))) pps_nil)))))
    (s_one (s_ret (c_fn d__law_of r (by decide) (a_cons (a_var 0 rfl) (a_cons (a_ix (ix_any r.u) ix_snd (a_var 2 rfl) (a_var 1 rfl)) a_nil))))))
theorem w__law_answer (T : Tops K mg w) (d__law_of : DefOk P w K mg base "_law_of" ["_law_jar_here", "_law_some"] 2 m__law_of) {a : Addr} {fd : FuncData} (F : Fun K "_law_answer" "_law_answer" (top 49) a fd) (hm : mg "_law_answer" = some (.ref a)) : DefOk P w K mg base "_law_answer" ["_law_jar_here", "_law_sort"] 3 m__law_answer :=
  ⟨⟨a, fd, hm, F.kp, F.binds fun _ _ _ _ _ _ us hl => (match us, hl with | [_, _], _ => rfl), kwB_of F fun _ _ _ _ _ _ us hl => (match us, hl with | [_, _], _ => rfl), fg__law_answer T d__law_of F⟩, len_runF⟩
theorem sc__law_book : FnScope ["_law_jar_here", "_law_names_here", "_law_found", "_law_left", "_law_now", "_law_many", "_law_turn", "_law_key", "_law_at", "_law_begin", "_law_end", "_law_sort", "_law_answer_here"] ["_law_jar_here", "_law_names_here"] (defScope (top 50)) := ⟨rfl, rfl, rfl, by decide +kernel, rfl, by decide +kernel, by decide +kernel⟩
theorem fg__law_book (T : Tops K mg w) (d__law_take : DefOk P w K mg base "_law_take" ["_law_jar_here", "_law_many"] 1 m__law_take) (d__law_of : DefOk P w K mg base "_law_of" ["_law_jar_here", "_law_some"] 2 m__law_of) (d__law_answer : DefOk P w K mg base "_law_answer" ["_law_jar_here", "_law_sort"] 3 m__law_answer) {a : Addr} {fd : FuncData} (F : Fun K "_law_book" "_law_book" (top 50) a fd) : FnG P w K mg base CX0 4 a fd ["_law_jar_here", "_law_names_here"] m__law_book := by
  refine FnG.ofN F sc__law_book 2 11 rfl rfl ?_
  intro cd A up s0 H Ex hg hr
  have sc := sc__law_book
  have r : Rm _ 3 := ⟨hg, hr⟩
  exact (s_cons (s_parN (is := [2, 3, 4, 5]) rfl (pgs_cons (pg_name (i := 2) sc.nd rfl (by first | exact Or.inl rfl | exact Or.inr rfl)) (pgs_cons (pg_name (i := 3) sc.nd rfl (by first | exact Or.inl rfl | exact Or.inr rfl)) (pgs_cons (pg_name (i := 4) sc.nd rfl (by first | exact Or.inl rfl | exact Or.inr rfl)) (pgs_cons (pg_name (i := 5) sc.nd rfl (by first | exact Or.inl rfl | exact Or.inr rfl)) pgs_nil)))) (a_cons (a_lst a_nil) (a_cons (a_lst a_nil) (a_cons a_int (a_cons a_dict0 a_nil)))) (by decide))
    (s_cons (s_for PassesOwn.never rfl (i_rng1 rfl T.z_range (a_cons (c_fn d__law_take r (by decide) (a_cons (a_var 0 rfl) (a_cons a_int a_nil))) a_nil)) (g_nm sc.nd rfl (by first | exact Or.inl rfl | exact Or.inr rfl)) (s_cons (s_set (i := 4) sc.nd rfl (a_bin op_addA add_snd (a_var 4 rfl) (c_fn d__law_of r (by decide) (a_cons (a_var 0 rfl) (a_cons (a_lst (a_cons a_int (a_cons a_int (a_cons a_int (a_cons (a_bin op_powB pow_snd a_int a_int) a_nil))))) a_nil)))))
    (s_cons (s_set (i := 7) sc.nd rfl (c_fn d__law_of r (by decide) (a_cons (a_var 0 rfl) (a_cons (a_var 1 rfl) a_nil))))
    (s_one (s_if (PW.pt (a_andT (a_tcmp (op_eqA r.u) eq_snd (c_fn d__law_take r (by decide) (a_cons (a_var 0 rfl) (a_cons a_int a_nil))) a_int) (a_andT (a_tcmp op_ltA lt_snd (a_callB call_lenA len_snd T.z_len PySem.boot_len (a_cons (a_var 2 rfl) a_nil)) a_int) (a_and1 (a_tcmp op_ltA lt_snd (a_meth (by decide) PySem.F.plainAttrs_dict PySem.F.slot_dict_get PySem.F.type_dict_get (mt_getA r.u) get_snd (a_var 5 rfl) (a_cons (a_var 7 rfl) (a_cons a_int a_nil))) a_int))))) (s_cons (s_put (i := 5) r.u1 rfl (a_var 7 rfl) (a_bin op_addA add_snd (a_meth (by decide) PySem.F.plainAttrs_dict PySem.F.slot_dict_get PySem.F.type_dict_get (mt_getA r.u) get_snd (a_var 5 rfl) (a_cons (a_var 7 rfl) (a_cons a_int a_nil))) a_int))
    (s_cons (s_expr (a_mut PySem.F.plainAttrs_list PySem.F.slot_list_append PySem.F.type_list_append mt_append append_snd rfl (a_cons (a_callB call_lenA len_snd T.z_len PySem.boot_len (a_cons (a_var 2 rfl) a_nil)) a_nil)))
    (s_one (s_expr (a_mut PySem.F.plainAttrs_list PySem.F.slot_list_append PySem.F.type_list_append mt_append append_snd rfl (a_cons (a_tup (a_cons (a_var 4 rfl) (a_cons a_non (a_cons (a_var 7 rfl) (a_cons (c_fn d__law_of r (by decide) (a_cons (a_var 0 rfl) (a_cons (a_lst (a_cons a_str (a_cons a_str (a_cons a_str a_nil)))) a_nil))) (a_cons a_non a_nil)))))) a_nil)))))) (s_one (s_if (a_tcmp (op_neA r.u) ne_snd (a_var 3 rfl) (a_lst a_nil)) (s_cons (s_set (i := 8) sc.nd rfl (a_mut PySem.F.plainAttrs_list PySem.F.slot_list_pop PySem.F.type_list_pop mt_popAt popAt_snd rfl (a_cons (c_fn d__law_take r (by decide) (a_cons (a_var 0 rfl) (a_cons (a_callB call_lenA len_snd T.z_len PySem.boot_len (a_cons (a_var 3 rfl) a_nil)) a_nil))) a_nil)))
    (s_cons (s_tg (a_ix (ix_any r.u) ix_snd (a_var 2 rfl) (a_var 8 rfl)) (g_tp rfl (g_cons (g_nm sc.nd rfl (by first | exact Or.inl rfl | exact Or.inr rfl)) (g_cons (g_nm sc.nd rfl (by first | exact Or.inl rfl | exact Or.inr rfl)) (g_cons (g_nm sc.nd rfl (by first | exact Or.inl rfl | exact Or.inr rfl)) (g_cons (g_nm sc.nd rfl (by first | exact Or.inl rfl | exact Or.inr rfl)) (g_cons (g_nm sc.nd rfl (by first | exact Or.inl rfl | exact Or.inr rfl)) g_nil)))))) (offT_of (by rfl)))
    (s_one (s_put (i := 2) r.u1 rfl (a_var 8 rfl) (a_tup (a_cons (a_var 9 rfl) (a_cons (a_var 4 rfl) (a_cons (a_var 7 rfl) (a_cons (a_var 11 rfl) (a_cons (c_fn d__law_answer r (by decide) (a_cons (a_var 0 rfl) (a_cons (a_var 11 rfl) a_nil))) a_nil)))))))))) s_nil)))))) (offT_of (by rfl)))
    (s_one (s_ret (a_callT call_tuple_of tuple_snd T.z_tuple PyProof.Rows.boot_tuple (a_cons (a_var 2 rfl) a_nil))))))
theorem w__law_book (T : Tops K mg w) (d__law_take : DefOk P w K mg base "_law_take" ["_law_jar_here", "_law_many"] 1 m__law_take) (d__law_of : DefOk P w K mg base "_law_of" ["_law_jar_here", "_law_some"] 2 m__law_of) (d__law_answer : DefOk P w K mg base "_law_answer" ["_law_jar_here", "_law_sort"] 3 m__law_answer) {a : Addr} {fd : FuncData} (F : Fun K "_law_book" "_law_book" (top 50) a fd) (hm : mg "_law_book" = some (.ref a)) : DefOk P w K mg base "_law_book" ["_law_jar_here", "_law_names_here"] 4 m__law_book :=
  ⟨⟨a, fd, hm, F.kp, F.binds fun _ _ _ _ _ _ us hl => (match us, hl with | [_, _], _ => rfl), kwB_of F fun _ _ _ _ _ _ us hl => (match us, hl with | [_, _], _ => rfl), fg__law_book T d__law_take d__law_of d__law_answer F⟩, len_runF⟩
theorem sc__law_lines : FnScope ["_law_rows", "_law_part", "_law_row"] ["_law_rows"] (defScope (top 51)) := ⟨rfl, rfl, rfl, by decide +kernel, rfl, by decide +kernel, by decide +kernel⟩
theorem fg__law_lines (T : Tops K mg w) {a : Addr} {fd : FuncData} (F : Fun K "_law_lines" "_law_lines" (top 51) a fd) : FnG P w K mg base CX0 1 a fd ["_law_rows"] m__law_lines := by
  refine FnG.ofN F sc__law_lines 1 2 rfl rfl ?_
  intro cd A up s0 H Ex hg hr
  have sc := sc__law_lines
  have r : Rm _ 0 := ⟨hg, hr⟩
  exact (s_one (s_ret (a_meth (by decide) PySem.F.plainAttrs_str PySem.F.slot_str_join PySem.F.type_str_join mt_join join_snd a_str (a_cons (a_lc (own := [("_law_row", 2)]) (vs := [2]) rfl sc.nd (blkOk_by (by rfl)) rfl (okT_of (by rfl)) (i_seq (a_var 0 rfl)) (fun _ _ _ _ _ => (g_nm sc.nd rfl (by first | exact Or.inl rfl | exact Or.inr rfl))) (fun _ _ _ _ _ => c_yes) (fun _ _ _ _ _ => (a_meth (by decide) PySem.F.plainAttrs_str PySem.F.slot_str_join PySem.F.type_str_join mt_join join_snd a_str (a_cons (a_lc (own := [("_law_part", 1)]) (vs := [1]) rfl sc.nd (blkOk_by (by rfl)) rfl (okT_of (by rfl)) (i_seq (a_var 2 rfl)) (fun _ _ _ _ _ => (g_nm sc.nd rfl (by first | exact Or.inl rfl | exact Or.inr rfl))) (fun _ _ _ _ _ => c_yes) (fun _ _ _ _ _ => (a_ifx (a_tcmp op_isA is_snd (a_var 1 rfl) a_non) a_str (a_callT call_strA str_snd T.z_str PyProof.Rows.boot_str (a_cons (a_var 1 rfl) a_nil))))) a_nil)))) a_nil))))
theorem w__law_lines (T : Tops K mg w) {a : Addr} {fd : FuncData} (F : Fun K "_law_lines" "_law_lines" (top 51) a fd) (hm : mg "_law_lines" = some (.ref a)) : DefOk P w K mg base "_law_lines" ["_law_rows"] 1 m__law_lines :=
  ⟨⟨a, fd, hm, F.kp, F.binds fun _ _ _ _ _ _ us hl => (match us, hl with | [_], _ => rfl), kwB_of F fun _ _ _ _ _ _ us hl => (match us, hl with | [_], _ => rfl), fg__law_lines T F⟩, len_runF⟩
theorem sc__law_run_right : FnScope ["_law_jar_here", "_law_names_here", "_law_walk", "_law_page"] ["_law_jar_here", "_law_names_here"] (defScope (top 52)) := ⟨rfl, rfl, rfl, by decide +kernel, rfl, by decide +kernel, by decide +kernel⟩
theorem fg__law_run_right (T : Tops K mg w) (d__law_events : DefOk P w K mg base "_law_events" ["_law_jar_here", "_law_names_here"] 3 m__law_events) (d__law_lines : DefOk P w K mg base "_law_lines" ["_law_rows"] 1 m__law_lines) (d_show_run : DefOk P w K mg base "show_run" ["run"] 3 m_show_run) (d_read_run : DefOk P w K mg base "read_run" ["text"] 5 m_read_run) {a : Addr} {fd : FuncData} (F : Fun K "_law_run_right" "_law_run_right" (top 52) a fd) : FnG P w K mg base CX0 6 a fd ["_law_jar_here", "_law_names_here"] m__law_run_right := by
  refine FnG.ofN F sc__law_run_right 2 2 rfl rfl ?_
  intro cd A up s0 H Ex hg hr
  have sc := sc__law_run_right
  have r : Rm _ 5 := ⟨hg, hr⟩
  exact (s_cons (s_set (i := 2) sc.nd rfl (c_fn d__law_events r (by decide) (a_cons (a_var 0 rfl) (a_cons (a_var 1 rfl) a_nil))))
    (s_cons (s_set (i := 3) sc.nd rfl (c_fn d__law_lines r (by decide) (a_cons (a_var 2 rfl) a_nil)))
    (s_cons (s_if (PW.pt (a_orT (a_tcmp (op_neA r.u) ne_snd (c_fn d_show_run r (by decide) (a_cons (a_var 2 rfl) a_nil)) (a_var 3 rfl)) (a_or1 (a_tcmp (op_neA r.u) ne_snd (c_fnK d_show_run r (by decide) (k_cons (a_var 2 rfl) k_nil)) (a_var 3 rfl))))) (s_one (s_ret a_bl)) s_nil)
    (s_one (s_ret (a_andV (a_cmp (op_eqA r.u) eq_snd (a_callB (call_reprA r.g r.u r.u65) repr_snd T.z_repr PyProof.Rows.boot_repr (a_cons (c_fn d_read_run r (by decide) (a_cons (a_var 3 rfl) a_nil)) a_nil)) (a_callB (call_reprA r.g r.u r.u65) repr_snd T.z_repr PyProof.Rows.boot_repr (a_cons (a_var 2 rfl) a_nil))) (a_one (a_cmp (op_eqA r.u) eq_snd (a_callB (call_reprA r.g r.u r.u65) repr_snd T.z_repr PyProof.Rows.boot_repr (a_cons (c_fnK d_read_run r (by decide) (k_cons (a_var 3 rfl) k_nil)) a_nil)) (a_callB (call_reprA r.g r.u r.u65) repr_snd T.z_repr PyProof.Rows.boot_repr (a_cons (a_var 2 rfl) a_nil))))))))))
theorem w__law_run_right (T : Tops K mg w) (d__law_events : DefOk P w K mg base "_law_events" ["_law_jar_here", "_law_names_here"] 3 m__law_events) (d__law_lines : DefOk P w K mg base "_law_lines" ["_law_rows"] 1 m__law_lines) (d_show_run : DefOk P w K mg base "show_run" ["run"] 3 m_show_run) (d_read_run : DefOk P w K mg base "read_run" ["text"] 5 m_read_run) {a : Addr} {fd : FuncData} (F : Fun K "_law_run_right" "_law_run_right" (top 52) a fd) (hm : mg "_law_run_right" = some (.ref a)) : DefOk P w K mg base "_law_run_right" ["_law_jar_here", "_law_names_here"] 6 m__law_run_right :=
  ⟨⟨a, fd, hm, F.kp, F.binds fun _ _ _ _ _ _ us hl => (match us, hl with | [_, _], _ => rfl), kwB_of F fun _ _ _ _ _ _ us hl => (match us, hl with | [_, _], _ => rfl), fg__law_run_right T d__law_events d__law_lines d_show_run d_read_run F⟩, len_runF⟩
theorem sc__law_book_right : FnScope ["_law_jar_here", "_law_names_here", "_law_book_here", "_law_page"] ["_law_jar_here", "_law_names_here"] (defScope (top 53)) := ⟨rfl, rfl, rfl, by decide +kernel, rfl, by decide +kernel, by decide +kernel⟩
theorem fg__law_book_right (T : Tops K mg w) (d__law_book : DefOk P w K mg base "_law_book" ["_law_jar_here", "_law_names_here"] 4 m__law_book) (d__law_lines : DefOk P w K mg base "_law_lines" ["_law_rows"] 1 m__law_lines) (d_show_history : DefOk P w K mg base "show_history" ["history"] 4 m_show_history) (d_is_history : DefOk P w K mg base "is_history" ["value"] 3 m_is_history) (d_read_history : DefOk P w K mg base "read_history" ["text"] 5 m_read_history) {a : Addr} {fd : FuncData} (F : Fun K "_law_book_right" "_law_book_right" (top 53) a fd) : FnG P w K mg base CX0 6 a fd ["_law_jar_here", "_law_names_here"] m__law_book_right := by
  refine FnG.ofN F sc__law_book_right 2 2 rfl rfl ?_
  intro cd A up s0 H Ex hg hr
  have sc := sc__law_book_right
  have r : Rm _ 5 := ⟨hg, hr⟩
  exact (s_cons (s_set (i := 2) sc.nd rfl (c_fn d__law_book r (by decide) (a_cons (a_var 0 rfl) (a_cons (a_var 1 rfl) a_nil))))
    (s_cons (s_set (i := 3) sc.nd rfl (c_fn d__law_lines r (by decide) (a_cons (a_var 2 rfl) a_nil)))
    (s_cons (s_if (PW.pt (a_orT (a_tcmp op_isnA isn_snd (c_fn d_is_history r (by decide) (a_cons (a_var 2 rfl) a_nil)) a_bl) (a_orT (a_tcmp (op_neA r.u) ne_snd (c_fn d_show_history r (by decide) (a_cons (a_var 2 rfl) a_nil)) (a_var 3 rfl)) (a_or1 (a_tcmp (op_neA r.u) ne_snd (c_fnK d_show_history r (by decide) (k_cons (a_var 2 rfl) k_nil)) (a_var 3 rfl)))))) (s_one (s_ret a_bl)) s_nil)
    (s_one (s_ret (a_andV (a_cmp (op_eqA r.u) eq_snd (a_callB (call_reprA r.g r.u r.u65) repr_snd T.z_repr PyProof.Rows.boot_repr (a_cons (c_fn d_read_history r (by decide) (a_cons (a_var 3 rfl) a_nil)) a_nil)) (a_callB (call_reprA r.g r.u r.u65) repr_snd T.z_repr PyProof.Rows.boot_repr (a_cons (a_var 2 rfl) a_nil))) (a_one (a_cmp (op_eqA r.u) eq_snd (c_fnK d_read_history r (by decide) (k_cons (a_var 3 rfl) k_nil)) (a_var 2 rfl)))))))))
theorem w__law_book_right (T : Tops K mg w) (d__law_book : DefOk P w K mg base "_law_book" ["_law_jar_here", "_law_names_here"] 4 m__law_book) (d__law_lines : DefOk P w K mg base "_law_lines" ["_law_rows"] 1 m__law_lines) (d_show_history : DefOk P w K mg base "show_history" ["history"] 4 m_show_history) (d_is_history : DefOk P w K mg base "is_history" ["value"] 3 m_is_history) (d_read_history : DefOk P w K mg base "read_history" ["text"] 5 m_read_history) {a : Addr} {fd : FuncData} (F : Fun K "_law_book_right" "_law_book_right" (top 53) a fd) (hm : mg "_law_book_right" = some (.ref a)) : DefOk P w K mg base "_law_book_right" ["_law_jar_here", "_law_names_here"] 6 m__law_book_right :=
  ⟨⟨a, fd, hm, F.kp, F.binds fun _ _ _ _ _ _ us hl => (match us, hl with | [_, _], _ => rfl), kwB_of F fun _ _ _ _ _ _ us hl => (match us, hl with | [_, _], _ => rfl), fg__law_book_right T d__law_book d__law_lines d_show_history d_is_history d_read_history F⟩, len_runF⟩
theorem sc_law : FnScope ["_law_script", "_law_k", "_law_jar_here", "_law_names_here", "_law_turn"] ["_law_script"] (defScope (top 54)) := ⟨rfl, rfl, rfl, by decide +kernel, rfl, by decide +kernel, by decide +kernel⟩
theorem fg_law (T : Tops K mg w) (d_show_run : DefOk P w K mg base "show_run" ["run"] 3 m_show_run) (d_show_history : DefOk P w K mg base "show_history" ["history"] 4 m_show_history) (d_read_run : DefOk P w K mg base "read_run" ["text"] 5 m_read_run) (d_read_history : DefOk P w K mg base "read_history" ["text"] 5 m_read_history) (d__law_jar : DefOk P w K mg base "_law_jar" ["_law_script", "_law_k"] 1 m__law_jar) (d__law_names : DefOk P w K mg base "_law_names" ["_law_jar_here", "_law_many"] 3 m__law_names) (d__law_take : DefOk P w K mg base "_law_take" ["_law_jar_here", "_law_many"] 1 m__law_take) (d__law_book_right : DefOk P w K mg base "_law_book_right" ["_law_jar_here", "_law_names_here"] 6 m__law_book_right) (d__law_run_right : DefOk P w K mg base "_law_run_right" ["_law_jar_here", "_law_names_here"] 6 m__law_run_right) {a : Addr} {fd : FuncData} (F : Fun K "law" "law" (top 54) a fd) : FnG P w K mg base CX0 7 a fd ["_law_script"] m_law := by
  refine FnG.ofN F sc_law 1 4 rfl rfl ?_
  intro cd A up s0 H Ex hg hr
  have sc := sc_law
  have r : Rm _ 6 := ⟨hg, hr⟩
  exact (s_cons (s_if (a_tcmp (op_neA r.u) ne_snd (a_lst (a_cons (c_fn d_show_run r (by decide) (a_cons (a_tup a_nil) a_nil)) (a_cons (c_fn d_show_history r (by decide) (a_cons (a_tup a_nil) a_nil)) (a_cons (c_fn d_read_run r (by decide) (a_cons a_str a_nil)) (a_cons (c_fn d_read_history r (by decide) (a_cons a_str a_nil)) a_nil))))) (a_lst (a_cons a_str (a_cons a_str (a_cons (a_tup a_nil) (a_cons (a_tup a_nil) a_nil)))))) (s_one (s_ret a_bl)) s_nil)
    (s_cons (s_for PassesOwn.never rfl (i_rng1 rfl T.z_range (a_cons (a_callB (call_max2 rfl) max_snd T.z_max PyProof.Rows.boot_max (a_cons a_int (a_cons (a_callB (call_min2 rfl) min_snd T.z_min PyProof.Rows.boot_min (a_cons a_int (a_cons (a_callB call_lenA len_snd T.z_len PySem.boot_len (a_cons (a_var 0 rfl) a_nil)) a_nil))) a_nil))) a_nil)) (g_nm sc.nd rfl (by first | exact Or.inl rfl | exact Or.inr rfl)) (s_cons (s_set (i := 2) sc.nd rfl (c_fn d__law_jar r (by decide) (a_cons (a_var 0 rfl) (a_cons (a_var 1 rfl) a_nil))))
    (s_cons (s_set (i := 3) sc.nd rfl (c_fn d__law_names r (by decide) (a_cons (a_var 2 rfl) (a_cons (a_bin op_addA add_snd a_int (c_fn d__law_take r (by decide) (a_cons (a_var 2 rfl) (a_cons a_int a_nil)))) a_nil))))
    (s_one (s_if (a_notT (a_tval (a_callB (cr_all rfl) all_snd T.z_all PyProof.Rows.boot_all (a_cons (a_lc (own := [("_law_turn", 4)]) (vs := [4]) rfl sc.nd (blkOk_by (by rfl)) rfl (okT_of (by rfl)) (i_rng1 rfl T.z_range (a_cons a_int a_nil)) (fun _ _ _ _ _ => (g_nm sc.nd rfl (by first | exact Or.inl rfl | exact Or.inr rfl))) (fun _ _ _ _ _ => c_yes) (fun _ _ _ _ _ => (a_andV (c_fn d__law_run_right r (by decide) (a_cons (a_var 2 rfl) (a_cons (a_var 3 rfl) a_nil))) (a_one (c_fn d__law_book_right r (by decide) (a_cons (a_var 2 rfl) (a_cons (a_var 3 rfl) a_nil))))))) a_nil)))) (s_one (s_ret a_bl)) s_nil)))) (offT_of (by rfl)))
    (s_one (s_ret a_bl))))
theorem w_law (T : Tops K mg w) (d_show_run : DefOk P w K mg base "show_run" ["run"] 3 m_show_run) (d_show_history : DefOk P w K mg base "show_history" ["history"] 4 m_show_history) (d_read_run : DefOk P w K mg base "read_run" ["text"] 5 m_read_run) (d_read_history : DefOk P w K mg base "read_history" ["text"] 5 m_read_history) (d__law_jar : DefOk P w K mg base "_law_jar" ["_law_script", "_law_k"] 1 m__law_jar) (d__law_names : DefOk P w K mg base "_law_names" ["_law_jar_here", "_law_many"] 3 m__law_names) (d__law_take : DefOk P w K mg base "_law_take" ["_law_jar_here", "_law_many"] 1 m__law_take) (d__law_book_right : DefOk P w K mg base "_law_book_right" ["_law_jar_here", "_law_names_here"] 6 m__law_book_right) (d__law_run_right : DefOk P w K mg base "_law_run_right" ["_law_jar_here", "_law_names_here"] 6 m__law_run_right) {a : Addr} {fd : FuncData} (F : Fun K "law" "law" (top 54) a fd) (hm : mg "law" = some (.ref a)) : DefOk P w K mg base "law" ["_law_script"] 7 m_law :=
  ⟨⟨a, fd, hm, F.kp, F.binds fun _ _ _ _ _ _ us hl => (match us, hl with | [_], _ => rfl), kwB_of F fun _ _ _ _ _ _ us hl => (match us, hl with | [_], _ => rfl), fg_law T d_show_run d_show_history d_read_run d_read_history d__law_jar d__law_names d__law_take d__law_book_right d__law_run_right F⟩, len_runF⟩
end
theorem all_mk {l : PySem.W.OpenLaw} {w : World} {K : PySem.W.Frag} {h : Heap} {mg : Str → Option Value} {fa : Addr} (X : K.In h) (G : h.Ns mainGlobals mg) (hfa : mg "law" = some (.ref fa))
    {tk_ANSWERS_0 : Tok} {hh_ANSWERS_0 : Int}
    {t_ANSWERS_0_0 : Tok}
    {t_ANSWERS_0_1 : Tok}
    {t_ANSWERS_0_2 : Tok}
    {a_ANSWERS_0 : Addr} {od_ANSWERS_0 : Option Addr} {k_ANSWERS_0 : Nat} {sl_ANSWERS_0 : Array (Option Value)}
    (l_ANSWERS_0 : K.lookup a_ANSWERS_0 = some ⟨.type "tuple", od_ANSWERS_0, .seq #[(.str "done" t_ANSWERS_0_0), (.str "refused" t_ANSWERS_0_1), (.str "again" t_ANSWERS_0_2)] k_ANSWERS_0, sl_ANSWERS_0⟩)
    {tk_ANSWERS_1 : Tok} {hh_ANSWERS_1 : Int}
    {t_ANSWERS_1_0 : Tok}
    {t_ANSWERS_1_1 : Tok}
    {t_ANSWERS_1_2 : Tok}
    {a_ANSWERS_1 : Addr} {od_ANSWERS_1 : Option Addr} {k_ANSWERS_1 : Nat} {sl_ANSWERS_1 : Array (Option Value)}
    (l_ANSWERS_1 : K.lookup a_ANSWERS_1 = some ⟨.type "tuple", od_ANSWERS_1, .seq #[(.str "done" t_ANSWERS_1_0), (.str "none" t_ANSWERS_1_1), (.str "again" t_ANSWERS_1_2)] k_ANSWERS_1, sl_ANSWERS_1⟩)
    {tk_ANSWERS_2 : Tok} {hh_ANSWERS_2 : Int}
    {t_ANSWERS_2_0 : Tok}
    {t_ANSWERS_2_1 : Tok}
    {t_ANSWERS_2_2 : Tok}
    {a_ANSWERS_2 : Addr} {od_ANSWERS_2 : Option Addr} {k_ANSWERS_2 : Nat} {sl_ANSWERS_2 : Array (Option Value)}
    (l_ANSWERS_2 : K.lookup a_ANSWERS_2 = some ⟨.type "tuple", od_ANSWERS_2, .seq #[(.str "there" t_ANSWERS_2_0), (.str "none" t_ANSWERS_2_1), (.str "again" t_ANSWERS_2_2)] k_ANSWERS_2, sl_ANSWERS_2⟩)
    {a_ANSWERS : Addr} {k_ANSWERS : Nat}
    (l_ANSWERS : K.lookup a_ANSWERS = some ⟨.type "dict", none, .dict (List.toArray [{ key := .str "put" tk_ANSWERS_0, hash := hh_ANSWERS_0, val := (.ref a_ANSWERS_0) }, { key := .str "drop" tk_ANSWERS_1, hash := hh_ANSWERS_1, val := (.ref a_ANSWERS_1) }, { key := .str "look" tk_ANSWERS_2, hash := hh_ANSWERS_2, val := (.ref a_ANSWERS_2) }]) k_ANSWERS, #[]⟩)
    (lit_ANSWERS : PySem.W.KeysLit w.params [{ key := .str "put" tk_ANSWERS_0, hash := hh_ANSWERS_0, val := (.ref a_ANSWERS_0) }, { key := .str "drop" tk_ANSWERS_1, hash := hh_ANSWERS_1, val := (.ref a_ANSWERS_1) }, { key := .str "look" tk_ANSWERS_2, hash := hh_ANSWERS_2, val := (.ref a_ANSWERS_2) }])
    (low_ANSWERS : (a_ANSWERS == sysModules) = false)
    (n_ANSWERS : PySem.W.nsIn K mainGlobals "ANSWERS" = some (some (.ref a_ANSWERS)))
    {t_BEGIN : Tok}
    (n_BEGIN : PySem.W.nsIn K mainGlobals "BEGIN" = some (some (.str "begin" t_BEGIN)))
    {t_BLANK : Tok}
    (n_BLANK : PySem.W.nsIn K mainGlobals "BLANK" = some (some (.str " " t_BLANK)))
    {t_DIGITS : Tok}
    (n_DIGITS : PySem.W.nsIn K mainGlobals "DIGITS" = some (some (.str "0123456789" t_DIGITS)))
    {t_FEED : Tok}
    (n_FEED : PySem.W.nsIn K mainGlobals "FEED" = some (some (.str "\n" t_FEED)))
    {t_LETTERS : Tok}
    (n_LETTERS : PySem.W.nsIn K mainGlobals "LETTERS" = some (some (.str "abcdefghijklmnopqrstuvwxyz" t_LETTERS)))
    {t_LONGEST_NAME : Tok}
    (n_LONGEST_NAME : PySem.W.nsIn K mainGlobals "LONGEST_NAME" = some (some (.int 8 t_LONGEST_NAME)))
    {t_MOST_OF_A_KEY : Tok}
    (n_MOST_OF_A_KEY : PySem.W.nsIn K mainGlobals "MOST_OF_A_KEY" = some (some (.int 8 t_MOST_OF_A_KEY)))
    {t_MOST_RECORDS : Tok}
    (n_MOST_RECORDS : PySem.W.nsIn K mainGlobals "MOST_RECORDS" = some (some (.int 24 t_MOST_RECORDS)))
    {t_NOTHING : Tok}
    (n_NOTHING : PySem.W.nsIn K mainGlobals "NOTHING" = some (some (.str "-" t_NOTHING)))
    {t_NUMBER_EVENTS_0 : Tok}
    {t_NUMBER_EVENTS_1 : Tok}
    {t_NUMBER_EVENTS_2 : Tok}
    {t_NUMBER_EVENTS_3 : Tok}
    {t_NUMBER_EVENTS_4 : Tok}
    {a_NUMBER_EVENTS : Addr} {od_NUMBER_EVENTS : Option Addr} {k_NUMBER_EVENTS : Nat} {sl_NUMBER_EVENTS : Array (Option Value)}
    (l_NUMBER_EVENTS : K.lookup a_NUMBER_EVENTS = some ⟨.type "tuple", od_NUMBER_EVENTS, .seq #[(.str "step" t_NUMBER_EVENTS_0), (.str "stay" t_NUMBER_EVENTS_1), (.str "leave" t_NUMBER_EVENTS_2), (.str "come" t_NUMBER_EVENTS_3), (.str "lapse" t_NUMBER_EVENTS_4)] k_NUMBER_EVENTS, sl_NUMBER_EVENTS⟩)
    (n_NUMBER_EVENTS : PySem.W.nsIn K mainGlobals "NUMBER_EVENTS" = some (some (.ref a_NUMBER_EVENTS)))
    {t_PAIR_reading : Tok}
    (n_PAIR_reading : PySem.W.nsIn K mainGlobals "PAIR_reading" = some (some (.int 2 t_PAIR_reading)))
    {t_PAIR_showing : Tok}
    (n_PAIR_showing : PySem.W.nsIn K mainGlobals "PAIR_showing" = some (some (.int 2 t_PAIR_showing)))
    {t_RECORD : Tok}
    (n_RECORD : PySem.W.nsIn K mainGlobals "RECORD" = some (some (.int 5 t_RECORD)))
    {t_RECORD_WORDS : Tok}
    (n_RECORD_WORDS : PySem.W.nsIn K mainGlobals "RECORD_WORDS" = some (some (.int 5 t_RECORD_WORDS)))
    (z_abs : PySem.W.nsIn K mainGlobals "abs" = some none)
    (z_all : PySem.W.nsIn K mainGlobals "all" = some none)
    (z_bool : PySem.W.nsIn K mainGlobals "bool" = some none)
    (z_enumerate : PySem.W.nsIn K mainGlobals "enumerate" = some none)
    (z_int : PySem.W.nsIn K mainGlobals "int" = some none)
    (z_isinstance : PySem.W.nsIn K mainGlobals "isinstance" = some none)
    (z_len : PySem.W.nsIn K mainGlobals "len" = some none)
    (z_max : PySem.W.nsIn K mainGlobals "max" = some none)
    (z_min : PySem.W.nsIn K mainGlobals "min" = some none)
    (z_range : PySem.W.nsIn K mainGlobals "range" = some none)
    (z_repr : PySem.W.nsIn K mainGlobals "repr" = some none)
    (z_set : PySem.W.nsIn K mainGlobals "set" = some none)
    (z_sorted : PySem.W.nsIn K mainGlobals "sorted" = some none)
    (z_str : PySem.W.nsIn K mainGlobals "str" = some none)
    (z_tuple : PySem.W.nsIn K mainGlobals "tuple" = some none)
    {f_is_integer : Addr} {od_is_integer an_is_integer : Option Addr} {sl_is_integer : Array (Option Value)} {oc_is_integer kV_is_integer dc_is_integer pm_is_integer cd_is_integer ct_is_integer : Value}
    (g_is_integer : PySem.W.nsIn K mainGlobals "is_integer" = some (some (.ref f_is_integer)))
    (q_is_integer : K.lookup f_is_integer = some ⟨oc_is_integer, od_is_integer, .func (PySem.W.fnOf "is_integer" "is_integer" (defArgs (top 8)) (defBody (top 8)) (defScope (top 8)) .none kV_is_integer dc_is_integer pm_is_integer an_is_integer cd_is_integer ct_is_integer), sl_is_integer⟩)
    (r_is_integer : PySem.W.codeIn K cd_is_integer "is_integer" = true) (s_is_integer : PySem.W.keepIn K (.ref f_is_integer) = true)
    {f_is_name : Addr} {od_is_name an_is_name : Option Addr} {sl_is_name : Array (Option Value)} {oc_is_name kV_is_name dc_is_name pm_is_name cd_is_name ct_is_name : Value}
    (g_is_name : PySem.W.nsIn K mainGlobals "is_name" = some (some (.ref f_is_name)))
    (q_is_name : K.lookup f_is_name = some ⟨oc_is_name, od_is_name, .func (PySem.W.fnOf "is_name" "is_name" (defArgs (top 9)) (defBody (top 9)) (defScope (top 9)) .none kV_is_name dc_is_name pm_is_name an_is_name cd_is_name ct_is_name), sl_is_name⟩)
    (r_is_name : PySem.W.codeIn K cd_is_name "is_name" = true) (s_is_name : PySem.W.keepIn K (.ref f_is_name) = true)
    {f_is_record : Addr} {od_is_record an_is_record : Option Addr} {sl_is_record : Array (Option Value)} {oc_is_record kV_is_record dc_is_record pm_is_record cd_is_record ct_is_record : Value}
    (g_is_record : PySem.W.nsIn K mainGlobals "is_record" = some (some (.ref f_is_record)))
    (q_is_record : K.lookup f_is_record = some ⟨oc_is_record, od_is_record, .func (PySem.W.fnOf "is_record" "is_record" (defArgs (top 17)) (defBody (top 17)) (defScope (top 17)) .none kV_is_record dc_is_record pm_is_record an_is_record cd_is_record ct_is_record), sl_is_record⟩)
    (r_is_record : PySem.W.codeIn K cd_is_record "is_record" = true) (s_is_record : PySem.W.keepIn K (.ref f_is_record) = true)
    {f_is_history : Addr} {od_is_history an_is_history : Option Addr} {sl_is_history : Array (Option Value)} {oc_is_history kV_is_history dc_is_history pm_is_history cd_is_history ct_is_history : Value}
    (g_is_history : PySem.W.nsIn K mainGlobals "is_history" = some (some (.ref f_is_history)))
    (q_is_history : K.lookup f_is_history = some ⟨oc_is_history, od_is_history, .func (PySem.W.fnOf "is_history" "is_history" (defArgs (top 18)) (defBody (top 18)) (defScope (top 18)) .none kV_is_history dc_is_history pm_is_history an_is_history cd_is_history ct_is_history), sl_is_history⟩)
    (r_is_history : PySem.W.codeIn K cd_is_history "is_history" = true) (s_is_history : PySem.W.keepIn K (.ref f_is_history) = true)
    {f_line_of : Addr} {od_line_of an_line_of : Option Addr} {sl_line_of : Array (Option Value)} {oc_line_of kV_line_of dc_line_of pm_line_of cd_line_of ct_line_of : Value}
    (g_line_of : PySem.W.nsIn K mainGlobals "line_of" = some (some (.ref f_line_of)))
    (q_line_of : K.lookup f_line_of = some ⟨oc_line_of, od_line_of, .func (PySem.W.fnOf "line_of" "line_of" (defArgs (top 26)) (defBody (top 26)) (defScope (top 26)) .none kV_line_of dc_line_of pm_line_of an_line_of cd_line_of ct_line_of), sl_line_of⟩)
    (r_line_of : PySem.W.codeIn K cd_line_of "line_of" = true) (s_line_of : PySem.W.keepIn K (.ref f_line_of) = true)
    {f_is_count : Addr} {od_is_count an_is_count : Option Addr} {sl_is_count : Array (Option Value)} {oc_is_count kV_is_count dc_is_count pm_is_count cd_is_count ct_is_count : Value}
    (g_is_count : PySem.W.nsIn K mainGlobals "is_count" = some (some (.ref f_is_count)))
    (q_is_count : K.lookup f_is_count = some ⟨oc_is_count, od_is_count, .func (PySem.W.fnOf "is_count" "is_count" (defArgs (top 27)) (defBody (top 27)) (defScope (top 27)) .none kV_is_count dc_is_count pm_is_count an_is_count cd_is_count ct_is_count), sl_is_count⟩)
    (r_is_count : PySem.W.codeIn K cd_is_count "is_count" = true) (s_is_count : PySem.W.keepIn K (.ref f_is_count) = true)
    {f_has_event_form : Addr} {od_has_event_form an_has_event_form : Option Addr} {sl_has_event_form : Array (Option Value)} {oc_has_event_form kV_has_event_form dc_has_event_form pm_has_event_form cd_has_event_form ct_has_event_form : Value}
    (g_has_event_form : PySem.W.nsIn K mainGlobals "has_event_form" = some (some (.ref f_has_event_form)))
    (q_has_event_form : K.lookup f_has_event_form = some ⟨oc_has_event_form, od_has_event_form, .func (PySem.W.fnOf "has_event_form" "has_event_form" (defArgs (top 28)) (defBody (top 28)) (defScope (top 28)) .none kV_has_event_form dc_has_event_form pm_has_event_form an_has_event_form cd_has_event_form ct_has_event_form), sl_has_event_form⟩)
    (r_has_event_form : PySem.W.codeIn K cd_has_event_form "has_event_form" = true) (s_has_event_form : PySem.W.keepIn K (.ref f_has_event_form) = true)
    {f_show_run : Addr} {od_show_run an_show_run : Option Addr} {sl_show_run : Array (Option Value)} {oc_show_run kV_show_run dc_show_run pm_show_run cd_show_run ct_show_run : Value}
    (g_show_run : PySem.W.nsIn K mainGlobals "show_run" = some (some (.ref f_show_run)))
    (q_show_run : K.lookup f_show_run = some ⟨oc_show_run, od_show_run, .func (PySem.W.fnOf "show_run" "show_run" (defArgs (top 29)) (defBody (top 29)) (defScope (top 29)) .none kV_show_run dc_show_run pm_show_run an_show_run cd_show_run ct_show_run), sl_show_run⟩)
    (r_show_run : PySem.W.codeIn K cd_show_run "show_run" = true) (s_show_run : PySem.W.keepIn K (.ref f_show_run) = true)
    {f_show_history : Addr} {od_show_history an_show_history : Option Addr} {sl_show_history : Array (Option Value)} {oc_show_history kV_show_history dc_show_history pm_show_history cd_show_history ct_show_history : Value}
    (g_show_history : PySem.W.nsIn K mainGlobals "show_history" = some (some (.ref f_show_history)))
    (q_show_history : K.lookup f_show_history = some ⟨oc_show_history, od_show_history, .func (PySem.W.fnOf "show_history" "show_history" (defArgs (top 30)) (defBody (top 30)) (defScope (top 30)) .none kV_show_history dc_show_history pm_show_history an_show_history cd_show_history ct_show_history), sl_show_history⟩)
    (r_show_history : PySem.W.codeIn K cd_show_history "show_history" = true) (s_show_history : PySem.W.keepIn K (.ref f_show_history) = true)
    {f_lines_of : Addr} {od_lines_of an_lines_of : Option Addr} {sl_lines_of : Array (Option Value)} {oc_lines_of kV_lines_of dc_lines_of pm_lines_of cd_lines_of ct_lines_of : Value}
    (g_lines_of : PySem.W.nsIn K mainGlobals "lines_of" = some (some (.ref f_lines_of)))
    (q_lines_of : K.lookup f_lines_of = some ⟨oc_lines_of, od_lines_of, .func (PySem.W.fnOf "lines_of" "lines_of" (defArgs (top 35)) (defBody (top 35)) (defScope (top 35)) .none kV_lines_of dc_lines_of pm_lines_of an_lines_of cd_lines_of ct_lines_of), sl_lines_of⟩)
    (r_lines_of : PySem.W.codeIn K cd_lines_of "lines_of" = true) (s_lines_of : PySem.W.keepIn K (.ref f_lines_of) = true)
    {f_number_in : Addr} {od_number_in an_number_in : Option Addr} {sl_number_in : Array (Option Value)} {oc_number_in kV_number_in dc_number_in pm_number_in cd_number_in ct_number_in : Value}
    (g_number_in : PySem.W.nsIn K mainGlobals "number_in" = some (some (.ref f_number_in)))
    (q_number_in : K.lookup f_number_in = some ⟨oc_number_in, od_number_in, .func (PySem.W.fnOf "number_in" "number_in" (defArgs (top 36)) (defBody (top 36)) (defScope (top 36)) .none kV_number_in dc_number_in pm_number_in an_number_in cd_number_in ct_number_in), sl_number_in⟩)
    (r_number_in : PySem.W.codeIn K cd_number_in "number_in" = true) (s_number_in : PySem.W.keepIn K (.ref f_number_in) = true)
    {f_names_in : Addr} {od_names_in an_names_in : Option Addr} {sl_names_in : Array (Option Value)} {oc_names_in kV_names_in dc_names_in pm_names_in cd_names_in ct_names_in : Value}
    (g_names_in : PySem.W.nsIn K mainGlobals "names_in" = some (some (.ref f_names_in)))
    (q_names_in : K.lookup f_names_in = some ⟨oc_names_in, od_names_in, .func (PySem.W.fnOf "names_in" "names_in" (defArgs (top 37)) (defBody (top 37)) (defScope (top 37)) .none kV_names_in dc_names_in pm_names_in an_names_in cd_names_in ct_names_in), sl_names_in⟩)
    (r_names_in : PySem.W.codeIn K cd_names_in "names_in" = true) (s_names_in : PySem.W.keepIn K (.ref f_names_in) = true)
    {f_event_in : Addr} {od_event_in an_event_in : Option Addr} {sl_event_in : Array (Option Value)} {oc_event_in kV_event_in dc_event_in pm_event_in cd_event_in ct_event_in : Value}
    (g_event_in : PySem.W.nsIn K mainGlobals "event_in" = some (some (.ref f_event_in)))
    (q_event_in : K.lookup f_event_in = some ⟨oc_event_in, od_event_in, .func (PySem.W.fnOf "event_in" "event_in" (defArgs (top 38)) (defBody (top 38)) (defScope (top 38)) .none kV_event_in dc_event_in pm_event_in an_event_in cd_event_in ct_event_in), sl_event_in⟩)
    (r_event_in : PySem.W.codeIn K cd_event_in "event_in" = true) (s_event_in : PySem.W.keepIn K (.ref f_event_in) = true)
    {f_record_in : Addr} {od_record_in an_record_in : Option Addr} {sl_record_in : Array (Option Value)} {oc_record_in kV_record_in dc_record_in pm_record_in cd_record_in ct_record_in : Value}
    (g_record_in : PySem.W.nsIn K mainGlobals "record_in" = some (some (.ref f_record_in)))
    (q_record_in : K.lookup f_record_in = some ⟨oc_record_in, od_record_in, .func (PySem.W.fnOf "record_in" "record_in" (defArgs (top 39)) (defBody (top 39)) (defScope (top 39)) .none kV_record_in dc_record_in pm_record_in an_record_in cd_record_in ct_record_in), sl_record_in⟩)
    (r_record_in : PySem.W.codeIn K cd_record_in "record_in" = true) (s_record_in : PySem.W.keepIn K (.ref f_record_in) = true)
    {f_all_in : Addr} {od_all_in an_all_in : Option Addr} {sl_all_in : Array (Option Value)} {oc_all_in kV_all_in dc_all_in pm_all_in cd_all_in ct_all_in : Value}
    (g_all_in : PySem.W.nsIn K mainGlobals "all_in" = some (some (.ref f_all_in)))
    (q_all_in : K.lookup f_all_in = some ⟨oc_all_in, od_all_in, .func (PySem.W.fnOf "all_in" "all_in" (defArgs (top 40)) (defBody (top 40)) (defScope (top 40)) .none kV_all_in dc_all_in pm_all_in an_all_in cd_all_in ct_all_in), sl_all_in⟩)
    (r_all_in : PySem.W.codeIn K cd_all_in "all_in" = true) (s_all_in : PySem.W.keepIn K (.ref f_all_in) = true)
    {f_read_run : Addr} {od_read_run an_read_run : Option Addr} {sl_read_run : Array (Option Value)} {oc_read_run kV_read_run dc_read_run pm_read_run cd_read_run ct_read_run : Value}
    (g_read_run : PySem.W.nsIn K mainGlobals "read_run" = some (some (.ref f_read_run)))
    (q_read_run : K.lookup f_read_run = some ⟨oc_read_run, od_read_run, .func (PySem.W.fnOf "read_run" "read_run" (defArgs (top 41)) (defBody (top 41)) (defScope (top 41)) .none kV_read_run dc_read_run pm_read_run an_read_run cd_read_run ct_read_run), sl_read_run⟩)
    (r_read_run : PySem.W.codeIn K cd_read_run "read_run" = true) (s_read_run : PySem.W.keepIn K (.ref f_read_run) = true)
    {f_read_history : Addr} {od_read_history an_read_history : Option Addr} {sl_read_history : Array (Option Value)} {oc_read_history kV_read_history dc_read_history pm_read_history cd_read_history ct_read_history : Value}
    (g_read_history : PySem.W.nsIn K mainGlobals "read_history" = some (some (.ref f_read_history)))
    (q_read_history : K.lookup f_read_history = some ⟨oc_read_history, od_read_history, .func (PySem.W.fnOf "read_history" "read_history" (defArgs (top 42)) (defBody (top 42)) (defScope (top 42)) .none kV_read_history dc_read_history pm_read_history an_read_history cd_read_history ct_read_history), sl_read_history⟩)
    (r_read_history : PySem.W.codeIn K cd_read_history "read_history" = true) (s_read_history : PySem.W.keepIn K (.ref f_read_history) = true)
    {f__law_jar : Addr} {od__law_jar an__law_jar : Option Addr} {sl__law_jar : Array (Option Value)} {oc__law_jar kV__law_jar dc__law_jar pm__law_jar cd__law_jar ct__law_jar : Value}
    (g__law_jar : PySem.W.nsIn K mainGlobals "_law_jar" = some (some (.ref f__law_jar)))
    (q__law_jar : K.lookup f__law_jar = some ⟨oc__law_jar, od__law_jar, .func (PySem.W.fnOf "_law_jar" "_law_jar" (defArgs (top 44)) (defBody (top 44)) (defScope (top 44)) .none kV__law_jar dc__law_jar pm__law_jar an__law_jar cd__law_jar ct__law_jar), sl__law_jar⟩)
    (r__law_jar : PySem.W.codeIn K cd__law_jar "_law_jar" = true) (s__law_jar : PySem.W.keepIn K (.ref f__law_jar) = true)
    {f__law_take : Addr} {od__law_take an__law_take : Option Addr} {sl__law_take : Array (Option Value)} {oc__law_take kV__law_take dc__law_take pm__law_take cd__law_take ct__law_take : Value}
    (g__law_take : PySem.W.nsIn K mainGlobals "_law_take" = some (some (.ref f__law_take)))
    (q__law_take : K.lookup f__law_take = some ⟨oc__law_take, od__law_take, .func (PySem.W.fnOf "_law_take" "_law_take" (defArgs (top 45)) (defBody (top 45)) (defScope (top 45)) .none kV__law_take dc__law_take pm__law_take an__law_take cd__law_take ct__law_take), sl__law_take⟩)
    (r__law_take : PySem.W.codeIn K cd__law_take "_law_take" = true) (s__law_take : PySem.W.keepIn K (.ref f__law_take) = true)
    {f__law_of : Addr} {od__law_of an__law_of : Option Addr} {sl__law_of : Array (Option Value)} {oc__law_of kV__law_of dc__law_of pm__law_of cd__law_of ct__law_of : Value}
    (g__law_of : PySem.W.nsIn K mainGlobals "_law_of" = some (some (.ref f__law_of)))
    (q__law_of : K.lookup f__law_of = some ⟨oc__law_of, od__law_of, .func (PySem.W.fnOf "_law_of" "_law_of" (defArgs (top 46)) (defBody (top 46)) (defScope (top 46)) .none kV__law_of dc__law_of pm__law_of an__law_of cd__law_of ct__law_of), sl__law_of⟩)
    (r__law_of : PySem.W.codeIn K cd__law_of "_law_of" = true) (s__law_of : PySem.W.keepIn K (.ref f__law_of) = true)
    {f__law_names : Addr} {od__law_names an__law_names : Option Addr} {sl__law_names : Array (Option Value)} {oc__law_names kV__law_names dc__law_names pm__law_names cd__law_names ct__law_names : Value}
    (g__law_names : PySem.W.nsIn K mainGlobals "_law_names" = some (some (.ref f__law_names)))
    (q__law_names : K.lookup f__law_names = some ⟨oc__law_names, od__law_names, .func (PySem.W.fnOf "_law_names" "_law_names" (defArgs (top 47)) (defBody (top 47)) (defScope (top 47)) .none kV__law_names dc__law_names pm__law_names an__law_names cd__law_names ct__law_names), sl__law_names⟩)
    (r__law_names : PySem.W.codeIn K cd__law_names "_law_names" = true) (s__law_names : PySem.W.keepIn K (.ref f__law_names) = true)
    {f__law_events : Addr} {od__law_events an__law_events : Option Addr} {sl__law_events : Array (Option Value)} {oc__law_events kV__law_events dc__law_events pm__law_events cd__law_events ct__law_events : Value}
    (g__law_events : PySem.W.nsIn K mainGlobals "_law_events" = some (some (.ref f__law_events)))
    (q__law_events : K.lookup f__law_events = some ⟨oc__law_events, od__law_events, .func (PySem.W.fnOf "_law_events" "_law_events" (defArgs (top 48)) (defBody (top 48)) (defScope (top 48)) .none kV__law_events dc__law_events pm__law_events an__law_events cd__law_events ct__law_events), sl__law_events⟩)
    (r__law_events : PySem.W.codeIn K cd__law_events "_law_events" = true) (s__law_events : PySem.W.keepIn K (.ref f__law_events) = true)
    {f__law_answer : Addr} {od__law_answer an__law_answer : Option Addr} {sl__law_answer : Array (Option Value)} {oc__law_answer kV__law_answer dc__law_answer pm__law_answer cd__law_answer ct__law_answer : Value}
    (g__law_answer : PySem.W.nsIn K mainGlobals "_law_answer" = some (some (.ref f__law_answer)))
    (q__law_answer : K.lookup f__law_answer = some ⟨oc__law_answer, od__law_answer, .func (PySem.W.fnOf "_law_answer" "_law_answer" (defArgs (top 49)) (defBody (top 49)) (defScope (top 49)) .none kV__law_answer dc__law_answer pm__law_answer an__law_answer cd__law_answer ct__law_answer), sl__law_answer⟩)
    (r__law_answer : PySem.W.codeIn K cd__law_answer "_law_answer" = true) (s__law_answer : PySem.W.keepIn K (.ref f__law_answer) = true)
    {f__law_book : Addr} {od__law_book an__law_book : Option Addr} {sl__law_book : Array (Option Value)} {oc__law_book kV__law_book dc__law_book pm__law_book cd__law_book ct__law_book : Value}
    (g__law_book : PySem.W.nsIn K mainGlobals "_law_book" = some (some (.ref f__law_book)))
    (q__law_book : K.lookup f__law_book = some ⟨oc__law_book, od__law_book, .func (PySem.W.fnOf "_law_book" "_law_book" (defArgs (top 50)) (defBody (top 50)) (defScope (top 50)) .none kV__law_book dc__law_book pm__law_book an__law_book cd__law_book ct__law_book), sl__law_book⟩)
    (r__law_book : PySem.W.codeIn K cd__law_book "_law_book" = true) (s__law_book : PySem.W.keepIn K (.ref f__law_book) = true)
    {f__law_lines : Addr} {od__law_lines an__law_lines : Option Addr} {sl__law_lines : Array (Option Value)} {oc__law_lines kV__law_lines dc__law_lines pm__law_lines cd__law_lines ct__law_lines : Value}
    (g__law_lines : PySem.W.nsIn K mainGlobals "_law_lines" = some (some (.ref f__law_lines)))
    (q__law_lines : K.lookup f__law_lines = some ⟨oc__law_lines, od__law_lines, .func (PySem.W.fnOf "_law_lines" "_law_lines" (defArgs (top 51)) (defBody (top 51)) (defScope (top 51)) .none kV__law_lines dc__law_lines pm__law_lines an__law_lines cd__law_lines ct__law_lines), sl__law_lines⟩)
    (r__law_lines : PySem.W.codeIn K cd__law_lines "_law_lines" = true) (s__law_lines : PySem.W.keepIn K (.ref f__law_lines) = true)
    {f__law_run_right : Addr} {od__law_run_right an__law_run_right : Option Addr} {sl__law_run_right : Array (Option Value)} {oc__law_run_right kV__law_run_right dc__law_run_right pm__law_run_right cd__law_run_right ct__law_run_right : Value}
    (g__law_run_right : PySem.W.nsIn K mainGlobals "_law_run_right" = some (some (.ref f__law_run_right)))
    (q__law_run_right : K.lookup f__law_run_right = some ⟨oc__law_run_right, od__law_run_right, .func (PySem.W.fnOf "_law_run_right" "_law_run_right" (defArgs (top 52)) (defBody (top 52)) (defScope (top 52)) .none kV__law_run_right dc__law_run_right pm__law_run_right an__law_run_right cd__law_run_right ct__law_run_right), sl__law_run_right⟩)
    (r__law_run_right : PySem.W.codeIn K cd__law_run_right "_law_run_right" = true) (s__law_run_right : PySem.W.keepIn K (.ref f__law_run_right) = true)
    {f__law_book_right : Addr} {od__law_book_right an__law_book_right : Option Addr} {sl__law_book_right : Array (Option Value)} {oc__law_book_right kV__law_book_right dc__law_book_right pm__law_book_right cd__law_book_right ct__law_book_right : Value}
    (g__law_book_right : PySem.W.nsIn K mainGlobals "_law_book_right" = some (some (.ref f__law_book_right)))
    (q__law_book_right : K.lookup f__law_book_right = some ⟨oc__law_book_right, od__law_book_right, .func (PySem.W.fnOf "_law_book_right" "_law_book_right" (defArgs (top 53)) (defBody (top 53)) (defScope (top 53)) .none kV__law_book_right dc__law_book_right pm__law_book_right an__law_book_right cd__law_book_right ct__law_book_right), sl__law_book_right⟩)
    (r__law_book_right : PySem.W.codeIn K cd__law_book_right "_law_book_right" = true) (s__law_book_right : PySem.W.keepIn K (.ref f__law_book_right) = true)
    {f_law : Addr} {od_law an_law : Option Addr} {sl_law : Array (Option Value)} {oc_law kV_law dc_law pm_law cd_law ct_law : Value}
    (g_law : PySem.W.nsIn K mainGlobals "law" = some (some (.ref f_law)))
    (q_law : K.lookup f_law = some ⟨oc_law, od_law, .func (PySem.W.fnOf "law" "law" (defArgs (top 54)) (defBody (top 54)) (defScope (top 54)) .none kV_law dc_law pm_law an_law cd_law ct_law), sl_law⟩)
    (r_law : PySem.W.codeIn K cd_law "law" = true) (s_law : PySem.W.keepIn K (.ref f_law) = true)
    : ∃ fd : FuncData, (∀ (s : Shared) (v : Value), BindsTo s fd ⟨[v], []⟩ [("_law_script", v)]) ∧ ∀ base : Heap, K.In base → base.Ns mainGlobals mg → FnG l.prog w K mg base CX0 7 fa fd ["_law_script"] m_law := by
  have T : Tops K mg w := ⟨(PySem.W.mg_none_of X G z_abs), (PySem.W.mg_none_of X G z_all), (PySem.W.mg_none_of X G z_bool), (PySem.W.mg_none_of X G z_enumerate), (PySem.W.mg_none_of X G z_int), (PySem.W.mg_none_of X G z_isinstance), (PySem.W.mg_none_of X G z_len), (PySem.W.mg_none_of X G z_max), (PySem.W.mg_none_of X G z_min), (PySem.W.mg_none_of X G z_range), (PySem.W.mg_none_of X G z_repr), (PySem.W.mg_none_of X G z_set), (PySem.W.mg_none_of X G z_sorted), (PySem.W.mg_none_of X G z_str), (PySem.W.mg_none_of X G z_tuple), (gc_dict (B := ⟨K, mg, w⟩) (es := [{ key := .str "put" tk_ANSWERS_0, hash := hh_ANSWERS_0, val := (.ref a_ANSWERS_0) }, { key := .str "drop" tk_ANSWERS_1, hash := hh_ANSWERS_1, val := (.ref a_ANSWERS_1) }, { key := .str "look" tk_ANSWERS_2, hash := hh_ANSWERS_2, val := (.ref a_ANSWERS_2) }]) (PySem.W.mg_of X G n_ANSWERS) l_ANSWERS lit_ANSWERS low_ANSWERS ⟨⟨_, rfl⟩, ⟨(.ref a_ANSWERS_0), rfl, (fz_ktup (us := [(.str "done"), (.str "refused"), (.str "again")]) (its := [(.str "done" t_ANSWERS_0_0), (.str "refused" t_ANSWERS_0_1), (.str "again" t_ANSWERS_0_2)]) l_ANSWERS_0 rfl rfl (by simp) (.cons ⟨_, rfl⟩ (.cons ⟨_, rfl⟩ (.cons ⟨_, rfl⟩ .nil))) (fun G => (FzL.cons ((fun G => fz_str _) G) (FzL.cons ((fun G => fz_str _) G) (FzL.cons ((fun G => fz_str _) G) FzL.nil)))))⟩, ⟨⟨_, rfl⟩, ⟨(.ref a_ANSWERS_1), rfl, (fz_ktup (us := [(.str "done"), (.str "none"), (.str "again")]) (its := [(.str "done" t_ANSWERS_1_0), (.str "none" t_ANSWERS_1_1), (.str "again" t_ANSWERS_1_2)]) l_ANSWERS_1 rfl rfl (by simp) (.cons ⟨_, rfl⟩ (.cons ⟨_, rfl⟩ (.cons ⟨_, rfl⟩ .nil))) (fun G => (FzL.cons ((fun G => fz_str _) G) (FzL.cons ((fun G => fz_str _) G) (FzL.cons ((fun G => fz_str _) G) FzL.nil)))))⟩, ⟨⟨_, rfl⟩, ⟨(.ref a_ANSWERS_2), rfl, (fz_ktup (us := [(.str "there"), (.str "none"), (.str "again")]) (its := [(.str "there" t_ANSWERS_2_0), (.str "none" t_ANSWERS_2_1), (.str "again" t_ANSWERS_2_2)]) l_ANSWERS_2 rfl rfl (by simp) (.cons ⟨_, rfl⟩ (.cons ⟨_, rfl⟩ (.cons ⟨_, rfl⟩ .nil))) (fun G => (FzL.cons ((fun G => fz_str _) G) (FzL.cons ((fun G => fz_str _) G) (FzL.cons ((fun G => fz_str _) G) FzL.nil)))))⟩, trivial⟩⟩⟩ (by decide)), (gc_of (v := (.str "begin")) (PySem.W.mg_of X G n_BEGIN) ⟨_, rfl⟩ (fun G => fz_str _)), (gc_of (v := (.str " ")) (PySem.W.mg_of X G n_BLANK) ⟨_, rfl⟩ (fun G => fz_str _)), (gc_of (v := (.str "0123456789")) (PySem.W.mg_of X G n_DIGITS) ⟨_, rfl⟩ (fun G => fz_str _)), (gc_of (v := (.str "\n")) (PySem.W.mg_of X G n_FEED) ⟨_, rfl⟩ (fun G => fz_str _)), (gc_of (v := (.str "abcdefghijklmnopqrstuvwxyz")) (PySem.W.mg_of X G n_LETTERS) ⟨_, rfl⟩ (fun G => fz_str _)), (gc_of (v := (.int (8))) (PySem.W.mg_of X G n_LONGEST_NAME) ⟨_, rfl⟩ (fun G => fz_int _)), (gc_of (v := (.int (8))) (PySem.W.mg_of X G n_MOST_OF_A_KEY) ⟨_, rfl⟩ (fun G => fz_int _)), (gc_of (v := (.int (24))) (PySem.W.mg_of X G n_MOST_RECORDS) ⟨_, rfl⟩ (fun G => fz_int _)), (gc_of (v := (.str "-")) (PySem.W.mg_of X G n_NOTHING) ⟨_, rfl⟩ (fun G => fz_str _)), (gc_of (v := (.ref a_NUMBER_EVENTS)) (PySem.W.mg_of X G n_NUMBER_EVENTS) rfl (fz_ktup (us := [(.str "step"), (.str "stay"), (.str "leave"), (.str "come"), (.str "lapse")]) (its := [(.str "step" t_NUMBER_EVENTS_0), (.str "stay" t_NUMBER_EVENTS_1), (.str "leave" t_NUMBER_EVENTS_2), (.str "come" t_NUMBER_EVENTS_3), (.str "lapse" t_NUMBER_EVENTS_4)]) l_NUMBER_EVENTS rfl rfl (by simp) (.cons ⟨_, rfl⟩ (.cons ⟨_, rfl⟩ (.cons ⟨_, rfl⟩ (.cons ⟨_, rfl⟩ (.cons ⟨_, rfl⟩ .nil))))) (fun G => (FzL.cons ((fun G => fz_str _) G) (FzL.cons ((fun G => fz_str _) G) (FzL.cons ((fun G => fz_str _) G) (FzL.cons ((fun G => fz_str _) G) (FzL.cons ((fun G => fz_str _) G) FzL.nil)))))))), (gc_of (v := (.int (2))) (PySem.W.mg_of X G n_PAIR_reading) ⟨_, rfl⟩ (fun G => fz_int _)), (gc_of (v := (.int (2))) (PySem.W.mg_of X G n_PAIR_showing) ⟨_, rfl⟩ (fun G => fz_int _)), (gc_of (v := (.int (5))) (PySem.W.mg_of X G n_RECORD) ⟨_, rfl⟩ (fun G => fz_int _)), (gc_of (v := (.int (5))) (PySem.W.mg_of X G n_RECORD_WORDS) ⟨_, rfl⟩ (fun G => fz_int _))⟩
  have e := hfa.symm.trans (PySem.W.mg_of X G g_law)
  cases e
  refine ⟨PySem.W.fnOf "law" "law" (defArgs (top 54)) (defBody (top 54)) (defScope (top 54)) .none kV_law dc_law pm_law an_law cd_law ct_law, fun s v => .of_eq rfl, fun base _ _ => ?_⟩
  have d_is_integer : DefOk l.prog w K mg base "is_integer" ["value"] 1 m_is_integer := w_is_integer T (fun_mk (st := top 8) q_is_integer r_is_integer s_is_integer) (PySem.W.mg_of X G g_is_integer)
  have d_is_name : DefOk l.prog w K mg base "is_name" ["value"] 1 m_is_name := w_is_name T (fun_mk (st := top 9) q_is_name r_is_name s_is_name) (PySem.W.mg_of X G g_is_name)
  have d_is_record : DefOk l.prog w K mg base "is_record" ["value"] 2 m_is_record := w_is_record T d_is_name d_is_integer (fun_mk (st := top 17) q_is_record r_is_record s_is_record) (PySem.W.mg_of X G g_is_record)
  have d_is_history : DefOk l.prog w K mg base "is_history" ["value"] 3 m_is_history := w_is_history T d_is_record (fun_mk (st := top 18) q_is_history r_is_history s_is_history) (PySem.W.mg_of X G g_is_history)
  have d_line_of : DefOk l.prog w K mg base "line_of" ["words"] 1 m_line_of := w_line_of T (fun_mk (st := top 26) q_line_of r_line_of s_line_of) (PySem.W.mg_of X G g_line_of)
  have d_is_count : DefOk l.prog w K mg base "is_count" ["value"] 1 m_is_count := w_is_count T (fun_mk (st := top 27) q_is_count r_is_count s_is_count) (PySem.W.mg_of X G g_is_count)
  have d_has_event_form : DefOk l.prog w K mg base "has_event_form" ["value"] 2 m_has_event_form := w_has_event_form T d_is_name d_is_count (fun_mk (st := top 28) q_has_event_form r_has_event_form s_has_event_form) (PySem.W.mg_of X G g_has_event_form)
  have d_show_run : DefOk l.prog w K mg base "show_run" ["run"] 3 m_show_run := w_show_run T d_has_event_form d_line_of (fun_mk (st := top 29) q_show_run r_show_run s_show_run) (PySem.W.mg_of X G g_show_run)
  have d_show_history : DefOk l.prog w K mg base "show_history" ["history"] 4 m_show_history := w_show_history T d_is_history d_line_of (fun_mk (st := top 30) q_show_history r_show_history s_show_history) (PySem.W.mg_of X G g_show_history)
  have d_lines_of : DefOk l.prog w K mg base "lines_of" ["text"] 1 m_lines_of := w_lines_of T (fun_mk (st := top 35) q_lines_of r_lines_of s_lines_of) (PySem.W.mg_of X G g_lines_of)
  have d_number_in : DefOk l.prog w K mg base "number_in" ["word"] 1 m_number_in := w_number_in T (fun_mk (st := top 36) q_number_in r_number_in s_number_in) (PySem.W.mg_of X G g_number_in)
  have d_names_in : DefOk l.prog w K mg base "names_in" ["words", "least"] 2 m_names_in := w_names_in T d_is_name (fun_mk (st := top 37) q_names_in r_names_in s_names_in) (PySem.W.mg_of X G g_names_in)
  have d_event_in : DefOk l.prog w K mg base "event_in" ["words"] 3 m_event_in := w_event_in T d_names_in d_number_in (fun_mk (st := top 38) q_event_in r_event_in s_event_in) (PySem.W.mg_of X G g_event_in)
  have d_record_in : DefOk l.prog w K mg base "record_in" ["words"] 3 m_record_in := w_record_in T d_names_in d_number_in d_is_name (fun_mk (st := top 39) q_record_in r_record_in s_record_in) (PySem.W.mg_of X G g_record_in)
  have d_all_in : DefOk l.prog w K mg base "all_in" ["text", "read"] 4 m_all_in := w_all_in T d_lines_of d_event_in d_record_in (fun_mk (st := top 40) q_all_in r_all_in s_all_in) (PySem.W.mg_of X G g_all_in)
  have d_read_run : DefOk l.prog w K mg base "read_run" ["text"] 5 m_read_run := w_read_run T d_all_in d_event_in (fun_mk (st := top 41) q_read_run r_read_run s_read_run) (PySem.W.mg_of X G g_read_run)
  have d_read_history : DefOk l.prog w K mg base "read_history" ["text"] 5 m_read_history := w_read_history T d_all_in d_record_in d_is_history (fun_mk (st := top 42) q_read_history r_read_history s_read_history) (PySem.W.mg_of X G g_read_history)
  have d__law_jar : DefOk l.prog w K mg base "_law_jar" ["_law_script", "_law_k"] 1 m__law_jar := w__law_jar T (fun_mk (st := top 44) q__law_jar r__law_jar s__law_jar) (PySem.W.mg_of X G g__law_jar)
  have d__law_take : DefOk l.prog w K mg base "_law_take" ["_law_jar_here", "_law_many"] 1 m__law_take := w__law_take T (fun_mk (st := top 45) q__law_take r__law_take s__law_take) (PySem.W.mg_of X G g__law_take)
  have d__law_of : DefOk l.prog w K mg base "_law_of" ["_law_jar_here", "_law_some"] 2 m__law_of := w__law_of T d__law_take (fun_mk (st := top 46) q__law_of r__law_of s__law_of) (PySem.W.mg_of X G g__law_of)
  have d__law_names : DefOk l.prog w K mg base "_law_names" ["_law_jar_here", "_law_many"] 3 m__law_names := w__law_names T d__law_of d__law_take (fun_mk (st := top 47) q__law_names r__law_names s__law_names) (PySem.W.mg_of X G g__law_names)
  have d__law_events : DefOk l.prog w K mg base "_law_events" ["_law_jar_here", "_law_names_here"] 3 m__law_events := w__law_events T d__law_take d__law_of (fun_mk (st := top 48) q__law_events r__law_events s__law_events) (PySem.W.mg_of X G g__law_events)
  have d__law_answer : DefOk l.prog w K mg base "_law_answer" ["_law_jar_here", "_law_sort"] 3 m__law_answer := w__law_answer T d__law_of (fun_mk (st := top 49) q__law_answer r__law_answer s__law_answer) (PySem.W.mg_of X G g__law_answer)
  have d__law_book : DefOk l.prog w K mg base "_law_book" ["_law_jar_here", "_law_names_here"] 4 m__law_book := w__law_book T d__law_take d__law_of d__law_answer (fun_mk (st := top 50) q__law_book r__law_book s__law_book) (PySem.W.mg_of X G g__law_book)
  have d__law_lines : DefOk l.prog w K mg base "_law_lines" ["_law_rows"] 1 m__law_lines := w__law_lines T (fun_mk (st := top 51) q__law_lines r__law_lines s__law_lines) (PySem.W.mg_of X G g__law_lines)
  have d__law_run_right : DefOk l.prog w K mg base "_law_run_right" ["_law_jar_here", "_law_names_here"] 6 m__law_run_right := w__law_run_right T d__law_events d__law_lines d_show_run d_read_run (fun_mk (st := top 52) q__law_run_right r__law_run_right s__law_run_right) (PySem.W.mg_of X G g__law_run_right)
  have d__law_book_right : DefOk l.prog w K mg base "_law_book_right" ["_law_jar_here", "_law_names_here"] 6 m__law_book_right := w__law_book_right T d__law_book d__law_lines d_show_history d_is_history d_read_history (fun_mk (st := top 53) q__law_book_right r__law_book_right s__law_book_right) (PySem.W.mg_of X G g__law_book_right)
  exact fg_law T d_show_run d_show_history d_read_run d_read_history d__law_jar d__law_names d__law_take d__law_book_right d__law_run_right (fun_mk (st := top 54) q_law r_law s_law)
end L2.AL.K11
namespace L2.AL
open PySem PySem.Spec PyProof.Rows
/-! ### comprehensions and loops, by what a turn does -/
theorem lcGo_map {α : Type} {t : Tg} {c : List S → Res Bool} {f : List S → Res E} {vs : List Nat} (F g : α → D) (p : α → Bool) {ρ : List S} : ∀ (l : List α) (acc : List D),
    (∀ a ∈ l, ∃ ρ2 v, tset t (F a) ρ = some ρ2 ∧ c ρ2 = .ok (p a) ρ2 ∧ (p a = true → f ρ2 = .ok v ρ2 ∧ keep1 v ρ2 = some (g a, ρ2)) ∧ wipeS ρ2 vs = ρ) → acc.length + l.length ≤ sizeLine →
    lcGo t c f vs (l.map F) acc ρ = .ok (acc ++ (l.filter p).map g) ρ
  | [], acc, _, _ => by simp [lcGo]
  | a :: l, acc, h, hl => by
    obtain ⟨ρ2, v, h1, h2, h3, h4⟩ := h a List.mem_cons_self
    rw [List.length_cons] at hl
    rw [List.map_cons, lcGo, h1]
    simp only [h2, Res.bind_ok]
    cases hp : p a with
    | false =>
      simp only [Bool.false_eq_true, if_false, h4]
      rw [lcGo_map F g p l acc (fun b hb => h b (List.mem_cons_of_mem _ hb)) (by omega), List.filter_cons, hp]
      simp
    | true =>
      obtain ⟨h5, h6⟩ := h3 hp
      simp only [if_true, h5, Res.bind_ok, h6, h4]
      rw [if_pos (by omega), lcGo_map F g p l _ (fun b hb => h b (List.mem_cons_of_mem _ hb)) (by rw [List.length_append, List.length_singleton]; omega), List.filter_cons, hp]
      simp
theorem aLc_map {α : Type} {it : List S → Res (List D)} {t : Tg} {c : List S → Res Bool} {f : List S → Res E} {vs : List Nat} (F g : α → D) (p : α → Bool) (l : List α) {ρ ρ1 : List S} (hit : it ρ = .ok (l.map F) ρ1) (hno : nOwn ρ1 vs = true)
    (h : ∀ a ∈ l, ∃ ρ2 v, tset t (F a) (wipeS ρ1 vs) = some ρ2 ∧ c ρ2 = .ok (p a) ρ2 ∧ (p a = true → f ρ2 = .ok v ρ2 ∧ keep1 v ρ2 = some (g a, ρ2)) ∧ wipeS ρ2 vs = wipeS ρ1 vs) (hl : l.length ≤ sizeLine) :
    aLc vs it t c f ρ = .ok (.fr (.lst ((l.filter p).map g))) (backS ρ1 (wipeS ρ1 vs) vs) := by
  unfold aLc
  rw [hit, Res.bind_ok, if_pos hno, lcGo_map F g p l [] h (by simpa using hl)]
  rfl
/-- all items -/
theorem aLc_all {α : Type} {it : List S → Res (List D)} {t : Tg} {f : List S → Res E} {vs : List Nat} (F g : α → D) (l : List α) {ρ ρ1 : List S} (hit : it ρ = .ok (l.map F) ρ1) (hno : nOwn ρ1 vs = true)
    (h : ∀ a ∈ l, ∃ ρ2 v, tset t (F a) (wipeS ρ1 vs) = some ρ2 ∧ f ρ2 = .ok v ρ2 ∧ keep1 v ρ2 = some (g a, ρ2) ∧ wipeS ρ2 vs = wipeS ρ1 vs) (hl : l.length ≤ sizeLine) :
    aLc vs it t aYes f ρ = .ok (.fr (.lst (l.map g))) (backS ρ1 (wipeS ρ1 vs) vs) := by
  rw [aLc_map F g (fun _ => true) l hit hno (fun a ha => ?_) hl]
  · rw [List.filter_eq_self.mpr (fun _ _ => rfl)]
  · obtain ⟨ρ2, v, h1, h2, h3, h4⟩ := h a ha
    exact ⟨ρ2, v, h1, rfl, fun _ => ⟨h2, h3⟩, h4⟩
/-- a comprehension whose turns change the state -/
theorem lcGo_ex {t : Tg} {f : List S → Res E} {vs : List Nat} {I : Nat → List S → Prop} {R : D → Prop} : ∀ (xs : List D) (n : Nat) (acc : List D) (ρ : List S),
    (∀ i x ρ, xs[i]? = some x → I (n + i) ρ → ∃ ρ1 v ρ2 y ρ3, tset t x ρ = some ρ1 ∧ f ρ1 = .ok v ρ2 ∧ keep1 v ρ2 = some (y, ρ3) ∧ R y ∧ I (n + i + 1) (wipeS ρ3 vs)) → I n ρ → acc.length + xs.length ≤ sizeLine →
    ∃ ys ρ', lcGo t aYes f vs xs acc ρ = .ok (acc ++ ys) ρ' ∧ ys.length = xs.length ∧ (∀ y ∈ ys, R y) ∧ I (n + xs.length) ρ'
  | [], n, acc, ρ, _, h0, _ => ⟨[], ρ, by simp [lcGo], rfl, by simp, h0⟩
  | x :: xs, n, acc, ρ, h, h0, hl => by
    obtain ⟨ρ1, v, ρ2, y, ρ3, h1, h2, h3, h4, h5⟩ := h 0 x ρ rfl h0
    rw [List.length_cons] at hl
    obtain ⟨ys, ρ', e, e1, e2, e3⟩ := lcGo_ex xs (n + 1) (acc ++ [y]) (wipeS ρ3 vs) (fun i z ρ hz hI => by
      have := h (i + 1) z ρ (by simpa using hz) (by rw [show n + (i + 1) = n + 1 + i by omega]; exact hI)
      rw [show n + 1 + i + 1 = n + (i + 1) + 1 by omega]; exact this) h5 (by rw [List.length_append, List.length_singleton]; omega)
    refine ⟨y :: ys, ρ', ?_, by simp [e1], ?_, ?_⟩
    · rw [lcGo, h1]
      simp only [aYes, Res.bind_ok, if_true, h2, h3]
      rw [if_pos (by omega)]
      have e : lcGo t aYes f vs xs (acc ++ [y]) (wipeS ρ3 vs) = _ := e
      rw [e]; simp
    · intro z hz
      rcases List.mem_cons.mp hz with rfl | hz
      · exact h4
      · exact e2 z hz
    · rw [List.length_cons, show n + (xs.length + 1) = n + 1 + xs.length by omega]; exact e3
theorem aLc_ex {it : List S → Res (List D)} {t : Tg} {f : List S → Res E} {vs : List Nat} {I : Nat → List S → Prop} {R : D → Prop} {xs : List D} {ρ ρ1 : List S} (hit : it ρ = .ok xs ρ1) (hno : nOwn ρ1 vs = true)
    (h : ∀ i x ρ, xs[i]? = some x → I i ρ → ∃ ρ1 v ρ2 y ρ3, tset t x ρ = some ρ1 ∧ f ρ1 = .ok v ρ2 ∧ keep1 v ρ2 = some (y, ρ3) ∧ R y ∧ I (i + 1) (wipeS ρ3 vs)) (h0 : I 0 (wipeS ρ1 vs)) (hl : xs.length ≤ sizeLine) :
    ∃ ys ρ', aLc vs it t aYes f ρ = .ok (.fr (.lst ys)) (backS ρ1 ρ' vs) ∧ ys.length = xs.length ∧ (∀ y ∈ ys, R y) ∧ I xs.length ρ' := by
  obtain ⟨ys, ρ', e, e1, e2, e3⟩ := lcGo_ex (I := I) (R := R) xs 0 [] (wipeS ρ1 vs) (fun i x ρ hx hI => by simpa using h i x ρ hx (by simpa using hI)) h0 (by simpa using hl)
  refine ⟨ys, ρ', ?_, e1, e2, by simpa using e3⟩
  unfold aLc
  rw [hit, Res.bind_ok, if_pos hno, e]
  rfl
theorem forGo_ex {t : Tg} {body : List S → Res Fl} {I : Nat → List S → Prop} : ∀ (xs : List D) (n : Nat) (ρ : List S),
    (∀ i x ρ, xs[i]? = some x → I (n + i) ρ → ∃ ρ1 ρ2, tset t x ρ = some ρ1 ∧ body ρ1 = .ok .nx ρ2 ∧ I (n + i + 1) ρ2) → I n ρ → ∃ ρ', forGo t body xs ρ = .ok .nx ρ' ∧ I (n + xs.length) ρ'
  | [], n, ρ, _, h0 => ⟨ρ, by simp [forGo], h0⟩
  | x :: xs, n, ρ, h, h0 => by
    obtain ⟨ρ1, ρ2, h1, h2, h3⟩ := h 0 x ρ rfl h0
    obtain ⟨ρ', e, e1⟩ := forGo_ex xs (n + 1) ρ2 (fun i z ρ hz hI => by
      have := h (i + 1) z ρ (by simpa using hz) (by rw [show n + (i + 1) = n + 1 + i by omega]; exact hI)
      rw [show n + 1 + i + 1 = n + (i + 1) + 1 by omega]; exact this) h3
    refine ⟨ρ', ?_, ?_⟩
    · rw [forGo, h1]
      simp only [h2]
      exact e
    · rw [List.length_cons, show n + (xs.length + 1) = n + 1 + xs.length by omega]; exact e1
theorem sFor_ex {it : List S → Res (List D)} {t : Tg} {body : List S → Res Fl} {I : Nat → List S → Prop} {xs : List D} {ρ ρ1 : List S} (hit : it ρ = .ok xs ρ1)
    (h : ∀ i x ρ, xs[i]? = some x → I i ρ → ∃ ρ1 ρ2, tset t x ρ = some ρ1 ∧ body ρ1 = .ok .nx ρ2 ∧ I (i + 1) ρ2) (h0 : I 0 ρ1) : ∃ ρ', sFor it t body ρ = .ok .nx ρ' ∧ I xs.length ρ' := by
  obtain ⟨ρ', e, e1⟩ := forGo_ex (I := I) xs 0 ρ1 (fun i x ρ hx hI => by simpa using h i x ρ hx (by simpa using hI)) h0
  exact ⟨ρ', by unfold sFor; rw [hit]; exact e, by simpa using e1⟩
end L2.AL
namespace L2.AL.K11
open PySem PySem.Spec PyProof.Rows L2 L2.AL
theorem int_yes (i : Int) : m_is_integer [.d (.int i)] = .ok (.d (.bl true)) [.d (.int i)] := by
  unfold m_is_integer b_is_integer
  simp [runF, outF, sSeq, sIf, sRet, sRetN, sSet1, sSet, sTg, sExpr, sNx, aVar, aK, aCons, aNil, aOp2, app2, aCall, valL, E.val, aT, aNotT, aAndT, aOrT, aAndV, aOrV, aNotV, aIf, aChain, aTup, aLst, keepL, keep1, freeze, toSL, toS, setL, aFn, appFn, argS, slIx, wb, aIter, D.items?, aMeth, D.tyn, aSlice, aPart, aPartN, gIsi, D.isi, gIs, gIsn, D.is?, D.seq?, aStar, O.toD, eBl, eInt, eStr, tset, tsetL, wipeS, backS, nOwn, D.imm]
/-- the letters -/
def lets : List Nat := [97, 98, 99, 100, 101, 102, 103, 104, 105, 106, 107, 108, 109, 110, 111, 112, 113, 114, 115, 116, 117, 118, 119, 120, 121, 122]
theorem tl_lets : (Str.ofString "abcdefghijklmnopqrstuvwxyz").cps.toList = lets := by decide +kernel
theorem mem_lets (c : Nat) : c ∈ (Str.ofString "abcdefghijklmnopqrstuvwxyz").cps ↔ c ∈ lets := by rw [← Array.mem_toList_iff, tl_lets]
theorem len_lets : (Str.ofString "abcdefghijklmnopqrstuvwxyz").length = 26 := by decide +kernel
def nameB (z : Str) : Bool := decide (1 ≤ z.length ∧ z.length ≤ 8) && z.cps.toList.all fun c => decide (c ∈ lets)
theorem small_line {n : Nat} (h : n ≤ 100000) : n ≤ sizeLine := Nat.le_trans h (by decide)
theorem name_spec (z : Str) (hz : z.length ≤ 100000) : m_is_name [.d (.str z)] = .ok (.d (.bl (nameB z))) [.d (.str z)] := by
  have hl : z.length ≤ sizeLine := small_line hz
  have comp : aLc [1] (aIter (aVar 0)) (.nm 1) aYes (aOp2 gIn (aVar 1) (aK c_LETTERS)) [.d (.str z), .no] = .ok (.fr (.lst (z.cps.toList.map fun c => .bl (decide (c ∈ lets))))) [.d (.str z), .no] := by
    refine aLc_all (fun c => D.str ⟨#[c]⟩) (fun c => D.bl (decide (c ∈ lets))) z.cps.toList (ρ1 := [.d (.str z), .no]) ?_ rfl (fun c hc => ?_) ?_
    · simp [runF, outF, sSeq, sIf, sRet, sRetN, sSet1, sSet, sTg, sExpr, sNx, aVar, aK, aCons, aNil, aOp2, app2, aCall, valL, E.val, aT, aNotT, aAndT, aOrT, aAndV, aOrV, aNotV, aIf, aChain, aTup, aLst, keepL, keep1, freeze, toSL, toS, setL, aFn, appFn, argS, slIx, wb, aIter, D.items?, aMeth, D.tyn, aSlice, aPart, aPartN, gIsi, D.isi, gIs, gIsn, D.is?, D.seq?, aStar, O.toD, eBl, eInt, eStr, tset, tsetL, wipeS, backS, nOwn, D.imm, signs]
    · refine ⟨_, .d (.bl (decide (c ∈ lets))), rfl, ?_, rfl, rfl⟩
      simp [runF, outF, sSeq, sIf, sRet, sRetN, sSet1, sSet, sTg, sExpr, sNx, aVar, aK, aCons, aNil, aOp2, app2, aCall, valL, E.val, aT, aNotT, aAndT, aOrT, aAndV, aOrV, aNotV, aIf, aChain, aTup, aLst, keepL, keep1, freeze, toSL, toS, setL, aFn, appFn, argS, slIx, wb, aIter, D.items?, aMeth, D.tyn, aSlice, aPart, aPartN, gIsi, D.isi, gIs, gIsn, D.is?, D.seq?, aStar, O.toD, eBl, eInt, eStr, tset, tsetL, wipeS, backS, nOwn, D.imm, gIn, D.in?, c_LETTERS, mem_lets]
    · have : z.cps.toList.length = z.length := by simp [Str.length]
      rw [this]; exact hl
  have hall : D.bls? (z.cps.toList.map fun c => D.bl (decide (c ∈ lets))) = some (z.cps.toList.map fun c => decide (c ∈ lets)) := by
    have := bls_map (z.cps.toList.map fun c => decide (c ∈ lets))
    rwa [List.map_map] at this
  have hid : ((z.cps.toList.map fun c => decide (c ∈ lets)).all id) = z.cps.toList.all fun c => decide (c ∈ lets) := by
    rw [List.all_map]; rfl
  unfold m_is_name b_is_name
  by_cases h1 : (1 : Int) ≤ z.length
  · by_cases h2 : (z.length : Int) ≤ 8
    · have hn : nameB z = z.cps.toList.all fun c => decide (c ∈ lets) := by
        unfold nameB
        rw [decide_eq_true (show 1 ≤ z.length ∧ z.length ≤ 8 by omega), Bool.true_and]
      rw [hn]
      simp [runF, outF, sSeq, sIf, sRet, sRetN, sSet1, sSet, sTg, sExpr, sNx, aVar, aK, aCons, aNil, aOp2, app2, aCall, valL, E.val, aT, aNotT, aAndT, aOrT, aAndV, aOrV, aNotV, aIf, aChain, aTup, aLst, keepL, keep1, freeze, toSL, toS, setL, aFn, appFn, argS, slIx, wb, aIter, D.items?, aMeth, D.tyn, aSlice, aPart, aPartN, gIsi, D.isi, gIs, gIsn, D.is?, D.seq?, aStar, O.toD, eBl, eInt, eStr, tset, tsetL, wipeS, backS, nOwn, D.imm, gLe, gLen, c_LONGEST_NAME, hl, h1, h2, comp, gAll, hall, hid, -Array.all_toList, -List.all_map]
    · have hn : nameB z = false := by
        unfold nameB
        rw [decide_eq_false (show ¬ (1 ≤ z.length ∧ z.length ≤ 8) by omega), Bool.false_and]
      rw [hn]
      simp [runF, outF, sSeq, sIf, sRet, sRetN, sSet1, sSet, sTg, sExpr, sNx, aVar, aK, aCons, aNil, aOp2, app2, aCall, valL, E.val, aT, aNotT, aAndT, aOrT, aAndV, aOrV, aNotV, aIf, aChain, aTup, aLst, keepL, keep1, freeze, toSL, toS, setL, aFn, appFn, argS, slIx, wb, aIter, D.items?, aMeth, D.tyn, aSlice, aPart, aPartN, gIsi, D.isi, gIs, gIsn, D.is?, D.seq?, aStar, O.toD, eBl, eInt, eStr, tset, tsetL, wipeS, backS, nOwn, D.imm, gLe, gLen, c_LONGEST_NAME, hl, h1, h2]
  · have hn : nameB z = false := by
      unfold nameB
      rw [decide_eq_false (show ¬ (1 ≤ z.length ∧ z.length ≤ 8) by omega), Bool.false_and]
    rw [hn]
    simp [runF, outF, sSeq, sIf, sRet, sRetN, sSet1, sSet, sTg, sExpr, sNx, aVar, aK, aCons, aNil, aOp2, app2, aCall, valL, E.val, aT, aNotT, aAndT, aOrT, aAndV, aOrV, aNotV, aIf, aChain, aTup, aLst, keepL, keep1, freeze, toSL, toS, setL, aFn, appFn, argS, slIx, wb, aIter, D.items?, aMeth, D.tyn, aSlice, aPart, aPartN, gIsi, D.isi, gIs, gIsn, D.is?, D.seq?, aStar, O.toD, eBl, eInt, eStr, tset, tsetL, wipeS, backS, nOwn, D.imm, gLe, gLen, c_LONGEST_NAME, hl, h1]
end L2.AL.K11
namespace L2.AL.K11
open PySem PySem.Spec PyProof.Rows L2 L2.AL TL
/-! rows of leaves, their lines, their page -/
def LeafOk : D → Prop
  | .non => True
  | .int i => 0 ≤ i ∧ i < 10 ^ 18
  | .str z => nameB z = true
  | _ => False
def word : D → Str
  | .non => "-"
  | .int i => toString i
  | .str z => z
  | _ => ""
def line (r : List D) : Str := Txt.join " " (r.map word)
def page (rs : List (List D)) : Str := Txt.join "\n" (rs.map line)
structure RowOk (r : List D) : Prop where
  ne : r ≠ []
  few : r.length ≤ 5
  leaf : ∀ d ∈ r, LeafOk d
structure RowsOk (rs : List (List D)) : Prop where
  few : rs.length ≤ 50
  row : ∀ r ∈ rs, RowOk r
theorem name_of {z : Str} (h : nameB z = true) : 1 ≤ z.length ∧ z.length ≤ 8 ∧ ∀ c ∈ tl z, c ∈ lets := by
  unfold nameB at h
  rw [Bool.and_eq_true] at h
  have h1 := of_decide_eq_true h.1
  refine ⟨h1.1, h1.2, fun c hc => ?_⟩
  exact of_decide_eq_true (List.all_eq_true.mp h.2 c hc)
theorem lets_of {c : Nat} (h : c ∈ lets) : 97 ≤ c ∧ c ≤ 122 := by
  simp only [lets, List.mem_cons, List.not_mem_nil, or_false] at h
  omega
theorem tl_dash : tl (Str.ofString "-") = [45] := by decide +kernel
theorem tl_blank : tl (Str.ofString " ") = [32] := by decide +kernel
theorem tl_feed : tl (Str.ofString "\n") = [10] := by decide +kernel
theorem len_blank : (Str.ofString " ").length = 1 := by decide +kernel
theorem len_feed : (Str.ofString "\n").length = 1 := by decide +kernel
theorem int_tl {i : Int} (h : 0 ≤ i) : tl (Str.ofString (toString i)) = numL i.toNat := by
  obtain ⟨n, rfl⟩ := Int.eq_ofNat_of_zero_le h
  exact tl_num n
theorem word_ok {d : D} (h : LeafOk d) : (∀ c ∈ tl (word d), c ≠ 10 ∧ c ≠ 32) ∧ 1 ≤ (word d).length ∧ (word d).length ≤ 18 := by
  cases d <;> simp only [LeafOk] at h
  · simp only [word]
    rw [len_tl, tl_dash]
    simp
  · rename_i i
    simp only [word]
    rw [len_tl, int_tl h.1]
    have hn : i.toNat < 10 ^ 18 := by
      have := h.2
      have e : ((10 ^ 18 : Nat) : Int) = (10 : Int) ^ 18 := by decide
      omega
    refine ⟨fun c hc => ?_, ?_, numL_len (by decide) hn⟩
    · have := numL_digits i.toNat c hc
      omega
    · have := numL_ne i.toNat
      cases hq : numL i.toNat with
      | nil => exact absurd hq this
      | cons a b => simp
  · rename_i z
    obtain ⟨h1, h2, h3⟩ := name_of h
    simp only [word]
    refine ⟨fun c hc => ?_, h1, by omega⟩
    have := lets_of (h3 c hc)
    omega
theorem joinL_len (y : List Nat) : ∀ ps : List (List Nat), (joinL y ps).length ≤ (ps.map List.length).sum + ps.length * y.length
  | [] => by simp [joinL]
  | [p] => by simp [joinL]
  | p :: q :: r => by
    have := joinL_len y (q :: r)
    simp only [joinL, List.length_append, List.map_cons, List.sum_cons, List.length_cons] at this ⊢
    rw [Nat.add_mul]
    omega
theorem join_len (y : Str) (ps : List Str) : (Txt.join y ps).length ≤ (ps.map Str.length).sum + ps.length * y.length := by
  rw [len_tl, join_eq, tl_join]
  have := joinL_len (tl y) (ps.map tl)
  rw [List.map_map, List.length_map] at this
  have e : (List.length ∘ tl) = Str.length := by funext x; exact (len_tl x).symm
  rw [e, ← len_tl] at this
  exact this
theorem sum_le {α : Type} (f : α → Nat) (b : Nat) : ∀ l : List α, (∀ x ∈ l, f x ≤ b) → (l.map f).sum ≤ l.length * b
  | [], _ => by simp
  | x :: l, h => by
    have h1 := h x List.mem_cons_self
    have h2 := sum_le f b l fun y hy => h y (List.mem_cons_of_mem _ hy)
    rw [List.map_cons, List.sum_cons, List.length_cons, Nat.add_mul]
    omega
theorem words_sum {r : List D} (h : RowOk r) : ((r.map word).map Str.length).sum + (r.map word).length * 1 ≤ 95 := by
  rw [List.map_map, List.length_map]
  have := sum_le (Str.length ∘ word) 18 r fun d hd => (word_ok (h.leaf d hd)).2.2
  have := h.few
  omega
theorem line_len {r : List D} (h : RowOk r) : (line r).length ≤ 95 := by
  have := join_len (Str.ofString " ") (r.map word)
  rw [len_blank] at this
  exact Nat.le_trans this (words_sum h)
theorem lines_sum {rs : List (List D)} (h : RowsOk rs) : ((rs.map line).map Str.length).sum + (rs.map line).length * 1 ≤ 4800 := by
  rw [List.map_map, List.length_map]
  have := sum_le (Str.length ∘ line) 95 rs fun r hr => line_len (h.row r hr)
  have := h.few
  omega
theorem page_len {rs : List (List D)} (h : RowsOk rs) : (page rs).length ≤ 4800 := by
  have := join_len (Str.ofString "\n") (rs.map line)
  rw [len_feed] at this
  exact Nat.le_trans this (lines_sum h)
/-- words and lines come back -/
theorem joinL_mem {y : List Nat} : ∀ {ps : List (List Nat)} {c : Nat}, c ∈ joinL y ps → c ∈ y ∨ ∃ p ∈ ps, c ∈ p
  | [], c, h => by simp [joinL] at h
  | [p], c, h => .inr ⟨p, List.mem_cons_self, by simpa [joinL] using h⟩
  | p :: q :: r, c, h => by
    simp only [joinL, List.mem_append] at h
    rcases h with h | h | h
    · exact .inr ⟨p, List.mem_cons_self, h⟩
    · exact .inl h
    · rcases joinL_mem h with h | ⟨x, hx, hc⟩
      · exact .inl h
      · exact .inr ⟨x, List.mem_cons_of_mem _ hx, hc⟩
theorem line_split {r : List D} (h : RowOk r) : Txt.split (line r) (Str.ofString " ") = r.map word := by
  refine split_join (s := 32) (S := []) tl_blank (by decide +kernel) (by simpa using h.ne) fun p hp => ?_
  obtain ⟨d, hd, rfl⟩ := List.mem_map.mp hp
  intro hc
  exact ((word_ok (h.leaf d hd)).1 32 hc).2 rfl
theorem page_split {rs : List (List D)} (h : RowsOk rs) (ne : rs ≠ []) : Txt.split (page rs) (Str.ofString "\n") = rs.map line := by
  refine split_join (s := 10) (S := []) tl_feed (by decide +kernel) (by simpa using ne) fun p hp => ?_
  obtain ⟨r, hr, rfl⟩ := List.mem_map.mp hp
  intro hc
  have hc : 10 ∈ tl (line r) := hc
  unfold line at hc
  rw [join_eq, tl_join, tl_blank] at hc
  rcases joinL_mem hc with hc | ⟨q, hq, hc⟩
  · simp at hc
  · obtain ⟨z, hz, rfl⟩ := List.mem_map.mp hq
    obtain ⟨d, hd, rfl⟩ := List.mem_map.mp hz
    exact ((word_ok ((h.row r hr).leaf d hd)).1 10 hc).1 rfl
theorem page_nil : page [] = Str.ofString "" := by decide +kernel
theorem joinL_pos {y : List Nat} {p : List Nat} {ps : List (List Nat)} (h : 1 ≤ p.length) : 1 ≤ (joinL y (p :: ps)).length := by
  cases ps with
  | nil => simpa [joinL] using h
  | cons q r => simp only [joinL, List.length_append]; omega
theorem page_ne {rs : List (List D)} (h : RowsOk rs) (ne : rs ≠ []) : page rs ≠ Str.ofString "" := by
  cases rs with
  | nil => exact absurd rfl ne
  | cons r rs =>
    intro e
    have hr := h.row r List.mem_cons_self
    have e2 : (tl (page (r :: rs))).length = 0 := by rw [e]; decide +kernel
    have h1 : 1 ≤ (tl (line r)).length := by
      cases hq : r with
      | nil => exact absurd hq hr.ne
      | cons d ds =>
        unfold line
        rw [join_eq, tl_join, List.map_cons, List.map_cons]
        refine joinL_pos ?_
        rw [← len_tl]
        exact (word_ok (hr.leaf d (by rw [hq]; exact List.mem_cons_self))).2.1
    have h2 : 1 ≤ (tl (page (r :: rs))).length := by
      unfold page
      rw [join_eq, tl_join, List.map_cons, List.map_cons]
      exact joinL_pos h1
    omega
end L2.AL.K11
namespace L2.AL
open PySem PySem.Spec PyProof.Rows
/-! steps -/
section
variable {ρ ρ1 ρ2 : List S} {f g : List S → Res Fl} {e : List S → Res E} {c : List S → Res Bool} {v : E} {x : D} {o : O}
theorem run_rt {np nl : Nat} (hρ : ρ.length = np) (h : f (ρ ++ List.replicate nl .no) = .ok (.rt (.d x)) ρ1) : runF np nl f ρ = .ok (.d x) (ρ1.take np) := by
  unfold runF; rw [if_pos hρ, h]; rfl
theorem run_fr {np nl : Nat} (hρ : ρ.length = np) (h : f (ρ ++ List.replicate nl .no) = .ok (.rt (.fr o)) ρ1) : runF np nl f ρ = .ok (.fr o) (ρ1.take np) := by
  unfold runF; rw [if_pos hρ, h]; rfl
theorem seq_nx (h : f ρ = .ok .nx ρ1) : sSeq f g ρ = g ρ1 := by unfold sSeq; rw [h]
theorem seq_rt (h : f ρ = .ok (.rt v) ρ1) : sSeq f g ρ = .ok (.rt v) ρ1 := by unfold sSeq; rw [h]
theorem ret_of (h : e ρ = .ok v ρ1) : sRet e ρ = .ok (.rt v) ρ1 := by unfold sRet; rw [h]; rfl
theorem if_t (h : c ρ = .ok true ρ1) : sIf c f g ρ = f ρ1 := by unfold sIf; rw [h]; rfl
theorem if_f (h : c ρ = .ok false ρ1) : sIf c f g ρ = g ρ1 := by unfold sIf; rw [h]; rfl
theorem expr_of (h : e ρ = .ok v ρ1) : sExpr e ρ = .ok .nx ρ1 := by unfold sExpr; rw [h]; rfl
theorem set_d {i : Nat} (h : e ρ = .ok (.d x) ρ1) (hi : i < ρ1.length) : sSet1 i e ρ = .ok .nx (ρ1.set i (.d x)) := by
  simp [sSet1, sSet, aCons, h, aNil, toSL, toS, setL, hi]
theorem set_o {i : Nat} (h : e ρ = .ok (.fr o) ρ1) (hi : i < ρ1.length) : sSet1 i e ρ = .ok .nx (ρ1.set i (.own o)) := by
  simp [sSet1, sSet, aCons, h, aNil, toSL, toS, setL, hi]
theorem aT_of {b : Bool} (h : e ρ = .ok (.d (.bl b)) ρ1) : aT e ρ = .ok b ρ1 := by unfold aT; rw [h]; rfl
theorem aNotT_of {b : Bool} (h : c ρ = .ok b ρ1) : aNotT c ρ = .ok (!b) ρ1 := by unfold aNotT; rw [h]; rfl
/-- a call with one argument that is a content -/
theorem fn1 {F : List S → Res E} {a : List S → Res E} {y : D} (ha : a ρ = .ok (.d x) ρ1) (hF : F [.d x] = .ok (.d y) [.d x]) : aFn F (aCons a aNil) ρ = .ok (.d y) ρ1 := by
  simp [aFn, aCons, ha, aNil, appFn, argS, slIx, hF, wb]
theorem fn1F {F : List S → Res E} {a : List S → Res E} (ha : a ρ = .ok (.d x) ρ1) (hF : F [.d x] = .ok (.fr o) [.d x]) : aFn F (aCons a aNil) ρ = .ok (.fr o) ρ1 := by
  simp [aFn, aCons, ha, aNil, appFn, argS, slIx, hF, wb]
theorem var_d {i : Nat} (h : ρ[i]? = some (.d x)) : aVar i ρ = .ok (.d x) ρ := by unfold aVar; rw [h]
theorem var_o {i : Nat} (h : ρ[i]? = some (.own o)) : aVar i ρ = .ok (.sl i) ρ := by unfold aVar; rw [h]
end
end L2.AL
namespace L2.AL.K11
open PySem PySem.Spec PyProof.Rows L2 L2.AL TL
/-! what the showing defs tell -/
theorem strs_of {α : Type} (f : α → Str) (l : List α) : D.strs? (l.map fun a => D.str (f a)) = some (l.map f) := by
  have := strs_map (l.map f)
  rwa [List.map_map] at this
theorem log_small {n k : Nat} (h : n < 2 ^ k) (hk : 0 < k) : n.log2 < k := by
  by_cases h0 : n = 0
  · subst h0; simpa using hk
  · exact (Nat.log2_lt h0).mpr h
theorem str_word {d : D} (h : LeafOk d) (hn : d ≠ .non) : gStr [d] = some (eStr (word d)) := by
  cases d <;> simp only [LeafOk] at h
  · exact absurd rfl hn
  · rename_i i
    have : i.natAbs.log2 < 1920 := Nat.lt_trans (log_small (k := 64) (by
      have h2 : i.natAbs < 10 ^ 18 := by omega
      exact Nat.lt_trans h2 (by decide)) (by decide)) (by decide)
    simp [gStr, this, word]
  · simp [gStr, word]
/-- line_of -/
theorem line_of_spec (X : D) (ws : List D) (hX : X.items? = some ws) (f : D → Str) (h : ∀ d ∈ ws, gStr [d] = some (eStr (f d))) (hs : ((ws.map f).map Str.length).sum + (ws.map f).length * 1 ≤ 16777216) (hl : ws.length ≤ 100000) :
    m_line_of [.d X] = .ok (.d (.str (Txt.join " " (ws.map f)))) [.d X] := by
  have comp : aLc [1] (aIter (aVar 0)) (.nm 1) aYes (aCall gStr (aCons (aVar 1) aNil)) [.d X, .no] = .ok (.fr (.lst (ws.map fun d => .str (f d)))) [.d X, .no] := by
    refine aLc_all (fun d => d) (fun d => D.str (f d)) ws (ρ1 := [.d X, .no]) ?_ rfl (fun d hd => ?_) (small_line hl)
    · simp [aIter, aVar, keep1, hX]
    · refine ⟨_, .d (.str (f d)), rfl, ?_, rfl, rfl⟩
      have := h d hd
      simp [runF, outF, sSeq, sIf, sRet, sRetN, sSet1, sSet, sTg, sExpr, sNx, aVar, aK, aCons, aNil, aOp2, app2, aCall, valL, E.val, aT, aNotT, aAndT, aOrT, aAndV, aOrV, aNotV, aIf, aChain, aTup, aLst, keepL, keep1, freeze, toSL, toS, setL, aFn, appFn, argS, slIx, wb, aIter, D.items?, aMeth, D.tyn, aSlice, aPart, aPartN, gIsi, D.isi, gIs, gIsn, D.is?, D.seq?, aStar, O.toD, eBl, eInt, eStr, tset, tsetL, wipeS, backS, nOwn, D.imm] at this ⊢
      simp [this]
  have hj : gJoin (.str " ") [.lst (ws.map fun d => .str (f d))] = some (eStr (Txt.join " " (ws.map f))) := by
    simp only [gJoin, strs_of, Option.bind_some]
    rw [len_blank, if_pos hs]
  refine (run_rt (ρ1 := [.d X, .no]) rfl (ret_of ?_)).trans rfl
  show aMeth "str" gJoin (aK c_BLANK) _ [.d X, .no] = _
  simp only [aMeth, aK, Res.bind_ok, c_BLANK, E.val, D.tyn, aCons, comp, aNil, valL, O.toD, hj]
  simp [E.val, hj, valL, O.toD]
theorem flat_rows (rs : List (List D)) : (rs.map D.tup).length = rs.length := List.length_map _
/-- the law's own lines -/
theorem lines_spec {rs : List (List D)} (h : RowsOk rs) : m__law_lines [.d (.tup (rs.map .tup))] = .ok (.d (.str (page rs))) [.d (.tup (rs.map .tup))] := by
  have inner : ∀ r ∈ rs, aMeth "str" gJoin (aK (.str " ")) (aCons (aLc [1] (aIter (aVar 2)) (.nm 1) aYes (aIf (aT (aOp2 gIs (aVar 1) (aK .non))) (aK (.str "-")) (aCall gStr (aCons (aVar 1) aNil)))) aNil) [.d (.tup (rs.map .tup)), .no, .d (.tup r)] = .ok (.d (.str (line r))) [.d (.tup (rs.map .tup)), .no, .d (.tup r)] := by
    intro r hr
    have ok := h.row r hr
    have comp : aLc [1] (aIter (aVar 2)) (.nm 1) aYes (aIf (aT (aOp2 gIs (aVar 1) (aK .non))) (aK (.str "-")) (aCall gStr (aCons (aVar 1) aNil))) [.d (.tup (rs.map .tup)), .no, .d (.tup r)] = .ok (.fr (.lst (r.map fun d => .str (word d)))) [.d (.tup (rs.map .tup)), .no, .d (.tup r)] := by
      refine aLc_all (fun d => d) (fun d => D.str (word d)) r (ρ1 := [.d (.tup (rs.map .tup)), .no, .d (.tup r)]) ?_ rfl (fun d hd => ?_) (small_line (by have := ok.few; omega))
      · simp [aIter, aVar, keep1, D.items?]
      · refine ⟨_, .d (.str (word d)), rfl, ?_, rfl, rfl⟩
        by_cases hn : d = .non
        · subst hn
          simp [runF, outF, sSeq, sIf, sRet, sRetN, sSet1, sSet, sTg, sExpr, sNx, aVar, aK, aCons, aNil, aOp2, app2, aCall, valL, E.val, aT, aNotT, aAndT, aOrT, aAndV, aOrV, aNotV, aIf, aChain, aTup, aLst, keepL, keep1, freeze, toSL, toS, setL, aFn, appFn, argS, slIx, wb, aIter, D.items?, aMeth, D.tyn, aSlice, aPart, aPartN, gIsi, D.isi, gIs, gIsn, D.is?, D.seq?, aStar, O.toD, eBl, eInt, eStr, tset, tsetL, wipeS, backS, nOwn, D.imm, word]
        · have hL := ok.leaf d hd
          have q := str_word hL hn
          cases d <;> simp only [LeafOk] at hL <;> simp [runF, outF, sSeq, sIf, sRet, sRetN, sSet1, sSet, sTg, sExpr, sNx, aVar, aK, aCons, aNil, aOp2, app2, aCall, valL, E.val, aT, aNotT, aAndT, aOrT, aAndV, aOrV, aNotV, aIf, aChain, aTup, aLst, keepL, keep1, freeze, toSL, toS, setL, aFn, appFn, argS, slIx, wb, aIter, D.items?, aMeth, D.tyn, aSlice, aPart, aPartN, gIsi, D.isi, gIs, gIsn, D.is?, D.seq?, aStar, O.toD, eBl, eInt, eStr, tset, tsetL, wipeS, backS, nOwn, D.imm] at q hn ⊢ <;> simp_all [runF, outF, sSeq, sIf, sRet, sRetN, sSet1, sSet, sTg, sExpr, sNx, aVar, aK, aCons, aNil, aOp2, app2, aCall, valL, E.val, aT, aNotT, aAndT, aOrT, aAndV, aOrV, aNotV, aIf, aChain, aTup, aLst, keepL, keep1, freeze, toSL, toS, setL, aFn, appFn, argS, slIx, wb, aIter, D.items?, aMeth, D.tyn, aSlice, aPart, aPartN, gIsi, D.isi, gIs, gIsn, D.is?, D.seq?, aStar, O.toD, eBl, eInt, eStr, tset, tsetL, wipeS, backS, nOwn, D.imm]
    have hj : gJoin (.str " ") [.lst (r.map fun d => .str (word d))] = some (eStr (line r)) := by
      have hs : ((r.map word).map Str.length).sum + (r.map word).length * 1 ≤ 16777216 := Nat.le_trans (words_sum ok) (by decide)
      simp only [gJoin, strs_of, Option.bind_some]
      rw [len_blank, if_pos hs]
      rfl
    simp [aMeth, aK, E.val, D.tyn, aCons, comp, aNil, valL, O.toD, hj]
  have outer : aLc [2] (aIter (aVar 0)) (.nm 2) aYes (aMeth "str" gJoin (aK (.str " ")) (aCons (aLc [1] (aIter (aVar 2)) (.nm 1) aYes (aIf (aT (aOp2 gIs (aVar 1) (aK .non))) (aK (.str "-")) (aCall gStr (aCons (aVar 1) aNil)))) aNil)) [.d (.tup (rs.map .tup)), .no, .no] = .ok (.fr (.lst (rs.map fun r => .str (line r)))) [.d (.tup (rs.map .tup)), .no, .no] := by
    refine aLc_all D.tup (fun r => D.str (line r)) rs (ρ1 := [.d (.tup (rs.map .tup)), .no, .no]) ?_ rfl (fun r hr => ?_) (small_line (by have := h.few; omega))
    · simp [aIter, aVar, keep1, D.items?]
    · exact ⟨_, .d (.str (line r)), rfl, inner r hr, rfl, rfl⟩
  have hj : gJoin (.str "\n") [.lst (rs.map fun r => .str (line r))] = some (eStr (page rs)) := by
    have hs : ((rs.map line).map Str.length).sum + (rs.map line).length * 1 ≤ 16777216 := Nat.le_trans (lines_sum h) (by decide)
    simp only [gJoin, strs_of, Option.bind_some]
    rw [len_feed, if_pos hs]
    rfl
  refine (run_rt (ρ1 := [.d (.tup (rs.map .tup)), .no, .no]) rfl (ret_of ?_)).trans rfl
  show aMeth "str" gJoin (aK (.str "\n")) _ [.d (.tup (rs.map .tup)), .no, .no] = _
  simp [aMeth, aK, E.val, D.tyn, aCons, outer, aNil, valL, O.toD, hj]
/-! events -/
def EvOk (r : List D) : Prop := (∃ nm, r = [.str "begin", .str nm] ∧ nameB nm = true) ∨ ∃ w i, r = [.str w, .int i] ∧ (w = Str.ofString "step" ∨ w = Str.ofString "stay" ∨ w = Str.ofString "leave" ∨ w = Str.ofString "come" ∨ w = Str.ofString "lapse") ∧ 0 ≤ i ∧ i < 10 ^ 18
theorem nm_begin : nameB (Str.ofString "begin") = true := by decide +kernel
theorem ev_row {r : List D} (h : EvOk r) : RowOk r := by
  rcases h with ⟨nm, rfl, h⟩ | ⟨w, i, rfl, hw, h1, h2⟩
  · refine ⟨by simp, by simp, fun d hd => ?_⟩
    simp at hd
    rcases hd with rfl | rfl
    · exact nm_begin
    · exact h
  · refine ⟨by simp, by simp, fun d hd => ?_⟩
    simp at hd
    rcases hd with rfl | rfl
    · rcases hw with rfl | rfl | rfl | rfl | rfl <;> (show nameB _ = true; decide +kernel)
    · exact ⟨h1, h2⟩
theorem nameB_len {z : Str} (h : nameB z = true) : z.length ≤ 100000 := by have := (name_of h).2.1; omega
theorem form_spec {r : List D} (h : EvOk r) : m_has_event_form [.d (.tup r)] = .ok (.d (.bl true)) [.d (.tup r)] := by
  rcases h with ⟨nm, rfl, h⟩ | ⟨w, i, rfl, hw, h1, h2⟩
  · have hn := name_spec nm (nameB_len h)
    rw [h] at hn
    unfold m_has_event_form b_has_event_form
    simp [runF, outF, sSeq, sIf, sRet, sRetN, sSet1, sSet, sTg, sExpr, sNx, aVar, aK, aCons, aNil, aOp2, app2, aCall, valL, E.val, aT, aNotT, aAndT, aOrT, aAndV, aOrV, aNotV, aIf, aChain, aTup, aLst, keepL, keep1, freeze, toSL, toS, setL, aFn, appFn, argS, slIx, wb, aIter, D.items?, aMeth, D.tyn, aSlice, aPart, aPartN, gIsi, D.isi, gIs, gIsn, D.is?, D.seq?, aStar, O.toD, eBl, eInt, eStr, tset, tsetL, wipeS, backS, nOwn, D.imm, gNe, D.eq?, gLen, gIx, atI, ixN, gEq, c_PAIR_showing, c_BEGIN, hn]
  · have hb : (w == Str.ofString "begin") = false := by
      rcases hw with rfl | rfl | rfl | rfl | rfl <;> decide +kernel
    have hin : gIn (.str w) c_NUMBER_EVENTS = some (eBl true) := by
      rcases hw with rfl | rfl | rfl | rfl | rfl <;> rfl
    have hc : m_is_count [.d (.int i)] = .ok (.d (.bl true)) [.d (.int i)] := by
      unfold m_is_count b_is_count
      simp [runF, outF, sSeq, sIf, sRet, sRetN, sSet1, sSet, sTg, sExpr, sNx, aVar, aK, aCons, aNil, aOp2, app2, aCall, valL, E.val, aT, aNotT, aAndT, aOrT, aAndV, aOrV, aNotV, aIf, aChain, aTup, aLst, keepL, keep1, freeze, toSL, toS, setL, aFn, appFn, argS, slIx, wb, aIter, D.items?, aMeth, D.tyn, aSlice, aPart, aPartN, gIsi, D.isi, gIs, gIsn, D.is?, D.seq?, aStar, O.toD, eBl, eInt, eStr, tset, tsetL, wipeS, backS, nOwn, D.imm, gGe, h1]
    unfold m_has_event_form b_has_event_form
    simp [runF, outF, sSeq, sIf, sRet, sRetN, sSet1, sSet, sTg, sExpr, sNx, aVar, aK, aCons, aNil, aOp2, app2, aCall, valL, E.val, aT, aNotT, aAndT, aOrT, aAndV, aOrV, aNotV, aIf, aChain, aTup, aLst, keepL, keep1, freeze, toSL, toS, setL, aFn, appFn, argS, slIx, wb, aIter, D.items?, aMeth, D.tyn, aSlice, aPart, aPartN, gIsi, D.isi, gIs, gIsn, D.is?, D.seq?, aStar, O.toD, eBl, eInt, eStr, tset, tsetL, wipeS, backS, nOwn, D.imm, gNe, D.eq?, gLen, gIx, atI, ixN, gEq, c_PAIR_showing, c_BEGIN, hb, hin, hc]
end L2.AL.K11
namespace L2.AL.K11
open PySem PySem.Spec PyProof.Rows L2 L2.AL TL
theorem enum_get {xs : List D} {i : Nat} {x : D} (h : (enumD xs)[i]? = some x) : ∃ y, xs[i]? = some y ∧ x = .tup [.int i, y] := by
  unfold enumD at h
  rw [List.getElem?_mapIdx] at h
  obtain ⟨y, e1, e2⟩ := Option.map_eq_some_iff.mp h
  exact ⟨y, e1, e2.symm⟩
theorem ev_non {r : List D} (h : EvOk r) : ∀ d ∈ r, d ≠ .non := by
  rcases h with ⟨nm, rfl, h⟩ | ⟨w, i, rfl, hw, h1, h2⟩ <;> (intro d hd; simp at hd; rcases hd with rfl | rfl <;> simp)
/-- the page of rows, each row's line by line_of -/
theorem page_of {X : D} {Y : List D → D} {rs : List (List D)} {ρ : List S} {i : Nat} {k : Nat} {it : List S → Res (List D)} (h : RowsOk rs) (hit : it ρ = .ok (rs.map Y) ρ) (hno : nOwn ρ [k] = true) (hk : k < ρ.length) (hb : backS ρ (wipeS ρ [k]) [k] = ρ)
    (hY : ∀ r ∈ rs, m_line_of [.d (Y r)] = .ok (.d (.str (line r))) [.d (Y r)]) :
    aMeth "str" gJoin (aK c_FEED) (aCons (aLc [k] it (.nm k) aYes (aFn m_line_of (aCons (aVar k) aNil))) aNil) ρ = .ok (.d (.str (page rs))) ρ := by
  have comp : aLc [k] it (.nm k) aYes (aFn m_line_of (aCons (aVar k) aNil)) ρ = .ok (.fr (.lst (rs.map fun r => .str (line r)))) ρ := by
    have := aLc_all (it := it) (t := .nm k) (f := aFn m_line_of (aCons (aVar k) aNil)) (vs := [k]) Y (fun r => D.str (line r)) rs hit hno (fun r hr => ?_) (small_line (by have := h.few; omega))
    · rw [hb] at this; exact this
    · refine ⟨(wipeS ρ [k]).set k (.d (Y r)), .d (.str (line r)), rfl, fn1 (var_d (x := Y r) ?_) (hY r hr), rfl, ?_⟩
      · rw [List.getElem?_set_self (by rw [wipeS_length]; exact hk)]
      · simp [wipeS]
  have hj : gJoin (.str "\n") [.lst (rs.map fun r => .str (line r))] = some (eStr (page rs)) := by
    have hs : ((rs.map line).map Str.length).sum + (rs.map line).length * 1 ≤ 16777216 := Nat.le_trans (lines_sum h) (by decide)
    simp only [gJoin, strs_of, Option.bind_some]
    rw [len_feed, if_pos hs]
    rfl
  simp [aMeth, aK, E.val, D.tyn, aCons, comp, aNil, valL, O.toD, hj, c_FEED]
theorem line_tup {r : List D} (h : RowOk r) (hn : ∀ d ∈ r, d ≠ .non) : m_line_of [.d (.tup r)] = .ok (.d (.str (line r))) [.d (.tup r)] :=
  line_of_spec (.tup r) r rfl word (fun d hd => str_word (h.leaf d hd) (hn d hd)) (Nat.le_trans (words_sum h) (by decide)) (by have := h.few; omega)
theorem show_run_spec {rs : List (List D)} (h : RowsOk rs) (he : ∀ r ∈ rs, EvOk r) : m_show_run [.d (.tup (rs.map .tup))] = .ok (.d (.str (page rs))) [.d (.tup (rs.map .tup))] := by
  have loop : ∃ ρ', sFor (aEnumA (aCons (aVar 0) aNil)) (.tp [(.nm 1), (.nm 2)]) (sIf (aNotT (aT (aFn m_has_event_form (aCons (aVar 2) aNil)))) sNo sNx) [.d (.tup (rs.map .tup)), .no, .no] = .ok .nx ρ' ∧ ∃ a b, ρ' = [.d (.tup (rs.map .tup)), a, b] ∧ nOwn ρ' [2] = true := by
    refine sFor_ex (I := fun _ ρ => ∃ a b, ρ = [.d (.tup (rs.map .tup)), a, b] ∧ nOwn ρ [2] = true) (xs := enumD (rs.map .tup)) (ρ1 := [.d (.tup (rs.map .tup)), .no, .no]) ?_ ?_ ⟨_, _, rfl, rfl⟩
    · simp [aEnumA, aCons, aVar, aNil, keep1]
    · rintro i x ρ hx ⟨a, b, rfl, _⟩
      obtain ⟨y, hy, rfl⟩ := enum_get hx
      obtain ⟨r, hr, rfl⟩ := map_get hy
      have hev := he r (List.mem_of_getElem? hr)
      refine ⟨[.d (.tup (rs.map .tup)), .d (.int i), .d (.tup r)], [.d (.tup (rs.map .tup)), .d (.int i), .d (.tup r)], rfl, ?_, _, _, rfl, rfl⟩
      rw [if_f (ρ1 := [.d (.tup (rs.map .tup)), .d (.int i), .d (.tup r)])]
      · rfl
      · exact aNotT_of (b := true) (aT_of (fn1 (var_d rfl) (form_spec hev)))
  obtain ⟨ρ', e, a, b, rfl, hno⟩ := loop
  refine (run_rt (ρ1 := [.d (.tup (rs.map .tup)), a, b]) rfl ?_).trans rfl
  unfold b_show_run
  rw [seq_nx (ρ1 := [.d (.tup (rs.map .tup)), .no, .no]) (by simp [runF, outF, sSeq, sIf, sRet, sRetN, sSet1, sSet, sTg, sExpr, sNx, aVar, aK, aCons, aNil, aOp2, app2, aCall, valL, E.val, aT, aNotT, aAndT, aOrT, aAndV, aOrV, aNotV, aIf, aChain, aTup, aLst, keepL, keep1, freeze, toSL, toS, setL, aFn, appFn, argS, slIx, wb, aIter, D.items?, aMeth, D.tyn, aSlice, aPart, aPartN, gIsi, D.isi, gIs, gIsn, D.is?, D.seq?, aStar, O.toD, eBl, eInt, eStr, tset, tsetL, wipeS, backS, nOwn, D.imm]), seq_nx e]
  refine ret_of ?_
  exact page_of (X := .non) (i := 0) (Y := D.tup) h (by simp [aIter, aVar, keep1, D.items?]) hno (by simp) (by simp [wipeS, backS]) fun r hr => line_tup (h.row r hr) (ev_non (he r hr))
/-! reading -/
theorem lines_of_spec {rs : List (List D)} (h : RowsOk rs) (ne : rs ≠ []) : m_lines_of [.d (.str (page rs))] = .ok (.fr (.lst (rs.map fun r => .lst (r.map fun d => .str (word d))))) [.d (.str (page rs))] := by
  have hb : (Str.ofString "\n").length = 1 := len_feed
  have hb2 : (Str.ofString " ").length = 1 := len_blank
  have hl : (page rs).length + 2 ≤ sizeLine := small_line (by have := page_len h; omega)
  have e1 : aIter (aMeth "str" gSplit (aVar 0) (aCons (aK c_FEED) aNil)) [.d (.str (page rs)), .no] = .ok (rs.map fun r => .str (line r)) [.d (.str (page rs)), .no] := by
    have hs : gSplit (.str (page rs)) [.str (Str.ofString "\n")] = some (.fr (.lst (rs.map fun r => .str (line r)))) := by
      simp only [gSplit]
      rw [if_pos ⟨by rw [hb]; rfl, hl⟩, page_split h ne, List.map_map]
      rfl
    simp [aIter, aMeth, aVar, aK, E.val, D.tyn, aCons, aNil, valL, c_FEED, hs, keep1, O.toD, D.items?]
  have comp : aLc [1] (aIter (aMeth "str" gSplit (aVar 0) (aCons (aK c_FEED) aNil))) (.nm 1) aYes (aMeth "str" gSplit (aVar 1) (aCons (aK c_BLANK) aNil)) [.d (.str (page rs)), .no] = .ok (.fr (.lst (rs.map fun r => .lst (r.map fun d => .str (word d))))) [.d (.str (page rs)), .no] := by
    refine aLc_all (fun r => D.str (line r)) (fun r => D.lst (r.map fun d => .str (word d))) rs (ρ1 := [.d (.str (page rs)), .no]) e1 rfl (fun r hr => ?_) (small_line (by have := h.few; omega))
    refine ⟨_, .fr (.lst (r.map fun d => .str (word d))), rfl, ?_, rfl, rfl⟩
    have hs : gSplit (.str (line r)) [.str (Str.ofString " ")] = some (.fr (.lst (r.map fun d => .str (word d)))) := by
      have hl2 : (line r).length + 2 ≤ sizeLine := small_line (by have := line_len (h.row r hr); omega)
      simp only [gSplit]
      rw [if_pos ⟨by rw [hb2]; rfl, hl2⟩, line_split (h.row r hr), List.map_map]
      rfl
    simp [aMeth, aVar, aK, E.val, D.tyn, aCons, aNil, valL, c_BLANK, hs, wipeS]
  refine (run_fr (ρ1 := [.d (.str (page rs)), .no]) rfl ?_).trans rfl
  unfold b_lines_of
  rw [seq_nx (ρ1 := [.d (.str (page rs)), .no]) (by simp [runF, outF, sSeq, sIf, sRet, sRetN, sSet1, sSet, sTg, sExpr, sNx, aVar, aK, aCons, aNil, aOp2, app2, aCall, valL, E.val, aT, aNotT, aAndT, aOrT, aAndV, aOrV, aNotV, aIf, aChain, aTup, aLst, keepL, keep1, freeze, toSL, toS, setL, aFn, appFn, argS, slIx, wb, aIter, D.items?, aMeth, D.tyn, aSlice, aPart, aPartN, gIsi, D.isi, gIs, gIsn, D.is?, D.seq?, aStar, O.toD, eBl, eInt, eStr, tset, tsetL, wipeS, backS, nOwn, D.imm])]
  exact ret_of comp
/-- digits -/
theorem numL_head : ∀ (n : Nat), 0 < n → ∃ c r, numL n = c :: r ∧ c ≠ 48 := by
  intro n
  induction n using Nat.strongRecOn with
  | _ n ih =>
    intro h0
    by_cases h : n < 10
    · exact ⟨48 + n, [], numL_lt h, by omega⟩
    · obtain ⟨c, r, e, hc⟩ := ih (n / 10) (by omega) (by omega)
      exact ⟨c, r ++ [48 + n % 10], by rw [numL_step (by omega), e]; rfl, hc⟩
def digs : List Nat := [48, 49, 50, 51, 52, 53, 54, 55, 56, 57]
theorem mem_digs (c : Nat) : c ∈ (Str.ofString "0123456789").cps ↔ c ∈ digs := by
  rw [← Array.mem_toList_iff, show (Str.ofString "0123456789").cps.toList = digs by decide +kernel]
theorem number_spec {i : Int} (h0 : 0 ≤ i) (h1 : i < 10 ^ 18) : m_number_in [.d (.str (toString i))] = .ok (.d (.int i)) [.d (.str (toString i))] := by
  obtain ⟨n, rfl⟩ := Int.eq_ofNat_of_zero_le h0
  have hn : n < 10 ^ 18 := by
    have e : ((10 ^ 18 : Nat) : Int) = (10 : Int) ^ 18 := by decide
    omega
  obtain ⟨z, hz⟩ : ∃ z : Str, z = Str.ofString (toString ((n : Nat) : Int)) := ⟨_, rfl⟩
  have tz : tl z = numL n := by rw [hz]; exact tl_num n
  have lz : z.length ≤ 18 := by rw [len_tl, tz]; exact numL_len (by decide) hn
  have iz : intText? z = some (n : Int) := by rw [hz]; exact int_num (by have := numL_len (k := 18) (by decide) hn; omega)
  show m_number_in [.d (.str (Str.ofString (toString ((n : Nat) : Int))))] = _
  rw [← hz]
  have ze : (z == Str.ofString "") = false := by
    rw [beq_eq_false_iff_ne]
    intro e
    have : tl z = [] := by rw [e]; decide +kernel
    rw [tz] at this
    exact numL_ne n this
  have comp : aLc [1] (aIter (aVar 0)) (.nm 1) aYes (aOp2 gIn (aVar 1) (aK c_DIGITS)) [.d (.str z), .no] = .ok (.fr (.lst (z.cps.toList.map fun c => .bl true))) [.d (.str z), .no] := by
    refine aLc_all (fun c => D.str ⟨#[c]⟩) (fun c => D.bl true) z.cps.toList (ρ1 := [.d (.str z), .no]) ?_ rfl (fun c hc => ?_) ?_
    · simp [runF, outF, sSeq, sIf, sRet, sRetN, sSet1, sSet, sTg, sExpr, sNx, aVar, aK, aCons, aNil, aOp2, app2, aCall, valL, E.val, aT, aNotT, aAndT, aOrT, aAndV, aOrV, aNotV, aIf, aChain, aTup, aLst, keepL, keep1, freeze, toSL, toS, setL, aFn, appFn, argS, slIx, wb, aIter, D.items?, aMeth, D.tyn, aSlice, aPart, aPartN, gIsi, D.isi, gIs, gIsn, D.is?, D.seq?, aStar, O.toD, eBl, eInt, eStr, tset, tsetL, wipeS, backS, nOwn, D.imm, signs]
    · refine ⟨_, .d (.bl true), rfl, ?_, rfl, rfl⟩
      have hc : c ∈ tl z := hc
      rw [tz] at hc
      have hd := numL_digits n c hc
      have : c ∈ digs := by simp only [digs, List.mem_cons, List.not_mem_nil, or_false]; omega
      simp [runF, outF, sSeq, sIf, sRet, sRetN, sSet1, sSet, sTg, sExpr, sNx, aVar, aK, aCons, aNil, aOp2, app2, aCall, valL, E.val, aT, aNotT, aAndT, aOrT, aAndV, aOrV, aNotV, aIf, aChain, aTup, aLst, keepL, keep1, freeze, toSL, toS, setL, aFn, appFn, argS, slIx, wb, aIter, D.items?, aMeth, D.tyn, aSlice, aPart, aPartN, gIsi, D.isi, gIs, gIsn, D.is?, D.seq?, aStar, O.toD, eBl, eInt, eStr, tset, tsetL, wipeS, backS, nOwn, D.imm, gIn, D.in?, c_DIGITS, mem_digs, this]
    · have : z.cps.toList.length = z.length := by simp [Str.length]
      rw [this]; exact small_line (by omega)
  have hall : gAll [.lst (z.cps.toList.map fun c => .bl true)] = some (eBl true) := by
    have q := bls_map (z.cps.toList.map fun c => true)
    rw [List.map_map] at q
    have q : D.bls? (z.cps.toList.map fun c => D.bl true) = some (z.cps.toList.map fun c => true) := q
    simp only [gAll, q, Option.map_some, List.all_map]
    congr 1
    simp
  have hlast : ∃ b c, gIx (.str z) (.int 0) = some (eStr ⟨#[c]⟩) ∧ b = ((⟨#[c]⟩ : Str) == Str.ofString "0") ∧ (b = true → (z == Str.ofString "0") = true) := by
    have hsz : z.length ≤ sizeLine := small_line (by omega)
    by_cases h : n = 0
    · subst h
      have : z = Str.ofString "0" := by rw [hz]; decide +kernel
      subst this
      exact ⟨true, 48, rfl, by decide +kernel, fun _ => by decide +kernel⟩
    · obtain ⟨c, r, e, hc⟩ := numL_head n (by omega)
      refine ⟨false, c, ?_, ?_, fun z => by cases z⟩
      · have e' : z.cps.toList = c :: r := tz.trans e
        simp [gIx, hsz, e', atI, ixN]
      · symm
        rw [beq_eq_false_iff_ne]
        intro q
        have : tl (⟨#[c]⟩ : Str) = [48] := by rw [q]; decide +kernel
        have : c = 48 := by simpa [tl] using this
        exact hc this
  obtain ⟨b, c, hi, hb, hb2⟩ := hlast
  have hint : gInt [.str z] = some (eInt n) := by
    simp only [gInt]
    rw [if_pos (by omega), iz]
    rfl
  unfold m_number_in b_number_in
  cases b with
  | false => simp [runF, outF, sSeq, sIf, sRet, sRetN, sSet1, sSet, sTg, sExpr, sNx, aVar, aK, aCons, aNil, aOp2, app2, aCall, valL, E.val, aT, aNotT, aAndT, aOrT, aAndV, aOrV, aNotV, aIf, aChain, aTup, aLst, keepL, keep1, freeze, toSL, toS, setL, aFn, appFn, argS, slIx, wb, aIter, D.items?, aMeth, D.tyn, aSlice, aPart, aPartN, gIsi, D.isi, gIs, gIsn, D.is?, D.seq?, aStar, O.toD, eBl, eInt, eStr, tset, tsetL, wipeS, backS, nOwn, D.imm, gEq, D.eq?, ze, comp, hall, hi, ← hb, hint]
  | true => simp [runF, outF, sSeq, sIf, sRet, sRetN, sSet1, sSet, sTg, sExpr, sNx, aVar, aK, aCons, aNil, aOp2, app2, aCall, valL, E.val, aT, aNotT, aAndT, aOrT, aAndV, aOrV, aNotV, aIf, aChain, aTup, aLst, keepL, keep1, freeze, toSL, toS, setL, aFn, appFn, argS, slIx, wb, aIter, D.items?, aMeth, D.tyn, aSlice, aPart, aPartN, gIsi, D.isi, gIs, gIsn, D.is?, D.seq?, aStar, O.toD, eBl, eInt, eStr, tset, tsetL, wipeS, backS, nOwn, D.imm, gEq, gNe, D.eq?, ze, comp, hall, hi, ← hb, hb2 rfl, hint]
end L2.AL.K11
namespace L2.AL.K11
open PySem PySem.Spec PyProof.Rows L2 L2.AL TL
theorem blsT (l : List Str) : D.bls? (l.map fun _ => D.bl true) = some (l.map fun _ => true) := by
  have := bls_map (l.map fun _ => true)
  rwa [List.map_map] at this
theorem gAllT (l : List Str) : gAll [.lst (l.map fun _ => D.bl true)] = some (eBl true) := by
  simp only [gAll, blsT, Option.map_some, List.all_map]
  congr 1
  simp
theorem names_spec {ss : List Str} (h2 : 2 ≤ ss.length) (hl : ss.length ≤ 100) (hn : ∀ z ∈ ss, nameB z = true) (s : S) (hs : s = .d (.lst (ss.map .str)) ∨ s = .own (.lst (ss.map .str))) :
    m_names_in [s, .d (.int 2)] = .ok (.d (.tup (ss.map .str))) [.d (.lst (ss.map .str)), .d (.int 2)] := by
  have comp : aLc [2] (aIter (aVar 0)) (.nm 2) aYes (aFn m_is_name (aCons (aVar 2) aNil)) [s, .d (.int 2), .no] = .ok (.fr (.lst (ss.map fun _ => .bl true))) [.d (.lst (ss.map .str)), .d (.int 2), .no] := by
    refine aLc_all D.str (fun _ => D.bl true) ss (ρ1 := [.d (.lst (ss.map .str)), .d (.int 2), .no]) ?_ rfl (fun z hz => ?_) (small_line (by omega))
    · rcases hs with rfl | rfl <;> simp [runF, outF, sSeq, sIf, sRet, sRetN, sSet1, sSet, sTg, sExpr, sNx, aVar, aK, aCons, aNil, aOp2, app2, aCall, valL, E.val, aT, aNotT, aAndT, aOrT, aAndV, aOrV, aNotV, aIf, aChain, aTup, aLst, keepL, keep1, freeze, toSL, toS, setL, aFn, appFn, argS, slIx, wb, aIter, D.items?, aMeth, D.tyn, aSlice, aPart, aPartN, gIsi, D.isi, gIs, gIsn, D.is?, D.seq?, aStar, O.toD, eBl, eInt, eStr, tset, tsetL, wipeS, backS, nOwn, D.imm]
    · refine ⟨_, .d (.bl true), rfl, fn1 (var_d rfl) ?_, rfl, rfl⟩
      have := name_spec z (nameB_len (hn z hz))
      rw [hn z hz] at this
      exact this
  have hge : (2 : Int) ≤ ss.length := by omega
  have hA := gAllT ss
  refine (run_rt (ρ1 := [.d (.lst (ss.map .str)), .d (.int 2), .no]) rfl (ret_of ?_)).trans rfl
  rcases hs with rfl | rfl <;> simp [runF, outF, sSeq, sIf, sRet, sRetN, sSet1, sSet, sTg, sExpr, sNx, aVar, aK, aCons, aNil, aOp2, app2, aCall, valL, E.val, aT, aNotT, aAndT, aOrT, aAndV, aOrV, aNotV, aIf, aChain, aTup, aLst, keepL, keep1, freeze, toSL, toS, setL, aFn, appFn, argS, slIx, wb, aIter, D.items?, aMeth, D.tyn, aSlice, aPart, aPartN, gIsi, D.isi, gIs, gIsn, D.is?, D.seq?, aStar, O.toD, eBl, eInt, eStr, tset, tsetL, wipeS, backS, nOwn, D.imm, gGe, gLen, hge, comp, hA, gTuple]
theorem word_s (z : Str) : word (.str z) = z := rfl
theorem event_spec {r : List D} (h : EvOk r) : m_event_in [.d (.lst (r.map fun d => .str (word d)))] = .ok (.d (.tup r)) [.d (.lst (r.map fun d => .str (word d)))] := by
  rcases h with ⟨nm, rfl, h⟩ | ⟨w, i, rfl, hw, h1, h2⟩
  · have hn := names_spec (ss := [Str.ofString "begin", nm]) (by simp) (by simp) (fun z hz => by
      simp at hz
      rcases hz with rfl | rfl
      · exact nm_begin
      · exact h) _ (.inl rfl)
    simp only [List.map_cons, List.map_nil] at hn
    unfold m_event_in b_event_in
    simp [runF, outF, sSeq, sIf, sRet, sRetN, sSet1, sSet, sTg, sExpr, sNx, aVar, aK, aCons, aNil, aOp2, app2, aCall, valL, E.val, aT, aNotT, aAndT, aOrT, aAndV, aOrV, aNotV, aIf, aChain, aTup, aLst, keepL, keep1, freeze, toSL, toS, setL, aFn, appFn, argS, slIx, wb, aIter, D.items?, aMeth, D.tyn, aSlice, aPart, aPartN, gIsi, D.isi, gIs, gIsn, D.is?, D.seq?, aStar, O.toD, eBl, eInt, eStr, tset, tsetL, wipeS, backS, nOwn, D.imm, gNe, gEq, D.eq?, gLen, gIx, atI, ixN, c_PAIR_reading, c_BEGIN, word, hn]
  · have hb : (w == Str.ofString "begin") = false := by
      rcases hw with rfl | rfl | rfl | rfl | rfl <;> decide +kernel
    have hin : gIn (.str w) c_NUMBER_EVENTS = some (eBl true) := by
      rcases hw with rfl | rfl | rfl | rfl | rfl <;> rfl
    have hn : m_number_in [.d (.str (word (.int i)))] = .ok (.d (.int i)) [.d (.str (word (.int i)))] := number_spec h1 h2
    rw [List.map_cons, List.map_cons, List.map_nil, word_s]
    generalize word (.int i) = z at hn
    have s2 : 2 ≤ sizeLine := small_line (by decide)
    unfold m_event_in b_event_in
    simp [runF, outF, sSeq, sIf, sRet, sRetN, sSet1, sSet, sTg, sExpr, sNx, aVar, aK, aCons, aNil, aOp2, app2, aCall, valL, E.val, aT, aNotT, aAndT, aOrT, aAndV, aOrV, aNotV, aIf, aChain, aTup, aLst, keepL, keep1, freeze, toSL, toS, setL, aFn, appFn, argS, slIx, wb, aIter, D.items?, aMeth, D.tyn, aSlice, aPart, aPartN, gIsi, D.isi, gIs, gIsn, D.is?, D.seq?, aStar, O.toD, eBl, eInt, eStr, tset, tsetL, wipeS, backS, nOwn, D.imm, gNe, gEq, D.eq?, gLen, gIx, atI, ixN, c_PAIR_reading, c_BEGIN, hb, hn, hin, s2]
/-! records -/
structure RecOk (r : List D) : Prop where
  form : ∃ b e k s a, r = [.int b, e, .str k, .str s, a] ∧ 0 ≤ b ∧ b < 10 ^ 18 ∧ nameB k = true ∧ nameB s = true ∧ ((e = .non ∨ ∃ t, e = .int t ∧ 0 ≤ t ∧ t < 10 ^ 18)) ∧ (a = .non ∨ ∃ z, a = .str z ∧ nameB z = true)
theorem rec_row {r : List D} (h : RecOk r) : RowOk r := by
  obtain ⟨b, e, k, s, a, rfl, h1, h2, h3, h4, h5, h6⟩ := h.form
  refine ⟨by simp, by simp, fun d hd => ?_⟩
  simp at hd
  rcases hd with rfl | rfl | rfl | rfl | rfl
  · exact ⟨h1, h2⟩
  · rcases h5 with rfl | ⟨t, rfl, hq⟩
    · trivial
    · exact hq
  · exact h3
  · exact h4
  · rcases h6 with rfl | ⟨z, rfl, hq⟩
    · trivial
    · exact hq
theorem int_dash {i : Int} (h : 0 ≤ i) : ((Str.ofString (toString i)) == Str.ofString "-") = false := by
  rw [beq_eq_false_iff_ne]
  intro e
  have q : tl (Str.ofString (toString i)) = [45] := by rw [e]; exact tl_dash
  rw [int_tl h] at q
  have := numL_digits i.toNat 45 (by rw [q]; simp)
  omega
theorem name_dash {z : Str} (h : nameB z = true) : (z == Str.ofString "-") = false := by
  rw [beq_eq_false_iff_ne]
  intro e
  have q : tl z = [45] := by rw [e]; exact tl_dash
  have := lets_of ((name_of h).2.2 45 (by rw [q]; simp))
  omega
theorem record_spec {r : List D} (h : RecOk r) : m_record_in [.d (.lst (r.map fun d => .str (word d)))] = .ok (.d (.tup r)) [.d (.lst (r.map fun d => .str (word d)))] := by
  obtain ⟨b, e, k, s, a, rfl, h1, h2, h3, h4, h5, h6⟩ := h.form
  have hn := names_spec (ss := [k, s]) (by simp) (by simp) (fun z hz => by
      simp at hz
      rcases hz with rfl | rfl
      · exact h3
      · exact h4) _ (.inr rfl)
  simp only [List.map_cons, List.map_nil] at hn
  have hb : m_number_in [.d (.str (word (.int b)))] = .ok (.d (.int b)) [.d (.str (word (.int b)))] := number_spec h1 h2
  have s4 : 4 ≤ sizeLine := small_line (by decide)
  have s5 : 5 ≤ sizeLine := small_line (by decide)
  obtain ⟨e1, hE, hE2⟩ : ∃ z : Str, word e = z ∧ ((e = .non ∧ (z == Str.ofString "-") = true) ∨ ∃ t, e = .int t ∧ (z == Str.ofString "-") = false ∧ m_number_in [.d (.str z)] = .ok (.d (.int t)) [.d (.str z)]) := by
    refine ⟨_, rfl, ?_⟩
    rcases h5 with rfl | ⟨t, rfl, h5, h7⟩
    · exact .inl ⟨rfl, by decide +kernel⟩
    · exact .inr ⟨t, rfl, int_dash h5, number_spec h5 h7⟩
  obtain ⟨z1, hZ, hZ2⟩ : ∃ z : Str, word a = z ∧ ((a = .non ∧ (z == Str.ofString "-") = true ∧ m_is_name [.d (.str z)] = .ok (.d (.bl false)) [.d (.str z)]) ∨ (a = .str z ∧ (z == Str.ofString "-") = false ∧ m_is_name [.d (.str z)] = .ok (.d (.bl true)) [.d (.str z)])) := by
    refine ⟨_, rfl, ?_⟩
    rcases h6 with rfl | ⟨z, rfl, h6⟩
    · refine .inl ⟨rfl, by decide +kernel, ?_⟩
      have := name_spec (Str.ofString "-") (by decide +kernel)
      rw [show nameB (Str.ofString "-") = false by decide +kernel] at this
      exact this
    · refine .inr ⟨rfl, name_dash h6, ?_⟩
      have := name_spec z (nameB_len h6)
      rw [h6] at this
      exact this
  rw [List.map_cons, List.map_cons, List.map_cons, List.map_cons, List.map_cons, List.map_nil, word_s, word_s, hE, hZ]
  generalize word (.int b) = b1 at hb
  have hcut : cutG [D.str b1, .str e1, .str k, .str s, .str z1] (some 2) (some 4) = [.str k, .str s] := rfl
  clear h5 h6
  unfold m_record_in b_record_in
  rcases hE2 with ⟨rfl, q1⟩ | ⟨t, rfl, q1, q2⟩ <;> rcases hZ2 with ⟨rfl, p1, p2⟩ | ⟨rfl, p1, p2⟩ <;>
    simp [runF, outF, sSeq, sIf, sRet, sRetN, sSet1, sSet, sTg, sExpr, sNx, aVar, aK, aCons, aNil, aOp2, app2, aCall, valL, E.val, aT, aNotT, aAndT, aOrT, aAndV, aOrV, aNotV, aIf, aChain, aTup, aLst, keepL, keep1, freeze, toSL, toS, setL, aFn, appFn, argS, slIx, wb, aIter, D.items?, aMeth, D.tyn, aSlice, aPart, aPartN, gIsi, D.isi, gIs, gIsn, D.is?, D.seq?, aStar, O.toD, eBl, eInt, eStr, tset, tsetL, wipeS, backS, nOwn, D.imm, gNe, gEq, D.eq?, gLen, gIx, atI, ixN, gSl, hcut, c_PAIR_reading, c_RECORD_WORDS, c_NOTHING, hn, hb, s4, s5, *]
end L2.AL.K11
namespace L2.AL.K11
open PySem PySem.Spec PyProof.Rows L2 L2.AL TL
/-! reading whole pages -/
def tblR : Str → Option (List S → Res E) := tblOf [("event_in", m_event_in), ("record_in", m_record_in)]
theorem all_in_spec {y : Str} {F : List S → Res E} (hT : tblR y = some F) {rs : List (List D)} (h : RowsOk rs) (ne : rs ≠ [])
    (hF : ∀ r ∈ rs, F [.d (.lst (r.map fun d => .str (word d)))] = .ok (.d (.tup r)) [.d (.lst (r.map fun d => .str (word d)))]) :
    m_all_in [.d (.str (page rs)), .d (.fn y)] = .ok (.d (.tup (rs.map .tup))) [.d (.str (page rs)), .d (.fn y)] := by
  have pne : (page rs == Str.ofString "") = false := by
    rw [beq_eq_false_iff_ne]; exact page_ne h ne
  obtain ⟨X, hX⟩ : ∃ X : D, X = .str (page rs) := ⟨_, rfl⟩
  have loop : ∃ ρ', sFor (aEnumA (aCons (aFn m_lines_of (aCons (aVar 0) aNil)) aNil)) (.tp [(.nm 3), (.nm 4)]) (sSeq (sSet1 5 (aFnV 1 (tblOf [("event_in", m_event_in), ("record_in", m_record_in)]) (aCons (aVar 4) aNil)))
      (sSeq (sIf (aAndT (aT (aOp2 gIs (aVar 5) (aK .non))) (aT (aOp2 gNe (aVar 0) (aK (.str ""))))) sNo sNx)
      (sExpr (aMut "list" 2 uAppend (aCons (aVar 5) aNil))))) [.d (.str (page rs)), .d (.fn y), .own (.lst []), .no, .no, .no] = .ok .nx ρ' ∧ ∃ a b c, ρ' = [.d (.str (page rs)), .d (.fn y), .own (.lst (rs.map .tup)), a, b, c] := by
    have q := sFor_ex (it := aEnumA (aCons (aFn m_lines_of (aCons (aVar 0) aNil)) aNil)) (t := .tp [(.nm 3), (.nm 4)]) (body := sSeq (sSet1 5 (aFnV 1 (tblOf [("event_in", m_event_in), ("record_in", m_record_in)]) (aCons (aVar 4) aNil)))
      (sSeq (sIf (aAndT (aT (aOp2 gIs (aVar 5) (aK .non))) (aT (aOp2 gNe (aVar 0) (aK (.str ""))))) sNo sNx)
      (sExpr (aMut "list" 2 uAppend (aCons (aVar 5) aNil))))) (I := fun i ρ => ∃ a b c, ρ = [.d (.str (page rs)), .d (.fn y), .own (.lst ((rs.take i).map .tup)), a, b, c])
      (xs := enumD (rs.map fun r => .lst (r.map fun d => .str (word d)))) (ρ := [.d (.str (page rs)), .d (.fn y), .own (.lst []), .no, .no, .no]) (ρ1 := [.d (.str (page rs)), .d (.fn y), .own (.lst []), .no, .no, .no]) ?_ ?_ ⟨_, _, _, rfl⟩
    · obtain ⟨ρ', e, a, b, c, e2⟩ := q
      have : (enumD (rs.map fun r => D.lst (r.map fun d => .str (word d)))).length = rs.length := by unfold enumD; simp
      rw [this, List.take_length] at e2
      exact ⟨ρ', e, a, b, c, e2⟩
    · have q := lines_of_spec h ne
      have q2 := fn1F (ρ := [.d (.str (page rs)), .d (.fn y), .own (.lst []), .no, .no, .no]) (a := aVar 0) (var_d rfl) q
      unfold aEnumA
      rw [aCons, q2]
      rfl
    · rintro i x ρ hx ⟨a, b, c, rfl⟩
      obtain ⟨z, hz, rfl⟩ := enum_get hx
      obtain ⟨r, hr, rfl⟩ := map_get hz
      have hi : i < rs.length := (List.getElem?_eq_some_iff.mp hr).1
      have hFr := hF r (List.mem_of_getElem? hr)
      have ht : rs.take (i + 1) = rs.take i ++ [r] := by
        rw [List.take_succ, hr]; rfl
      have hlen : (rs.take i).length < sizeLine := by
        have h1 := h.few
        have h2 : (rs.take i).length ≤ rs.length := by rw [List.length_take]; omega
        exact Nat.lt_of_le_of_lt (Nat.le_trans h2 h1) (by decide)
      refine ⟨[.d (.str (page rs)), .d (.fn y), .own (.lst ((rs.take i).map .tup)), .d (.int i), .d (.lst (r.map fun d => .str (word d))), c], [.d (.str (page rs)), .d (.fn y), .own (.lst ((rs.take (i + 1)).map .tup)), .d (.int i), .d (.lst (r.map fun d => .str (word d))), .d (.tup r)], rfl, ?_, _, _, _, rfl⟩
      rw [seq_nx (ρ1 := [.d (.str (page rs)), .d (.fn y), .own (.lst ((rs.take i).map .tup)), .d (.int i), .d (.lst (r.map fun d => .str (word d))), .d (.tup r)])]
      · rw [seq_nx (ρ1 := [.d (.str (page rs)), .d (.fn y), .own (.lst ((rs.take i).map .tup)), .d (.int i), .d (.lst (r.map fun d => .str (word d))), .d (.tup r)]) (by simp [runF, outF, sSeq, sIf, sRet, sRetN, sSet1, sSet, sTg, sExpr, sNx, aVar, aK, aCons, aNil, aOp2, app2, aCall, valL, E.val, aT, aNotT, aAndT, aOrT, aAndV, aOrV, aNotV, aIf, aChain, aTup, aLst, keepL, keep1, freeze, toSL, toS, setL, aFn, appFn, argS, slIx, wb, aIter, D.items?, aMeth, D.tyn, aSlice, aPart, aPartN, gIsi, D.isi, gIs, gIsn, D.is?, D.seq?, aStar, O.toD, eBl, eInt, eStr, tset, tsetL, wipeS, backS, nOwn, D.imm])]
        refine expr_of (v := .d .non) ?_
        rw [ht]
        have hlen' : min i rs.length < sizeLine := by rw [List.length_take] at hlen; exact hlen
        simp [aMut, aCons, aVar, aNil, keepL, keep1, uAppend, hlen', O.tyn]
      · refine set_d (ρ1 := [.d (.str (page rs)), .d (.fn y), .own (.lst ((rs.take i).map .tup)), .d (.int i), .d (.lst (r.map fun d => .str (word d))), c]) ?_ (by simp)
        have hT' : tblOf [("event_in", m_event_in), ("record_in", m_record_in)] y = some F := hT
        simp only [aFnV, List.getElem?_cons_succ, List.getElem?_cons_zero, hT']
        exact fn1 (var_d rfl) hFr
  obtain ⟨ρ', e, a, b, c, rfl⟩ := loop
  refine (run_rt (ρ1 := [.d (.str (page rs)), .d (.fn y), .own (.lst (rs.map .tup)), a, b, c]) rfl ?_).trans rfl
  unfold b_all_in
  rw [seq_nx (ρ1 := [.d (.str (page rs)), .d (.fn y), .own (.lst []), .no, .no, .no]) (by simp [runF, outF, sSeq, sIf, sRet, sRetN, sSet1, sSet, sTg, sExpr, sNx, aVar, aK, aCons, aNil, aOp2, app2, aCall, valL, E.val, aT, aNotT, aAndT, aOrT, aAndV, aOrV, aNotV, aIf, aChain, aTup, aLst, keepL, keep1, freeze, toSL, toS, setL, aFn, appFn, argS, slIx, wb, aIter, D.items?, aMeth, D.tyn, aSlice, aPart, aPartN, gIsi, D.isi, gIs, gIsn, D.is?, D.seq?, aStar, O.toD, eBl, eInt, eStr, tset, tsetL, wipeS, backS, nOwn, D.imm]), seq_nx e]
  refine ret_of ?_
  simp [runF, outF, sSeq, sIf, sRet, sRetN, sSet1, sSet, sTg, sExpr, sNx, aVar, aK, aCons, aNil, aOp2, app2, aCall, valL, E.val, aT, aNotT, aAndT, aOrT, aAndV, aOrV, aNotV, aIf, aChain, aTup, aLst, keepL, keep1, freeze, toSL, toS, setL, aFn, appFn, argS, slIx, wb, aIter, D.items?, aMeth, D.tyn, aSlice, aPart, aPartN, gIsi, D.isi, gIs, gIsn, D.is?, D.seq?, aStar, O.toD, eBl, eInt, eStr, tset, tsetL, wipeS, backS, nOwn, D.imm, gEq, D.eq?, pne, gTuple]
/-- read_run -/
theorem read_run_spec {rs : List (List D)} (h : RowsOk rs) (ne : rs ≠ []) (he : ∀ r ∈ rs, EvOk r) : m_read_run [.d (.str (page rs))] = .ok (.d (.tup (rs.map .tup))) [.d (.str (page rs))] := by
  have q := all_in_spec (y := "event_in") (F := m_event_in) (by rfl) h ne fun r hr => event_spec (he r hr)
  unfold m_read_run b_read_run
  simp [runF, outF, sSeq, sIf, sRet, sRetN, sSet1, sSet, sTg, sExpr, sNx, aVar, aK, aCons, aNil, aOp2, app2, aCall, valL, E.val, aT, aNotT, aAndT, aOrT, aAndV, aOrV, aNotV, aIf, aChain, aTup, aLst, keepL, keep1, freeze, toSL, toS, setL, aFn, appFn, argS, slIx, wb, aIter, D.items?, aMeth, D.tyn, aSlice, aPart, aPartN, gIsi, D.isi, gIs, gIsn, D.is?, D.seq?, aStar, O.toD, eBl, eInt, eStr, tset, tsetL, wipeS, backS, nOwn, D.imm, q]
/-! contents that are equal -/
def pyOf : D → PyData
  | .non => .none
  | .int i => .int i
  | .str z => .str z
  | _ => .none
theorem py_leaf {d : D} (h : LeafOk d) : d.py = some (pyOf d) := by
  cases d <;> simp only [LeafOk] at h <;> rfl
theorem pyL_of {α : Type} (f : α → D) (g : α → PyData) : ∀ l : List α, (∀ a ∈ l, (f a).py = some (g a)) → D.pyL (l.map f) = some (l.map g)
  | [], _ => rfl
  | a :: l, h => by
    rw [List.map_cons, D.pyL, h a List.mem_cons_self, pyL_of f g l fun b hb => h b (List.mem_cons_of_mem _ hb)]
    rfl
theorem strOk_name {z : Str} (h : nameB z = true) : z.cps.toList.all (fun c => decide (c < 0x110000)) = true := by
  rw [List.all_eq_true]
  intro c hc
  have := lets_of ((name_of h).2.2 c hc)
  exact decide_eq_true (by omega)
theorem lay_leaf {d : D} (h : LeafOk d) : (pyOf d).canLay0 = true ∧ (pyOf d).depth = 0 := by
  cases d <;> simp only [LeafOk] at h
  · exact ⟨rfl, rfl⟩
  · exact ⟨rfl, rfl⟩
  · refine ⟨?_, rfl⟩
    have := strOk_name h
    simp only [pyOf, PyData.canLay0, PyData.strOk]
    rw [← Array.all_toList]
    exact this
theorem layAll {α : Type} (g : α → PyData) (k : Nat) : ∀ l : List α, (∀ a ∈ l, (g a).canLay0 = true ∧ (g a).depth ≤ k) → PyData.canLayAll0 (l.map g) = true ∧ PyData.depthAll (l.map g) ≤ k
  | [], _ => ⟨rfl, Nat.zero_le _⟩
  | a :: l, h => by
    obtain ⟨h1, h2⟩ := h a List.mem_cons_self
    obtain ⟨h3, h4⟩ := layAll g k l fun b hb => h b (List.mem_cons_of_mem _ hb)
    simp only [List.map_cons, PyData.canLayAll0, PyData.depthAll, h1, h3, Bool.and_self, true_and]
    exact Nat.max_le.mpr ⟨h2, h4⟩
theorem row_py {r : List D} (h : RowOk r) : (D.tup r).py = some (.tuple (r.map pyOf)) := by
  rw [D.py]
  have := pyL_of (fun d => d) pyOf r fun d hd => py_leaf (h.leaf d hd)
  rw [List.map_id'] at this
  rw [this]; rfl
theorem rows_py {rs : List (List D)} (h : RowsOk rs) : (D.tup (rs.map .tup)).py = some (.tuple (rs.map fun r => .tuple (r.map pyOf))) := by
  rw [D.py, pyL_of D.tup (fun r => .tuple (r.map pyOf)) rs fun r hr => row_py (h.row r hr)]; rfl
theorem rows_shaped {rs : List (List D)} (h : RowsOk rs) : (PyData.tuple (rs.map fun r => .tuple (r.map pyOf))).canLay0 = true ∧ (PyData.tuple (rs.map fun r => .tuple (r.map pyOf))).depth ≤ 2 := by
  have q := layAll (fun r => PyData.tuple (r.map pyOf)) 1 rs fun r hr => by
    have q := layAll pyOf 0 r fun d hd => by
      have := lay_leaf ((h.row r hr).leaf d hd)
      exact ⟨this.1, Nat.le_of_eq this.2⟩
    simp only [PyData.canLay0, PyData.depth]
    exact ⟨q.1, by omega⟩
  simp only [PyData.canLay0, PyData.depth]
  exact ⟨q.1, by omega⟩
theorem rows_eq {rs : List (List D)} (h : RowsOk rs) : gEq (.tup (rs.map .tup)) (.tup (rs.map .tup)) = some (eBl true) := by
  have q := rows_shaped h
  have sh : SeqAt.shaped (PyData.tuple (rs.map fun r => .tuple (r.map pyOf))) = true := by
    unfold SeqAt.shaped
    rw [q.1, Bool.true_and]
    exact decide_eq_true (by omega)
  unfold gEq D.eq?
  simp only [rows_py h, sh, and_self, if_true]
  rw [PySem.SeqAt.eqv_refl _ q.1]
  rfl
/-! repr of rows -/
theorem int_shown {i : Int} (h : 0 ≤ i) (h1 : i < 10 ^ 18) : (Str.ofString (toString i)).length ≤ 18 := (word_ok (d := .int i) ⟨h, h1⟩).2.2
theorem leaf_fit {d : D} (h : LeafOk d) : (pyOf d).showable = true ∧ (pyOf d).leavesShort 30 = true ∧ (pyOf d).weight ≤ 70 := by
  cases d <;> simp only [LeafOk] at h
  · exact ⟨rfl, rfl, by simp [pyOf, PyData.weight]⟩
  · rename_i i
    have hl : i.natAbs.log2 < 64 := log_small (k := 64) (by
      have h2 : i.natAbs < 10 ^ 18 := by omega
      exact Nat.lt_trans h2 (by decide)) (by decide)
    refine ⟨?_, ?_, ?_⟩
    · simp only [pyOf, PyData.showable]; exact decide_eq_true (by omega)
    · simp only [pyOf, PyData.leavesShort]
      refine decide_eq_true ?_
      have := int_shown h.1 h.2
      simp only [PyData.shown]
      exact Nat.le_trans this (by decide)
    · simp only [pyOf, PyData.weight]
      split <;> omega
  · rename_i z
    refine ⟨rfl, ?_, ?_⟩
    · simp only [pyOf, PyData.leavesShort]
      rw [List.all_eq_true]
      intro c hc
      have := lets_of ((name_of h).2.2 c hc)
      exact decide_eq_true (by omega)
    · simp only [pyOf, PyData.weight]
      have := (name_of h).2.1
      have e : z.cps.size = z.length := rfl
      omega
theorem fitAll {α : Type} (g : α → PyData) (k : Nat) : ∀ l : List α, (∀ a ∈ l, (g a).showable = true ∧ (g a).leavesShort 30 = true ∧ (g a).weight ≤ k) → PyData.showableAll (l.map g) = true ∧ PyData.leavesShortAll 30 (l.map g) = true ∧ PyData.weightAll (l.map g) ≤ l.length * (k + 1)
  | [], _ => ⟨rfl, rfl, by simp [PyData.weightAll]⟩
  | a :: l, h => by
    obtain ⟨h1, h2, h3⟩ := h a List.mem_cons_self
    obtain ⟨h4, h5, h6⟩ := fitAll g k l fun b hb => h b (List.mem_cons_of_mem _ hb)
    simp only [List.map_cons, PyData.showableAll, PyData.leavesShortAll, PyData.weightAll, h1, h2, h4, h5, Bool.and_self, true_and, List.length_cons, Nat.add_mul, Nat.one_mul]
    omega
theorem rows_repr {rs : List (List D)} (h : RowsOk rs) : ∃ z, (D.tup (rs.map .tup)).repr? = some z := by
  have fit := fitAll (fun r => PyData.tuple (r.map pyOf)) 400 rs fun r hr => by
    have q := fitAll pyOf 70 r fun d hd => leaf_fit ((h.row r hr).leaf d hd)
    have := (h.row r hr).few
    simp only [PyData.showable, PyData.leavesShort, PyData.weight]
    exact ⟨q.1, q.2.1, by omega⟩
  have few := h.few
  have hs : (PyData.tuple (rs.map fun r => .tuple (r.map pyOf))).leavesShort 30 = true := by simp only [PyData.leavesShort]; exact fit.2.1
  have hw : (PyData.tuple (rs.map fun r => .tuple (r.map pyOf))).weight ≤ 20050 := by simp only [PyData.weight]; have := fit.2.2; omega
  have hl := PyData.shown_le 30 (by decide) _ hs
  have hd := (rows_shaped h).2
  refine ⟨(PyData.tuple (rs.map fun r => .tuple (r.map pyOf))).shown, ?_⟩
  unfold D.repr?
  rw [rows_py h]
  simp only
  rw [if_pos]
  refine ⟨by simp only [PyData.showable]; exact fit.1, by omega, ?_⟩
  refine Nat.le_trans (Nat.le_trans hl ?_) (show 1000000 ≤ sizeLine by decide)
  omega
end L2.AL.K11
namespace L2.AL.K11
open PySem PySem.Spec PyProof.Rows L2 L2.AL TL
def SortOk (s : Str) : Prop := s = Str.ofString "put" ∨ s = Str.ofString "drop" ∨ s = Str.ofString "look"
def AnsOk (s z : Str) : Prop := ∃ T, gIx c_ANSWERS (.str s) = some (.d T) ∧ gIn (.str z) T = some (eBl true)
structure RecR (r : List D) : Prop where
  form : ∃ b e k s a, r = [.int b, e, .str k, .str s, a] ∧ 1 ≤ b ∧ b < 10 ^ 18 ∧ nameB k = true ∧ SortOk s ∧ ((e = .non ∧ a = .non) ∨ ∃ t z, e = .int t ∧ a = .str z ∧ b < t ∧ t < 10 ^ 18 ∧ AnsOk s z ∧ nameB z = true)
theorem sort_name {s : Str} (h : SortOk s) : nameB s = true := by
  rcases h with rfl | rfl | rfl <;> decide +kernel
theorem recR_ok {r : List D} (h : RecR r) : RecOk r := by
  obtain ⟨b, e, k, s, a, rfl, h1, h2, h3, h4, h5⟩ := h.form
  refine ⟨b, e, k, s, a, rfl, by omega, h2, h3, sort_name h4, ?_, ?_⟩
  · rcases h5 with ⟨rfl, _⟩ | ⟨t, z, rfl, _, h5, h6, _⟩
    · exact .inl rfl
    · exact .inr ⟨t, rfl, by omega, h6⟩
  · rcases h5 with ⟨_, rfl⟩ | ⟨t, z, _, rfl, h5, h6, _, h7⟩
    · exact .inl rfl
    · exact .inr ⟨z, rfl, h7⟩
theorem record_yes {r : List D} (h : RecR r) : m_is_record [.d (.tup r)] = .ok (.d (.bl true)) [.d (.tup r)] := by
  obtain ⟨b, e, k, s, a, rfl, h1, h2, h3, h4, h5⟩ := h.form
  have hb := int_yes b
  have hk := name_spec k (nameB_len h3)
  rw [h3] at hk
  have hs : gNi (.str s) c_ANSWERS = some (eBl false) := by
    rcases h4 with rfl | rfl | rfl <;> rfl
  have hlt : ¬ b < 1 := by omega
  unfold m_is_record b_is_record
  rcases h5 with ⟨rfl, rfl⟩ | ⟨t, z, rfl, rfl, h5, h6, ⟨T, hT1, hT2⟩, h7⟩
  · simp [runF, outF, sSeq, sIf, sRet, sRetN, sSet1, sSet, sTg, sExpr, sNx, aVar, aK, aCons, aNil, aOp2, app2, aCall, valL, E.val, aT, aNotT, aAndT, aOrT, aAndV, aOrV, aNotV, aIf, aChain, aTup, aLst, keepL, keep1, freeze, toSL, toS, setL, aFn, appFn, argS, slIx, wb, aIter, D.items?, aMeth, D.tyn, aSlice, aPart, aPartN, gIsi, D.isi, gIs, gIsn, D.is?, D.seq?, aStar, O.toD, eBl, eInt, eStr, tset, tsetL, wipeS, backS, nOwn, D.imm, gNe, D.eq?, gLen, c_RECORD, hb, hk, hs, gLt, hlt]
  · have ht := int_yes t
    simp [runF, outF, sSeq, sIf, sRet, sRetN, sSet1, sSet, sTg, sExpr, sNx, aVar, aK, aCons, aNil, aOp2, app2, aCall, valL, E.val, aT, aNotT, aAndT, aOrT, aAndV, aOrV, aNotV, aIf, aChain, aTup, aLst, keepL, keep1, freeze, toSL, toS, setL, aFn, appFn, argS, slIx, wb, aIter, D.items?, aMeth, D.tyn, aSlice, aPart, aPartN, gIsi, D.isi, gIs, gIsn, D.is?, D.seq?, aStar, O.toD, eBl, eInt, eStr, tset, tsetL, wipeS, backS, nOwn, D.imm, gNe, D.eq?, gLen, c_RECORD, hb, hk, hs, gLt, hlt, ht, h5, hT1, hT2]
/-! histories -/
def beg : List D → Int
  | .int b :: _ => b
  | _ => 0
def hasE : List D → Bool
  | _ :: .int _ :: _ => true
  | _ => false
def fin : List D → Int
  | _ :: .int t :: _ => t
  | _ => 0
def key : List D → Str
  | _ :: _ :: .str k :: _ => k
  | _ => ""
structure BookOk (rs : List (List D)) : Prop where
  few : rs.length ≤ 24
  row : ∀ r ∈ rs, RecR r
  begins : (rs.map beg).Pairwise (· < ·)
  times : (rs.map beg ++ (rs.filter hasE).map fin).Nodup
  keys : ∀ k, (rs.map key).countP (fun z => z == k) ≤ 8
theorem book_rows {rs : List (List D)} (h : BookOk rs) : RowsOk rs := ⟨by have := h.few; omega, fun r hr => rec_row (recR_ok (h.row r hr))⟩
section
variable {ρ ρ1 ρ2 : List S} {t u : List S → Res Bool} {b : Bool}
theorem or_f (h : t ρ = .ok false ρ1) (h' : u ρ1 = .ok b ρ2) : aOrT t u ρ = .ok b ρ2 := by unfold aOrT; rw [h]; exact h'
end
theorem bls_all {α : Type} (p : α → Bool) (l : List α) (h : ∀ a ∈ l, p a = true) : gAll [.lst (l.map fun a => D.bl (p a))] = some (eBl true) := by
  have q := bls_map (l.map p)
  rw [List.map_map] at q
  have q : D.bls? (l.map fun a => D.bl (p a)) = some (l.map p) := q
  simp only [gAll, q, Option.map_some, List.all_map]
  congr 1
  simp only [eBl]
  congr 2
  exact List.all_eq_true.mpr fun a ha => h a ha
theorem ints_of {α : Type} (f : α → Int) (l : List α) : D.ints? (l.map fun a => D.int (f a)) = some (l.map f) := by
  have := ints_map (l.map f)
  rwa [List.map_map] at this
theorem ints_py {α : Type} (f : α → Int) (l : List α) : (D.lst (l.map fun a => D.int (f a))).py = some (.list (l.map fun a => .int (f a))) := by
  rw [D.py, pyL_of (fun a => D.int (f a)) (fun a => PyData.int (f a)) l fun a _ => rfl]; rfl
theorem ints_self {α : Type} (f : α → Int) (l : List α) : gNe (.lst (l.map fun a => D.int (f a))) (.lst (l.map fun a => D.int (f a))) = some (eBl false) := by
  have q := layAll (fun a => PyData.int (f a)) 0 l fun a _ => ⟨rfl, Nat.le_refl _⟩
  have c : (PyData.list (l.map fun a => .int (f a))).canLay0 = true := by simp only [PyData.canLay0]; exact q.1
  have sh : SeqAt.shaped (PyData.list (l.map fun a => .int (f a))) = true := by
    unfold SeqAt.shaped
    rw [c, Bool.true_and]
    refine decide_eq_true ?_
    simp only [PyData.depth]; omega
  unfold gNe D.eq?
  simp only [ints_py, sh, and_self, if_true]
  rw [PySem.SeqAt.eqv_refl _ c]
  rfl
theorem sorted_self {α : Type} (f : α → Int) (l : List α) (h : (l.map f).Pairwise (· < ·)) : gSorted [.lst (l.map fun a => D.int (f a))] = some (.fr (.lst (l.map fun a => D.int (f a)))) := by
  have e : sortI (l.map f) = l.map f := (sortI_of (List.Perm.refl _) (h.imp fun h => by omega)).symm
  simp only [gSorted, ints_of, Option.map_some, e, List.map_map]
  rfl
theorem history_spec {rs : List (List D)} (h : BookOk rs) : m_is_history [.d (.tup (rs.map .tup))] = .ok (.d (.bl true)) [.d (.tup (rs.map .tup))] := by
  obtain ⟨X, hX⟩ : ∃ X : D, X = .tup (rs.map .tup) := ⟨_, rfl⟩
  have few : rs.length ≤ sizeLine := small_line (by have := h.few; omega)
  have iterX : ∀ (ρ : List S), ρ[0]? = some (.d X) → aIter (aVar 0) ρ = .ok (rs.map .tup) ρ := fun ρ e => by
    unfold aIter
    rw [var_d e, Res.bind_ok, hX]
    rfl
  have c1 : aLc [1] (aIter (aVar 0)) (.nm 1) aYes (aFn m_is_record (aCons (aVar 1) aNil)) [.d X, .no, .no, .no, .no, .no, .no] = .ok (.fr (.lst (rs.map fun _ => .bl true))) [.d X, .no, .no, .no, .no, .no, .no] := by
    refine aLc_all D.tup (fun _ => D.bl true) rs (ρ1 := [.d X, .no, .no, .no, .no, .no, .no]) (iterX _ rfl) rfl (fun r hr => ?_) few
    exact ⟨_, .d (.bl true), rfl, fn1 (var_d rfl) (record_yes (h.row r hr)), rfl, rfl⟩
  have c2 : aLc [4] (aIter (aVar 0)) (.nm 4) aYes (aOp2 gIx (aVar 4) (aK (.int 0))) [.d X, .no, .no, .no, .no, .no, .no] = .ok (.fr (.lst (rs.map fun r => .int (beg r)))) [.d X, .no, .no, .no, .no, .no, .no] := by
    refine aLc_all D.tup (fun r => D.int (beg r)) rs (ρ1 := [.d X, .no, .no, .no, .no, .no, .no]) (iterX _ rfl) rfl (fun r hr => ?_) few
    obtain ⟨b, e, k, s, a, rfl, _⟩ := (h.row r hr).form
    exact ⟨_, .d (.int b), rfl, rfl, rfl, rfl⟩
  have c3 : aLc [4] (aIter (aVar 0)) (.nm 4) aYes (aOp2 gIx (aVar 4) (aK (.int 2))) [.d X, .no, .no, .no, .no, .no, .no] = .ok (.fr (.lst (rs.map fun r => .str (key r)))) [.d X, .no, .no, .no, .no, .no, .no] := by
    refine aLc_all D.tup (fun r => D.str (key r)) rs (ρ1 := [.d X, .no, .no, .no, .no, .no, .no]) (iterX _ rfl) rfl (fun r hr => ?_) few
    obtain ⟨b, e, k, s, a, rfl, _⟩ := (h.row r hr).form
    exact ⟨_, .d (.str k), rfl, rfl, rfl, rfl⟩
  obtain ⟨B, hB⟩ : ∃ B : List D, B = rs.map fun r => .int (beg r) := ⟨_, rfl⟩
  obtain ⟨Ks, hK⟩ : ∃ K : List D, K = rs.map fun r => .str (key r) := ⟨_, rfl⟩
  have c4 : aLc [4] (aIter (aVar 0)) (.nm 4) (aT (aOp2 gIsn (aOp2 gIx (aVar 4) (aK (.int 1))) (aK .non))) (aOp2 gIx (aVar 4) (aK (.int 1))) [.d X, .no, .own (.lst B), .own (.lst Ks), .no, .no, .no] = .ok (.fr (.lst ((rs.filter hasE).map fun r => .int (fin r)))) [.d X, .no, .own (.lst B), .own (.lst Ks), .no, .no, .no] := by
    refine aLc_map D.tup (fun r => D.int (fin r)) hasE rs (ρ1 := [.d X, .no, .own (.lst B), .own (.lst Ks), .no, .no, .no]) (iterX _ rfl) rfl (fun r hr => ?_) few
    obtain ⟨b, e, k, s, a, rfl, _, _, _, _, h5⟩ := (h.row r hr).form
    rcases h5 with ⟨rfl, _⟩ | ⟨t, z, rfl, _⟩
    · exact ⟨_, .d .non, rfl, rfl, (fun z => by simp [hasE] at z), rfl⟩
    · exact ⟨_, .d (.int t), rfl, rfl, fun _ => ⟨rfl, rfl⟩, rfl⟩
  obtain ⟨T, hT⟩ : ∃ T : List D, T = B ++ (rs.filter hasE).map fun r => .int (fin r) := ⟨_, rfl⟩
  have lenT : (rs.map beg).length + ((rs.filter hasE).map fin).length ≤ 48 := by
    have := List.length_filter_le hasE rs
    have := h.few
    rw [List.length_map, List.length_map]; omega
  have addT : gAdd (.lst B) (.lst ((rs.filter hasE).map fun r => .int (fin r))) = some (.fr (.lst T)) := by
    have : B.length + ((rs.filter hasE).map fun r => D.int (fin r)).length ≤ sizeLine := by
      rw [hB, List.length_map, List.length_map]
      rw [List.length_map, List.length_map] at lenT
      exact small_line (by omega)
    simp only [gAdd, if_pos this, hT]
  have intsT : D.ints? T = some (rs.map beg ++ (rs.filter hasE).map fin) := by
    have q := ints_map (rs.map beg ++ (rs.filter hasE).map fin)
    rw [List.map_append, List.map_map, List.map_map] at q
    rw [hT, hB]
    exact q
  have setT : gLenSet [.lst T] = some (eInt T.length) := by
    have lenTT : T.length = (rs.map beg ++ (rs.filter hasE).map fin).length := by rw [hT, hB]; simp
    have small : (rs.map beg ++ (rs.filter hasE).map fin).length + 1 < 4096 := by rw [List.length_append]; omega
    have fm := RZ.firstMet_nodup h.times _ (Nat.le_refl _)
    rw [List.take_length] at fm
    simp only [gLenSet, intsT, Option.bind_some, if_pos small, fm, lenTT]
  have cnt : ∀ r ∈ rs, gCount (.lst Ks) [.str (key r)] = some (eInt ((rs.map key).countP fun z => z == key r : Nat)) := fun r hr => by
    have fl : (D.str (key r)).flat = true ∧ Ks.all D.flat = true := ⟨rfl, by rw [hK, List.all_map]; exact List.all_eq_true.mpr fun _ _ => rfl⟩
    simp only [gCount]
    rw [if_pos fl, hK, List.countP_map, List.countP_map]
    rfl
  have c5 : aLc [6] (aIter (aVar 3)) (.nm 6) aYes (aOp2 gLe (aMeth "list" gCount (aVar 3) (aCons (aVar 6) aNil)) (aK c_MOST_OF_A_KEY)) [.d X, .no, .own (.lst B), .own (.lst Ks), .no, .own (.lst T), .no] = .ok (.fr (.lst (rs.map fun _ => .bl true))) [.d X, .no, .own (.lst B), .d (.lst Ks), .no, .own (.lst T), .no] := by
    refine aLc_all (fun r => D.str (key r)) (fun _ => D.bl true) rs (ρ1 := [.d X, .no, .own (.lst B), .d (.lst Ks), .no, .own (.lst T), .no]) ?_ rfl (fun r hr => ?_) few
    · simp [runF, outF, sSeq, sIf, sRet, sRetN, sSet1, sSet, sTg, sExpr, sNx, aVar, aK, aCons, aNil, aOp2, app2, aCall, valL, E.val, aT, aNotT, aAndT, aOrT, aAndV, aOrV, aNotV, aIf, aChain, aTup, aLst, keepL, keep1, freeze, toSL, toS, setL, aFn, appFn, argS, slIx, wb, aIter, D.items?, aMeth, D.tyn, aSlice, aPart, aPartN, gIsi, D.isi, gIs, gIsn, D.is?, D.seq?, aStar, O.toD, eBl, eInt, eStr, tset, tsetL, wipeS, backS, nOwn, D.imm, hK]
    · refine ⟨[.d X, .no, .own (.lst B), .d (.lst Ks), .no, .own (.lst T), .d (.str (key r))], .d (.bl true), rfl, ?_, rfl, rfl⟩
      have hc := cnt r hr
      have hle : (((rs.map key).countP fun z => z == key r : Nat) : Int) ≤ 8 := by have := h.keys (key r); omega
      rw [List.countP_map] at hc hle
      simp [runF, outF, sSeq, sIf, sRet, sRetN, sSet1, sSet, sTg, sExpr, sNx, aVar, aK, aCons, aNil, aOp2, app2, aCall, valL, E.val, aT, aNotT, aAndT, aOrT, aAndV, aOrV, aNotV, aIf, aChain, aTup, aLst, keepL, keep1, freeze, toSL, toS, setL, aFn, appFn, argS, slIx, wb, aIter, D.items?, aMeth, D.tyn, aSlice, aPart, aPartN, gIsi, D.isi, gIs, gIsn, D.is?, D.seq?, aStar, O.toD, eBl, eInt, eStr, tset, tsetL, wipeS, backS, nOwn, D.imm, hc, gLe, c_MOST_OF_A_KEY, hle]
  have few24 : ¬ (24 : Int) < rs.length := by have := h.few; omega
  refine (run_rt (ρ1 := [.d X, .no, .own (.lst B), .d (.lst Ks), .no, .own (.lst T), .no]) rfl ?_).trans (by rw [hX]; rfl)
  unfold b_is_history
  rw [← hX]
  show sSeq _ _ [.d X, .no, .no, .no, .no, .no, .no] = _
  rw [seq_nx (ρ1 := [.d X, .no, .no, .no, .no, .no, .no])]
  · rw [seq_nx (ρ1 := [.d X, .no, .own (.lst B), .own (.lst Ks), .no, .no, .no])]
    · rw [seq_nx (ρ1 := [.d X, .no, .own (.lst B), .own (.lst Ks), .no, .own (.lst T), .no])]
      · rw [seq_nx (ρ1 := [.d X, .no, .own (.lst B), .own (.lst Ks), .no, .own (.lst T), .no])]
        · refine ret_of ?_
          have q := bls_all (fun _ : List D => true) rs fun _ _ => rfl
          simp [aCall, aCons, c5, aNil, valL, E.val, O.toD, q]
        · have s1 := sorted_self beg rs h.begins
          have s2 := ints_self beg rs
          rw [← hB] at s1 s2
          have s3 : gNe (.int T.length) (.int T.length) = some (eBl false) := by simp [gNe, D.eq?]
          rw [if_f (ρ1 := [.d X, .no, .own (.lst B), .own (.lst Ks), .no, .own (.lst T), .no])]
          · rfl
          · refine or_f (aT_of (ρ1 := [.d X, .no, .own (.lst B), .own (.lst Ks), .no, .own (.lst T), .no]) ?_) (aT_of ?_)
            · simp [runF, outF, sSeq, sIf, sRet, sRetN, sSet1, sSet, sTg, sExpr, sNx, aVar, aK, aCons, aNil, aOp2, app2, aCall, valL, E.val, aT, aNotT, aAndT, aOrT, aAndV, aOrV, aNotV, aIf, aChain, aTup, aLst, keepL, keep1, freeze, toSL, toS, setL, aFn, appFn, argS, slIx, wb, aIter, D.items?, aMeth, D.tyn, aSlice, aPart, aPartN, gIsi, D.isi, gIs, gIsn, D.is?, D.seq?, aStar, O.toD, eBl, eInt, eStr, tset, tsetL, wipeS, backS, nOwn, D.imm, s1, s2]
            · simp [runF, outF, sSeq, sIf, sRet, sRetN, sSet1, sSet, sTg, sExpr, sNx, aVar, aK, aCons, aNil, aOp2, app2, aCall, valL, E.val, aT, aNotT, aAndT, aOrT, aAndV, aOrV, aNotV, aIf, aChain, aTup, aLst, keepL, keep1, freeze, toSL, toS, setL, aFn, appFn, argS, slIx, wb, aIter, D.items?, aMeth, D.tyn, aSlice, aPart, aPartN, gIsi, D.isi, gIs, gIsn, D.is?, D.seq?, aStar, O.toD, eBl, eInt, eStr, tset, tsetL, wipeS, backS, nOwn, D.imm, setT, gLen, s3]
      · refine set_o (ρ1 := [.d X, .no, .own (.lst B), .own (.lst Ks), .no, .no, .no]) ?_ (by simp)
        simp [aOp2, aVar, c4, app2, E.val, O.toD, addT]
    · simp [sSet, aCons, c2, c3, aNil, toSL, toS, setL, hB, hK]
  · rw [if_f (ρ1 := [.d X, .no, .no, .no, .no, .no, .no])]
    · rfl
    · refine or_f (ρ1 := [.d X, .no, .no, .no, .no, .no, .no]) (aNotT_of (b := true) (aT_of ?_)) (or_f (ρ1 := [.d X, .no, .no, .no, .no, .no, .no]) (aT_of ?_) (aNotT_of (b := true) (aT_of ?_)))
      · rw [hX]; simp [runF, outF, sSeq, sIf, sRet, sRetN, sSet1, sSet, sTg, sExpr, sNx, aVar, aK, aCons, aNil, aOp2, app2, aCall, valL, E.val, aT, aNotT, aAndT, aOrT, aAndV, aOrV, aNotV, aIf, aChain, aTup, aLst, keepL, keep1, freeze, toSL, toS, setL, aFn, appFn, argS, slIx, wb, aIter, D.items?, aMeth, D.tyn, aSlice, aPart, aPartN, gIsi, D.isi, gIs, gIsn, D.is?, D.seq?, aStar, O.toD, eBl, eInt, eStr, tset, tsetL, wipeS, backS, nOwn, D.imm]
      · rw [hX]; simp [runF, outF, sSeq, sIf, sRet, sRetN, sSet1, sSet, sTg, sExpr, sNx, aVar, aK, aCons, aNil, aOp2, app2, aCall, valL, E.val, aT, aNotT, aAndT, aOrT, aAndV, aOrV, aNotV, aIf, aChain, aTup, aLst, keepL, keep1, freeze, toSL, toS, setL, aFn, appFn, argS, slIx, wb, aIter, D.items?, aMeth, D.tyn, aSlice, aPart, aPartN, gIsi, D.isi, gIs, gIsn, D.is?, D.seq?, aStar, O.toD, eBl, eInt, eStr, tset, tsetL, wipeS, backS, nOwn, D.imm, gLen, gGt, c_MOST_RECORDS, few24]
      · have q := bls_all (fun _ : List D => true) rs fun _ _ => rfl
        simp [aCall, aCons, c1, aNil, valL, E.val, O.toD, q]
/-! showing a history -/
def dash : D → D
  | .non => .str "-"
  | d => d
theorem word_dash {d : D} (h : LeafOk d) : gStr [dash d] = some (eStr (word d)) := by
  by_cases hn : d = .non
  · subst hn; rfl
  · have : dash d = d := by cases d <;> first | rfl | exact absurd rfl hn
    rw [this]
    exact str_word h hn
theorem line_dash {r : List D} (h : RowOk r) : m_line_of [.d (.lst (r.map dash))] = .ok (.d (.str (line r))) [.d (.lst (r.map dash))] := by
  obtain ⟨f, hf⟩ : ∃ f : D → Str, ∀ d ∈ r, f (dash d) = word d := by
    refine ⟨word, fun d hd => ?_⟩
    cases d <;> rfl
  have e : (r.map dash).map f = r.map word := by
    rw [List.map_map]
    exact List.map_congr_left fun d hd => hf d hd
  have q := line_of_spec (.lst (r.map dash)) (r.map dash) rfl f (fun d hd => by
    obtain ⟨x, hx, rfl⟩ := List.mem_map.mp hd
    rw [hf x hx]
    exact word_dash (h.leaf x hx)) (by rw [e]; exact Nat.le_trans (words_sum h) (by decide)) (by rw [List.length_map]; have := h.few; omega)
  rw [e] at q
  exact q
theorem show_history_spec {rs : List (List D)} (h : BookOk rs) : m_show_history [.d (.tup (rs.map .tup))] = .ok (.d (.str (page rs))) [.d (.tup (rs.map .tup))] := by
  have R := book_rows h
  obtain ⟨X, hX⟩ : ∃ X : D, X = .tup (rs.map .tup) := ⟨_, rfl⟩
  have few : rs.length ≤ sizeLine := small_line (by have := h.few; omega)
  have inner : ∀ r ∈ rs, aLc [2] (aIter (aVar 3)) (.nm 2) aYes (aIf (aT (aOp2 gIs (aVar 2) (aK .non))) (aK c_NOTHING) (aVar 2)) [.d X, .no, .no, .d (.tup r), .no] = .ok (.fr (.lst (r.map dash))) [.d X, .no, .no, .d (.tup r), .no] := by
    intro r hr
    refine aLc_all (fun d => d) dash r (ρ1 := [.d X, .no, .no, .d (.tup r), .no]) ?_ rfl (fun d hd => ?_) (small_line (by have := (R.row r hr).few; omega))
    · simp [aIter, aVar, keep1, D.items?]
    · have hL := (R.row r hr).leaf d hd
      refine ⟨_, .d (dash d), rfl, ?_, rfl, rfl⟩
      cases d <;> simp only [LeafOk] at hL <;> simp [runF, outF, sSeq, sIf, sRet, sRetN, sSet1, sSet, sTg, sExpr, sNx, aVar, aK, aCons, aNil, aOp2, app2, aCall, valL, E.val, aT, aNotT, aAndT, aOrT, aAndV, aOrV, aNotV, aIf, aChain, aTup, aLst, keepL, keep1, freeze, toSL, toS, setL, aFn, appFn, argS, slIx, wb, aIter, D.items?, aMeth, D.tyn, aSlice, aPart, aPartN, gIsi, D.isi, gIs, gIsn, D.is?, D.seq?, aStar, O.toD, eBl, eInt, eStr, tset, tsetL, wipeS, backS, nOwn, D.imm, dash, c_NOTHING]
  have comp : aLc [3] (aIter (aVar 0)) (.nm 3) aYes (aLc [2] (aIter (aVar 3)) (.nm 2) aYes (aIf (aT (aOp2 gIs (aVar 2) (aK .non))) (aK c_NOTHING) (aVar 2))) [.d X, .no, .no, .no, .no] = .ok (.fr (.lst (rs.map fun r => .lst (r.map dash)))) [.d X, .no, .no, .no, .no] := by
    refine aLc_all D.tup (fun r => D.lst (r.map dash)) rs (ρ1 := [.d X, .no, .no, .no, .no]) ?_ rfl (fun r hr => ?_) few
    · unfold aIter; rw [var_d (x := X) rfl, Res.bind_ok, hX]; rfl
    · exact ⟨[.d X, .no, .no, .d (.tup r), .no], .fr (.lst (r.map dash)), rfl, inner r hr, rfl, rfl⟩
  have hh := history_spec h
  rw [← hX] at hh ⊢
  refine (run_rt (ρ1 := [.d X, .d (.lst (rs.map fun r => .lst (r.map dash))), .no, .no, .no]) rfl ?_).trans rfl
  unfold b_show_history
  show sSeq _ _ [.d X, .no, .no, .no, .no] = _
  rw [seq_nx (ρ1 := [.d X, .no, .no, .no, .no])]
  · rw [seq_nx (ρ1 := [.d X, .own (.lst (rs.map fun r => .lst (r.map dash))), .no, .no, .no])]
    · refine ret_of ?_
      have comp2 : aLc [4] (aIter (aVar 1)) (.nm 4) aYes (aFn m_line_of (aCons (aVar 4) aNil)) [.d X, .own (.lst (rs.map fun r => .lst (r.map dash))), .no, .no, .no] = .ok (.fr (.lst (rs.map fun r => .str (line r)))) [.d X, .d (.lst (rs.map fun r => .lst (r.map dash))), .no, .no, .no] := by
        refine aLc_all (vs := [4]) (t := .nm 4) (it := aIter (aVar 1)) (f := aFn m_line_of (aCons (aVar 4) aNil)) (ρ := [.d X, .own (.lst (rs.map fun r => .lst (r.map dash))), .no, .no, .no]) (fun r => D.lst (r.map dash)) (fun r => D.str (line r)) rs (ρ1 := [.d X, .d (.lst (rs.map fun r => .lst (r.map dash))), .no, .no, .no]) ?_ rfl (fun r hr => ?_) few
        · simp [runF, outF, sSeq, sIf, sRet, sRetN, sSet1, sSet, sTg, sExpr, sNx, aVar, aK, aCons, aNil, aOp2, app2, aCall, valL, E.val, aT, aNotT, aAndT, aOrT, aAndV, aOrV, aNotV, aIf, aChain, aTup, aLst, keepL, keep1, freeze, toSL, toS, setL, aFn, appFn, argS, slIx, wb, aIter, D.items?, aMeth, D.tyn, aSlice, aPart, aPartN, gIsi, D.isi, gIs, gIsn, D.is?, D.seq?, aStar, O.toD, eBl, eInt, eStr, tset, tsetL, wipeS, backS, nOwn, D.imm]
        exact ⟨_, .d (.str (line r)), rfl, fn1 (var_d rfl) (line_dash (R.row r hr)), rfl, rfl⟩
      have hj : gJoin (.str "\n") [.lst (rs.map fun r => .str (line r))] = some (eStr (page rs)) := by
        have hs : ((rs.map line).map Str.length).sum + (rs.map line).length * 1 ≤ 16777216 := Nat.le_trans (lines_sum R) (by decide)
        simp only [gJoin, strs_of, Option.bind_some]
        rw [len_feed, if_pos hs]
        rfl
      simp [aMeth, aK, E.val, D.tyn, aCons, comp2, aNil, valL, O.toD, hj, c_FEED]
    · exact set_o comp (by simp)
  · rw [if_f (ρ1 := [.d X, .no, .no, .no, .no])]
    · rfl
    · exact aNotT_of (b := true) (aT_of (fn1 (var_d rfl) hh))
theorem read_history_spec {rs : List (List D)} (h : BookOk rs) (ne : rs ≠ []) : m_read_history [.d (.str (page rs))] = .ok (.d (.tup (rs.map .tup))) [.d (.str (page rs))] := by
  have q := all_in_spec (y := "record_in") (F := m_record_in) (by rfl) (book_rows h) ne fun r hr => record_spec (recR_ok (h.row r hr))
  have hh := history_spec h
  unfold m_read_history b_read_history
  simp [runF, outF, sSeq, sIf, sRet, sRetN, sSet1, sSet, sTg, sExpr, sNx, aVar, aK, aCons, aNil, aOp2, app2, aCall, valL, E.val, aT, aNotT, aAndT, aOrT, aAndV, aOrV, aNotV, aIf, aChain, aTup, aLst, keepL, keep1, freeze, toSL, toS, setL, aFn, appFn, argS, slIx, wb, aIter, D.items?, aMeth, D.tyn, aSlice, aPart, aPartN, gIsi, D.isi, gIs, gIsn, D.is?, D.seq?, aStar, O.toD, eBl, eInt, eStr, tset, tsetL, wipeS, backS, nOwn, D.imm, q, hh]
end L2.AL.K11
namespace L2.AL
open PySem PySem.Spec PyProof.Rows
section
variable {ρ : List S} {fa fb : List S → Res E} {x y : D} {v : E} {g : D → D → Option E} {i : Int}
theorem op2_d (ha : fa ρ = .ok (.d x) ρ) (hb : fb ρ = .ok (.d y) ρ) (h : g x y = some v) : aOp2 g fa fb ρ = .ok v ρ := by
  simp [aOp2, ha, hb, app2, E.val, h]
theorem int1 (ha : fa ρ = .ok (.d (.int i)) ρ) : aCall gInt (aCons fa aNil) ρ = .ok (.d (.int i)) ρ := by
  simp [aCall, aCons, ha, aNil, valL, E.val, gInt, eInt]
end
theorem lg {i : Int} {k : Nat} (h : i.natAbs < 2 ^ k) (hk : 0 < k) : i.natAbs.log2 < k := by
  by_cases h0 : i.natAbs = 0
  · rw [h0]; simpa using hk
  · exact (Nat.log2_lt h0).mpr h
theorem gMul_ok {i j : Int} (h : i.natAbs < 2 ^ 2000) (h' : j.natAbs < 2 ^ 2000) : gMul (.int i) (.int j) = some (eInt (i * j)) := by
  have h1 := lg h (by decide)
  have h2 := lg h' (by decide)
  simp only [gMul]
  rw [if_pos (by omega)]
theorem gMod_ok {i j : Int} (h : 0 < j) : gMod (.int i) (.int j) = some (eInt (i % j)) := by
  simp only [gMod]
  rw [if_pos h]
theorem gDiv_ok {i j : Int} (h : 0 < j) (h' : j.natAbs < 2 ^ 2000) : gDiv (.int i) (.int j) = some (eInt (i / j)) := by
  have h2 := lg h' (by decide)
  simp only [gDiv]
  rw [if_pos ⟨h, by omega⟩]
theorem gPow_ok {i : Int} {j : Nat} (h : i.natAbs < 2 ^ 2000) (hj : j ≤ 1000) : gPow (.int i) (.int j) = some (eInt (i ^ j)) := by
  have h1 := lg h (by decide)
  have hb : Builtin.Int.intBits i ≤ 2000 := by
    unfold Builtin.Int.intBits
    split <;> omega
  have hc : (Builtin.Int.intBits i : Int) * (j : Int) ≤ 2 ^ 27 := by
    have : Builtin.Int.intBits i * j ≤ 2000 * 1000 := Nat.mul_le_mul hb hj
    have e : ((Builtin.Int.intBits i * j : Nat) : Int) = (Builtin.Int.intBits i : Int) * (j : Int) := by push_cast; rfl
    rw [← e]
    omega
  simp only [gPow]
  rw [if_pos ⟨by omega, hc⟩]
  simp
end L2.AL
namespace L2.AL.K11
open PySem PySem.Spec PyProof.Rows L2 L2.AL TL
/-! draws -/
def jar (a b t : Int) : O := .lst [.int a, .int b, .int t]
structure JarOk (T : Nat) (o : O) : Prop where
  form : ∃ a b t : Int, o = jar a b t ∧ 0 ≤ b ∧ b < 2305843009213693921 ∧ 0 ≤ t ∧ t ≤ T
theorem JarOk.mono {T T' : Nat} {o : O} (h : JarOk T o) (le : T ≤ T') : JarOk T' o := by
  obtain ⟨a, b, t, e, h1, h2, h3, h4⟩ := h.form
  exact ⟨a, b, t, e, h1, h2, h3, by omega⟩
section
variable {ρ : List S} {a b t : Int}
theorem ix0 (h : ρ[0]? = some (.own (jar a b t))) : aOp2 gIx (aVar 0) (aK (.int 0)) ρ = .ok (.d (.int a)) ρ := by
  simp [aOp2, aVar, h, aK, app2, E.val, jar, O.toD, gIx, atI, ixN]
theorem ix1 (h : ρ[0]? = some (.own (jar a b t))) : aOp2 gIx (aVar 0) (aK (.int 1)) ρ = .ok (.d (.int b)) ρ := by
  simp [aOp2, aVar, h, aK, app2, E.val, jar, O.toD, gIx, atI, ixN]
theorem ix2 (h : ρ[0]? = some (.own (jar a b t))) : aOp2 gIx (aVar 0) (aK (.int 2)) ρ = .ok (.d (.int t)) ρ := by
  simp [aOp2, aVar, h, aK, app2, E.val, jar, O.toD, gIx, atI, ixN]
end
theorem primes (k : Int) (h0 : 0 ≤ k) (h : k < 5) : ∃ p : Int, gIx (.lst [.int 2147483647, .int 2147483629, .int 2147483587, .int 2147483579, .int 2147483563]) (.int k) = some (.d (.int p)) ∧ 0 < p ∧ p ≤ 2147483647 := by
  have : k = 0 ∨ k = 1 ∨ k = 2 ∨ k = 3 ∨ k = 4 := by omega
  rcases this with rfl | rfl | rfl | rfl | rfl
  · exact ⟨2147483647, rfl, by decide, by decide⟩
  · exact ⟨2147483629, rfl, by decide, by decide⟩
  · exact ⟨2147483587, rfl, by decide, by decide⟩
  · exact ⟨2147483579, rfl, by decide, by decide⟩
  · exact ⟨2147483563, rfl, by decide, by decide⟩
theorem take_spec {T : Nat} {o : O} {m : Int} (h : JarOk T o) (hT : T ≤ 100000) (hm : 0 < m) (hm2 : m < 2 ^ 70) :
    ∃ r o', m__law_take [.own o, .d (.int m)] = .ok (.d (.int r)) [.own o', .d (.int m)] ∧ 0 ≤ r ∧ r < m ∧ JarOk (T + 1) o' := by
  obtain ⟨a, b, t, rfl, hb0, hb1, ht0, ht1⟩ := h.form
  have mm : m.natAbs < 2 ^ 2000 := by
    have : m.natAbs < 2 ^ 70 := by omega
    exact Nat.lt_trans this (Nat.pow_lt_pow_right (by decide) (by decide))
  by_cases ha : 0 < a
  · refine ⟨a % m, jar (a / m) b t, ?_, Int.emod_nonneg _ (by omega), Int.emod_lt_of_pos _ hm, ⟨_, _, _, rfl, hb0, hb1, ht0, by omega⟩⟩
    refine (run_rt (ρ1 := [.own (jar (a / m) b t), .d (.int m), .d (.int (a % m)), .no, .no]) rfl ?_).trans rfl
    unfold b__law_take
    show sSeq _ _ [.own (jar a b t), .d (.int m), .no, .no, .no] = _
    rw [seq_rt (v := .d (.int (a % m))) (ρ1 := [.own (jar (a / m) b t), .d (.int m), .d (.int (a % m)), .no, .no])]
    rw [if_t (ρ1 := [.own (jar a b t), .d (.int m), .no, .no, .no])]
    · rw [seq_nx (ρ1 := [.own (jar a b t), .d (.int m), .d (.int (a % m)), .no, .no])]
      · rw [seq_nx (ρ1 := [.own (jar (a / m) b t), .d (.int m), .d (.int (a % m)), .no, .no])]
        · rfl
        · have q : aOp2 gDiv (aOp2 gIx (aVar 0) (aK (.int 0))) (aVar 1) [.own (jar a b t), .d (.int m), .d (.int (a % m)), .no, .no] = .ok (.d (.int (a / m))) [.own (jar a b t), .d (.int m), .d (.int (a % m)), .no, .no] := op2_d (ix0 rfl) (var_d rfl) (gDiv_ok hm mm)
          unfold sPut
          rw [q]
          rfl
      · exact set_d (ρ1 := [.own (jar a b t), .d (.int m), .no, .no, .no]) (op2_d (int1 (ix0 rfl)) (var_d rfl) (gMod_ok hm)) (by simp)
    · refine aT_of (op2_d (ix0 rfl) rfl ?_)
      simp [gGt, ha]
  · obtain ⟨t1, ht⟩ : ∃ t1, t1 = t + 1 := ⟨_, rfl⟩
    have t10 : 0 ≤ t1 := by omega
    have t11 : t1 ≤ 100001 := by omega
    obtain ⟨p, hp, hp0, hp1⟩ := primes (t1 % 5) (Int.emod_nonneg _ (by decide)) (Int.emod_lt_of_pos _ (by decide))
    obtain ⟨x, hx⟩ : ∃ x, x = b + 99877 * t1 * t1 + 71 := ⟨_, rfl⟩
    have tt : t1 * t1 ≤ 100001 * 100001 := Int.mul_le_mul t11 t11 t10 (by decide)
    have tt0 : 0 ≤ t1 * t1 := Int.mul_nonneg t10 t10
    have xb : x.natAbs < 2 ^ 2000 := by
      have e : 99877 * t1 * t1 = 99877 * (t1 * t1) := by rw [Int.mul_assoc]
      have : x.natAbs < 2 ^ 64 := by rw [hx, e]; omega
      exact Nat.lt_trans this (Nat.pow_lt_pow_right (by decide) (by decide))
    obtain ⟨m1, hm1⟩ : ∃ m1, m1 = x ^ 3 % p := ⟨_, rfl⟩
    have m10 : 0 ≤ m1 := by rw [hm1]; exact Int.emod_nonneg _ (by omega)
    have m11 : m1 < 2147483648 := by rw [hm1]; have := Int.emod_lt_of_pos (x ^ 3) hp0; omega
    obtain ⟨y, hy⟩ : ∃ y, y = m1 % 10007 + 89 * t1 := ⟨_, rfl⟩
    have yb : y.natAbs < 2 ^ 64 := by
      have h1 := Int.emod_nonneg m1 (show (10007 : Int) ≠ 0 by decide)
      have h2 := Int.emod_lt_of_pos m1 (show (0 : Int) < 10007 by decide)
      omega
    obtain ⟨m2, hm2'⟩ : ∃ m2, m2 = m1 * y % 2305843009213693907 := ⟨_, rfl⟩
    refine ⟨m2 / 83 % m, jar a b t1, ?_, Int.emod_nonneg _ (by omega), Int.emod_lt_of_pos _ hm, ⟨_, _, _, rfl, hb0, hb1, t10, by push_cast; omega⟩⟩
    refine (run_rt (ρ1 := [.own (jar a b t1), .d (.int m), .no, .d (.int p), .d (.int m2)]) rfl ?_).trans rfl
    unfold b__law_take
    show sSeq _ _ [.own (jar a b t), .d (.int m), .no, .no, .no] = _
    rw [seq_nx (ρ1 := [.own (jar a b t), .d (.int m), .no, .no, .no])]
    · rw [seq_nx (ρ1 := [.own (jar a b t1), .d (.int m), .no, .no, .no])]
      · rw [seq_nx (ρ1 := [.own (jar a b t1), .d (.int m), .no, .d (.int p), .no])]
        · rw [seq_nx (ρ1 := [.own (jar a b t1), .d (.int m), .no, .d (.int p), .d (.int m1)])]
          · rw [seq_nx (ρ1 := [.own (jar a b t1), .d (.int m), .no, .d (.int p), .d (.int m2)])]
            · refine ret_of ?_
              exact op2_d (int1 (op2_d (y := .int 83) (var_d rfl) rfl (gDiv_ok (by decide) (Nat.lt_trans (show (83 : Int).natAbs < 2 ^ 64 by decide) (Nat.pow_lt_pow_right (by decide) (by decide)))))) (var_d rfl) (gMod_ok hm)
            · refine (set_d (x := .int m2) (ρ1 := [.own (jar a b t1), .d (.int m), .no, .d (.int p), .d (.int m1)]) ?_ (by simp)).trans rfl
              have big : ∀ {i : Int}, i.natAbs < 2 ^ 64 → i.natAbs < 2 ^ 2000 := fun h => Nat.lt_trans h (Nat.pow_lt_pow_right (by decide) (by decide))
              have e1 : aOp2 gMod (aCall gInt (aCons (aVar 4) aNil)) (aK (.int 10007)) [.own (jar a b t1), .d (.int m), .no, .d (.int p), .d (.int m1)] = .ok (.d (.int (m1 % 10007))) [.own (jar a b t1), .d (.int m), .no, .d (.int p), .d (.int m1)] := op2_d (y := .int 10007) (int1 (var_d rfl)) rfl (gMod_ok (by decide))
              have e2 : aOp2 gMul (aK (.int 89)) (aOp2 gIx (aVar 0) (aK (.int 2))) [.own (jar a b t1), .d (.int m), .no, .d (.int p), .d (.int m1)] = .ok (.d (.int (89 * t1))) [.own (jar a b t1), .d (.int m), .no, .d (.int p), .d (.int m1)] := op2_d (x := .int 89) rfl (ix2 rfl) (gMul_ok (big (by decide)) (big (by omega)))
              have e3 := op2_d (g := gAdd) e1 e2 rfl
              have e4 := op2_d (g := gMul) (v := .d (.int (m1 * y))) (fa := aVar 4) (var_d (x := .int m1) rfl) e3 (by rw [← hy]; exact gMul_ok (big (by omega)) (big yb))
              have e5 := op2_d (g := gMod) (fb := aK (.int 2305843009213693907)) (int1 e4) rfl (gMod_ok (by decide))
              rw [hm2']
              exact e5
          · refine (set_d (x := .int m1) (ρ1 := [.own (jar a b t1), .d (.int m), .no, .d (.int p), .no]) ?_ (by simp)).trans rfl
            have big : ∀ {i : Int}, i.natAbs < 2 ^ 64 → i.natAbs < 2 ^ 2000 := fun h => Nat.lt_trans h (Nat.pow_lt_pow_right (by decide) (by decide))
            have e1 : aOp2 gMul (aK (.int 99877)) (aOp2 gIx (aVar 0) (aK (.int 2))) [.own (jar a b t1), .d (.int m), .no, .d (.int p), .no] = .ok (.d (.int (99877 * t1))) [.own (jar a b t1), .d (.int m), .no, .d (.int p), .no] := op2_d (x := .int 99877) rfl (ix2 rfl) (gMul_ok (big (by decide)) (big (by omega)))
            have e2 := op2_d (g := gMul) (v := .d (.int (99877 * t1 * t1))) e1 (ix2 rfl) (gMul_ok (big (by omega)) (big (by omega)))
            have e3 := op2_d (g := gAdd) (v := .d (.int (b + 99877 * t1 * t1))) (fa := aOp2 gIx (aVar 0) (aK (.int 1))) (ix1 rfl) e2 rfl
            have e4 := op2_d (g := gAdd) (v := .d (.int x)) (fb := aK (.int 71)) e3 rfl (by rw [hx]; rfl)
            have e5 := op2_d (g := gPow) (v := .d (.int (x ^ 3))) (fb := aK (.int 3)) e4 rfl (gPow_ok (j := 3) xb (by decide))
            rw [hm1]
            exact op2_d (int1 e5) (var_d rfl) (gMod_ok hp0)
        · refine (set_d (x := .int p) (ρ1 := [.own (jar a b t1), .d (.int m), .no, .no, .no]) ?_ (by simp)).trans rfl
          have e1 := op2_d (g := gMod) (v := .d (.int (t1 % 5))) (fb := aK (.int 5)) (int1 (ix2 (ρ := [.own (jar a b t1), .d (.int m), .no, .no, .no]) rfl)) rfl (gMod_ok (by decide))
          have s5 : 5 ≤ sizeLine := small_line (by decide)
          have l5 : aLst (aCons (aK (.int 2147483647)) (aCons (aK (.int 2147483629)) (aCons (aK (.int 2147483587)) (aCons (aK (.int 2147483579)) (aCons (aK (.int 2147483563)) aNil))))) [.own (jar a b t1), .d (.int m), .no, .no, .no] = .ok (.fr (.lst [.int 2147483647, .int 2147483629, .int 2147483587, .int 2147483579, .int 2147483563])) [.own (jar a b t1), .d (.int m), .no, .no, .no] := by
            simp [aLst, aCons, aK, aNil, keepL, keep1, s5]
          rw [aOp2]
          simp only [l5, Res.bind_ok, e1, app2, E.val, O.toD, hp]
      · have q : aOp2 gAdd (aOp2 gIx (aVar 0) (aK (.int 2))) (aK (.int 1)) [.own (jar a b t), .d (.int m), .no, .no, .no] = .ok (.d (.int t1)) [.own (jar a b t), .d (.int m), .no, .no, .no] := op2_d (y := .int 1) (ix2 rfl) rfl (by rw [ht]; rfl)
        unfold sPut
        rw [q]
        rfl
    · rw [if_f (ρ1 := [.own (jar a b t), .d (.int m), .no, .no, .no])]
      · rfl
      · refine aT_of (op2_d (ix0 rfl) rfl ?_)
        simp [gGt, ha]
/-- one of a list or text -/
theorem of_lst {T : Nat} {o : O} {xs : List D} (h : JarOk T o) (hT : T ≤ 100000) (hne : xs ≠ []) (hl : xs.length ≤ 1000) (s : S) (hs : s = .own (.lst xs) ∨ s = .d (.lst xs)) :
    ∃ x o', m__law_of [.own o, s] = .ok (.d x) [.own o', s] ∧ x ∈ xs ∧ JarOk (T + 1) o' := by
  have pos : 0 < xs.length := List.length_pos_iff.mpr hne
  obtain ⟨r, o', e, h0, h1, ok⟩ := take_spec (m := (xs.length : Int)) h hT (by omega) (by omega)
  have hr : r.toNat < xs.length := by omega
  have hi : gIx (.lst xs) (.int r) = some (.d xs[r.toNat]) := by
    simp only [gIx, atI, ixN]
    rw [if_pos h0, if_pos h1]
    simp [hr]
  refine ⟨xs[r.toNat], o', ?_, List.getElem_mem _, ok⟩
  refine (run_rt (ρ1 := [.own o', s]) rfl (ret_of ?_)).trans rfl
  rcases hs with rfl | rfl <;> simp [runF, outF, sSeq, sIf, sRet, sRetN, sSet1, sSet, sTg, sExpr, sNx, aVar, aK, aCons, aNil, aOp2, app2, aCall, valL, E.val, aT, aNotT, aAndT, aOrT, aAndV, aOrV, aNotV, aIf, aChain, aTup, aLst, keepL, keep1, freeze, toSL, toS, setL, aFn, appFn, argS, slIx, wb, aIter, D.items?, aMeth, D.tyn, aSlice, aPart, aPartN, gIsi, D.isi, gIs, gIsn, D.is?, D.seq?, aStar, O.toD, eBl, eInt, eStr, tset, tsetL, wipeS, backS, nOwn, D.imm, gLen, e, hi]
theorem of_str {T : Nat} {o : O} {z : Str} (h : JarOk T o) (hT : T ≤ 100000) (hne : 0 < z.length) (hl : z.length ≤ 1000) (s : S) (hs : s = .d (.str z)) :
    ∃ c o', m__law_of [.own o, s] = .ok (.d (.str ⟨#[c]⟩)) [.own o', s] ∧ c ∈ tl z ∧ JarOk (T + 1) o' := by
  obtain ⟨r, o', e, h0, h1, ok⟩ := take_spec (m := (z.length : Int)) h hT (by omega) (by omega)
  have lz : z.length = z.cps.toList.length := by simp [Str.length]
  have hr : r.toNat < z.cps.toList.length := by omega
  have sz : z.length ≤ sizeLine := small_line (by omega)
  have h1' : r < z.cps.toList.length := by omega
  have hi : gIx (.str z) (.int r) = some (.d (.str ⟨#[z.cps.toList[r.toNat]]⟩)) := by
    simp only [gIx, atI, ixN]
    rw [if_pos sz, if_pos h0, if_pos h1']
    simp only [Option.bind_some, List.getElem?_eq_getElem hr, Option.map_some]
  refine ⟨z.cps.toList[r.toNat], o', ?_, List.getElem_mem _, ok⟩
  refine (run_rt (ρ1 := [.own o', s]) rfl (ret_of ?_)).trans rfl
  subst hs
  have hlen : gLen [.str z] = some (.d (.int z.length)) := by simp only [gLen, if_pos sz]
  have e1 : aFn m__law_take (aCons (aVar 0) (aCons (aCall gLen (aCons (aVar 1) aNil)) aNil)) [.own o, .d (.str z)] = .ok (.d (.int r)) [.own o', .d (.str z)] := by
    simp [runF, outF, sSeq, sIf, sRet, sRetN, sSet1, sSet, sTg, sExpr, sNx, aVar, aK, aCons, aNil, aOp2, app2, aCall, valL, E.val, aT, aNotT, aAndT, aOrT, aAndV, aOrV, aNotV, aIf, aChain, aTup, aLst, keepL, keep1, freeze, toSL, toS, setL, aFn, appFn, argS, slIx, wb, aIter, D.items?, aMeth, D.tyn, aSlice, aPart, aPartN, gIsi, D.isi, gIs, gIsn, D.is?, D.seq?, aStar, O.toD, eBl, eInt, eStr, tset, tsetL, wipeS, backS, nOwn, D.imm, hlen, e]
  show aOp2 gIx (aVar 1) _ [.own o, .d (.str z)] = _
  simp only [aOp2, var_d (ρ := [.own o, .d (.str z)]) (i := 1) rfl, Res.bind_ok, e1, app2, E.val, hi]
end L2.AL.K11
namespace L2.AL.K11
open PySem PySem.Spec PyProof.Rows L2 L2.AL TL
theorem big64 {i : Int} (h : i.natAbs < 2 ^ 64) : i.natAbs < 2 ^ 2000 := Nat.lt_trans h (Nat.pow_lt_pow_right (by decide) (by decide))
theorem pow60 : (((10 : Int) ^ 60).natAbs) < 2 ^ 2000 := Nat.lt_trans (show ((10 : Int) ^ 60).natAbs < 2 ^ 200 by decide +kernel) (Nat.pow_lt_pow_right (by decide) (by decide))
theorem jar_spec {ns : List Int} {k : Int} (h0 : 0 ≤ k) (h1 : k < 10) (hl : ns.length ≤ 63) : ∃ o, m__law_jar [.d (.scr ns), .d (.int k)] = .ok (.fr o) [.d (.scr ns), .d (.int k)] ∧ JarOk 0 o := by
  obtain ⟨c, hc⟩ : ∃ c : Int, aIf (aT (aOp2 gLt (aVar 1) (aCall gLen (aCons (aVar 0) aNil)))) (aOp2 gIx (aVar 0) (aVar 1)) (aOp2 gAdd (aOp2 gMul (aK (.int 29)) (aVar 1)) (aK (.int 11))) [.d (.scr ns), .d (.int k), .no, .no] = .ok (.d (.int c)) [.d (.scr ns), .d (.int k), .no, .no] := by
    have e1 : aT (aOp2 gLt (aVar 1) (aCall gLen (aCons (aVar 0) aNil))) [.d (.scr ns), .d (.int k), .no, .no] = .ok (decide (k < (ns.length : Int))) [.d (.scr ns), .d (.int k), .no, .no] := aT_of (op2_d (x := .int k) (y := .int ns.length) rfl rfl rfl)
    by_cases hk : k < (ns.length : Int)
    · have hr : k.toNat < ns.length := by omega
      refine ⟨ns[k.toNat], ?_⟩
      rw [aIf, e1]
      simp only [Res.bind_ok, decide_eq_true hk, if_true]
      refine op2_d (x := .scr ns) (y := .int k) rfl rfl ?_
      simp only [gIx, atI, ixN]
      rw [if_pos h0, if_pos hk]
      simp [hr]
    · refine ⟨29 * k + 11, ?_⟩
      rw [aIf, e1]
      simp only [Res.bind_ok, decide_eq_false hk, Bool.false_eq_true, if_false]
      exact op2_d (op2_d (x := .int 29) (y := .int k) rfl rfl (gMul_ok (big64 (by decide)) (big64 (by omega)))) rfl rfl
  obtain ⟨ab, hab⟩ : ∃ ab : Int, ab = if c < 0 then -c else c := ⟨_, rfl⟩
  obtain ⟨m, hm⟩ : ∃ m : Int, aOp2 gMul (aOp2 gMod (aCall gInt (aCons (aCall gAbs (aCons (aVar 2) aNil)) aNil)) (aOp2 gPow (aOp2 gPow (aK (.int 10)) (aK (.int 60))) (aK (.int 5)))) (aCall gInt (aCons (aOp2 gGe (aCall gAbs (aCons (aVar 2) aNil)) (aOp2 gPow (aK (.int 10)) (aK (.int 18)))) aNil)) [.d (.scr ns), .d (.int k), .d (.int c), .no] = .ok (.d (.int m)) [.d (.scr ns), .d (.int k), .d (.int c), .no] := by
    have a1 : aCall gAbs (aCons (aVar 2) aNil) [.d (.scr ns), .d (.int k), .d (.int c), .no] = .ok (.d (.int ab)) [.d (.scr ns), .d (.int k), .d (.int c), .no] := by rw [hab]; rfl
    have p1 : aOp2 gPow (aK (.int 10)) (aK (.int 60)) [.d (.scr ns), .d (.int k), .d (.int c), .no] = .ok (.d (.int (10 ^ 60))) [.d (.scr ns), .d (.int k), .d (.int c), .no] := op2_d (x := .int 10) (y := .int 60) rfl rfl (gPow_ok (j := 60) (big64 (by decide)) (by decide))
    have p2 := op2_d (g := gPow) (v := .d (.int ((10 ^ 60) ^ 5))) (fb := aK (.int 5)) p1 rfl (gPow_ok (j := 5) pow60 (by decide))
    have pos : (0 : Int) < (10 ^ 60) ^ 5 := by decide +kernel
    have m1 := op2_d (g := gMod) (int1 a1) p2 (gMod_ok pos)
    have p3 : aOp2 gPow (aK (.int 10)) (aK (.int 18)) [.d (.scr ns), .d (.int k), .d (.int c), .no] = .ok (.d (.int (10 ^ 18))) [.d (.scr ns), .d (.int k), .d (.int c), .no] := op2_d (x := .int 10) (y := .int 18) rfl rfl (gPow_ok (j := 18) (big64 (by decide)) (by decide))
    have g1 := op2_d (g := gGe) (v := .d (.bl (decide ((10 ^ 18 : Int) ≤ ab)))) a1 p3 rfl
    have b1 : aCall gInt (aCons (aOp2 gGe (aCall gAbs (aCons (aVar 2) aNil)) (aOp2 gPow (aK (.int 10)) (aK (.int 18)))) aNil) [.d (.scr ns), .d (.int k), .d (.int c), .no] = .ok (.d (.int (if decide ((10 ^ 18 : Int) ≤ ab) = true then 1 else 0))) [.d (.scr ns), .d (.int k), .d (.int c), .no] := by
      simp only [aCall, aCons, g1, aNil, Res.bind_ok, valL, E.val, gInt, Option.bind_some, eInt]
    refine ⟨_, op2_d m1 b1 (gMul_ok ?_ ?_)⟩
    · have h1 := Int.emod_nonneg ab (show ((10 : Int) ^ 60) ^ 5 ≠ 0 by omega)
      have h2 := Int.emod_lt_of_pos ab pos
      have h3 : ((10 : Int) ^ 60) ^ 5 = ((((10 ^ 60) ^ 5 : Nat)) : Int) := by decide +kernel
      have h4 : (10 ^ 60) ^ 5 < 2 ^ 2000 := by decide +kernel
      omega
    · split <;> exact big64 (by decide)
  refine ⟨jar m ((c % 2305843009213693951 * 70843 + 8521 * k * k + 41) % 2305843009213693921) 0, ?_, ⟨_, _, _, rfl, Int.emod_nonneg _ (by decide), Int.emod_lt_of_pos _ (by decide), by decide, by decide⟩⟩
  refine (run_fr (ρ1 := [.d (.scr ns), .d (.int k), .d (.int c), .d (.int m)]) rfl ?_).trans rfl
  unfold b__law_jar
  show sSeq _ _ [.d (.scr ns), .d (.int k), .no, .no] = _
  rw [seq_nx (ρ1 := [.d (.scr ns), .d (.int k), .d (.int c), .no]) (set_d hc (by simp)), seq_nx (ρ1 := [.d (.scr ns), .d (.int k), .d (.int c), .d (.int m)]) (set_d hm (by simp))]
  refine ret_of ?_
  have kk : (8521 * k).natAbs < 2 ^ 64 := by omega
  have c0 := Int.emod_nonneg c (show (2305843009213693951 : Int) ≠ 0 by decide)
  have c1 := Int.emod_lt_of_pos c (show (0 : Int) < 2305843009213693951 by decide)
  have e1 : aOp2 gMod (aCall gInt (aCons (aVar 2) aNil)) (aK (.int 2305843009213693951)) [.d (.scr ns), .d (.int k), .d (.int c), .d (.int m)] = .ok (.d (.int (c % 2305843009213693951))) [.d (.scr ns), .d (.int k), .d (.int c), .d (.int m)] := op2_d (y := .int 2305843009213693951) (int1 (var_d rfl)) rfl (gMod_ok (by decide))
  have e2 := op2_d (g := gMul) (v := .d (.int (c % 2305843009213693951 * 70843))) (fb := aK (.int 70843)) e1 rfl (gMul_ok (big64 (by omega)) (big64 (by decide)))
  have e3 : aOp2 gMul (aK (.int 8521)) (aVar 1) [.d (.scr ns), .d (.int k), .d (.int c), .d (.int m)] = .ok (.d (.int (8521 * k))) [.d (.scr ns), .d (.int k), .d (.int c), .d (.int m)] := op2_d (x := .int 8521) (y := .int k) rfl rfl (gMul_ok (big64 (by decide)) (big64 (by omega)))
  have e4 := op2_d (g := gMul) (v := .d (.int (8521 * k * k))) (fb := aVar 1) (y := .int k) e3 rfl (gMul_ok (big64 kk) (big64 (by omega)))
  have e5 := op2_d (g := gAdd) (v := .d (.int (c % 2305843009213693951 * 70843 + 8521 * k * k))) e2 e4 rfl
  have e6 := op2_d (g := gAdd) (v := .d (.int (c % 2305843009213693951 * 70843 + 8521 * k * k + 41))) (fb := aK (.int 41)) e5 rfl rfl
  have e7 := op2_d (g := gMod) (v := .d (.int ((c % 2305843009213693951 * 70843 + 8521 * k * k + 41) % 2305843009213693921))) (fb := aK (.int 2305843009213693921)) (int1 e6) rfl (gMod_ok (by decide))
  have s3 : 3 ≤ sizeLine := small_line (by decide)
  have v3 : aVar 3 [.d (.scr ns), .d (.int k), .d (.int c), .d (.int m)] = .ok (.d (.int m)) [.d (.scr ns), .d (.int k), .d (.int c), .d (.int m)] := rfl
  simp only [aLst, aCons, v3, e7, Res.bind_ok, aK, aNil, keepL, keep1, List.length_cons, List.length_nil]
  rw [if_pos (by omega)]
  rfl
end L2.AL.K11
namespace L2.AL.K11
open PySem PySem.Spec PyProof.Rows L2 L2.AL TL
def small : Str := Str.ofString "abcdefghijklmnopqrstuvwxyz"
theorem tl_small : tl small = lets := tl_lets
theorem len_small : small.length = 26 := len_lets
theorem letters_of : ∀ {ys : List D}, (∀ y ∈ ys, ∃ c, c ∈ lets ∧ y = .str ⟨#[c]⟩) → ∃ cs : List Nat, ys = cs.map (fun c => .str ⟨#[c]⟩) ∧ ∀ c ∈ cs, c ∈ lets
  | [], _ => ⟨[], rfl, by simp⟩
  | y :: ys, h => by
    obtain ⟨c, hc, rfl⟩ := h y List.mem_cons_self
    obtain ⟨cs, rfl, hcs⟩ := letters_of fun z hz => h z (List.mem_cons_of_mem _ hz)
    exact ⟨c :: cs, rfl, fun x hx => by
      rcases List.mem_cons.mp hx with rfl | hx
      · exact hc
      · exact hcs x hx⟩
theorem joinL_nil : ∀ cs : List Nat, joinL [] (cs.map fun c => [c]) = cs
  | [] => rfl
  | [c] => rfl
  | c :: d :: r => by
    have := joinL_nil (d :: r)
    simp only [List.map_cons, joinL, List.nil_append] at this ⊢
    rw [this]; rfl
theorem tl_stem (cs : List Nat) : tl (Txt.join "" (cs.map fun c => (⟨#[c]⟩ : Str))) = cs := by
  rw [join_eq, tl_join, show tl (Str.ofString "") = [] by decide +kernel, List.map_map]
  exact joinL_nil cs
theorem rangeD_len (lo : Int) (n : Nat) : (rangeD lo n).length = n := by unfold rangeD; simp
theorem rangeD_get {lo : Int} {n i : Nat} {x : D} (h : (rangeD lo n)[i]? = some x) : x = .int (lo + i) ∧ i < n := by
  unfold rangeD at h
  obtain ⟨j, h1, rfl⟩ := map_get h
  have hj : i < n := by
    have := (List.getElem?_eq_some_iff.mp h1).1
    simpa using this
  rw [List.getElem?_range hj] at h1
  cases h1
  exact ⟨rfl, hj⟩
/-- a call that changes the slot 0's object: f(jar, x) -/
theorem fn_jar {F : List S → Res E} {fx : List S → Res E} {ρ : List S} {o o' : O} {x : E} {s s' : S} {y : D} (h0 : ρ[0]? = some (.own o)) (hx : fx ρ = .ok x ρ) (hs : (∃ d, x = .d d ∧ s = .d d) ∨ (∃ p, x = .fr p ∧ s = .own p)) (hF : F [.own o, s] = .ok (.d y) [.own o', s']) :
    aFn F (aCons (aVar 0) (aCons fx aNil)) ρ = .ok (.d y) (ρ.set 0 (.own o')) := by
  rcases hs with ⟨d, rfl, rfl⟩ | ⟨p, rfl, rfl⟩ <;>
    simp [aFn, aCons, aVar, h0, hx, aNil, appFn, argS, slIx, hF, wb]
theorem fn_jar_sl {F : List S → Res E} {ρ : List S} {o o' p : O} {i : Nat} {y : D} (hi : i ≠ 0) (h0 : ρ[0]? = some (.own o)) (hx : ρ[i]? = some (.own p)) (hF : F [.own o, .own p] = .ok (.d y) [.own o', .own p]) :
    aFn F (aCons (aVar 0) (aCons (aVar i) aNil)) ρ = .ok (.d y) (ρ.set 0 (.own o')) := by
  have e : (ρ.set 0 (.own o')).set i (.own p) = ρ.set 0 (.own o') := by
    refine List.ext_getElem? fun j => ?_
    by_cases hj : i = j
    · subst hj
      have hl : i < (ρ.set 0 (S.own o')).length := by rw [List.length_set]; exact (List.getElem?_eq_some_iff.mp hx).1
      rw [List.getElem?_set_self hl, List.getElem?_set_ne (Ne.symm hi), hx]
    · rw [List.getElem?_set_ne hj]
  have hd : (0 : Nat) ≠ i := Ne.symm hi
  simp [aFn, aCons, aVar, h0, hx, aNil, appFn, argS, slIx, hF, wb, e, hd]
theorem cut_lo {z : Str} {k : Int} (h0 : 0 ≤ k) (h1 : k ≤ z.length) : tl (cutS z none (some k)) = (tl z).take k.toNat := by
  obtain ⟨n, rfl⟩ := Int.eq_ofNat_of_zero_le h0
  unfold cutS
  rw [HT.sIx_none, HT.sIx_nat]
  simp only [tl, List.drop_zero, Nat.sub_zero, Int.toNat_natCast]
  rw [Nat.min_eq_left (by omega)]
theorem cut_hi {z : Str} {k : Int} (h0 : 0 ≤ k) (h1 : k ≤ z.length) : tl (cutS z (some k) none) = (tl z).drop k.toNat := by
  obtain ⟨n, rfl⟩ := Int.eq_ofNat_of_zero_le h0
  unfold cutS
  rw [HT.sIx_none, HT.sIx_nat]
  simp only [tl, Int.toNat_natCast]
  rw [Nat.min_eq_left (by omega)]
  have : z.cps.toList.length = z.length := by simp [Str.length]
  rw [List.take_of_length_le (by rw [List.length_drop]; omega)]
theorem set0 {o o' : O} {r : List S} : (S.own o :: r).set 0 (.own o') = .own o' :: r := rfl
theorem names_law {T : Nat} {o : O} {n : Int} (h : JarOk T o) (hT : T ≤ 90000) (h1 : 1 ≤ n) (h5 : n ≤ 5) :
    ∃ nms : List Str, ∃ o', m__law_names [.own o, .d (.int n)] = .ok (.fr (.lst (nms.map .str))) [.own o', .d (.int n)] ∧ nms ≠ [] ∧ nms.length ≤ 5 ∧ (∀ z ∈ nms, nameB z = true) ∧ JarOk (T + 20) o' := by
  have s5 : 5 ≤ sizeLine := small_line (by decide)
  -- how many letters
  obtain ⟨x0, o1, e1, hx0, ok1⟩ := of_lst (xs := [.int 0, .int 0, .int 1, .int 3, .int 7]) h (by omega) (by simp) (by simp) (.own (.lst [.int 0, .int 0, .int 1, .int 3, .int 7])) (.inl rfl)
  obtain ⟨j, rfl, hj0, hj7⟩ : ∃ j : Int, x0 = .int j ∧ 0 ≤ j ∧ j ≤ 7 := by
    simp at hx0
    rcases hx0 with rfl | rfl | rfl | rfl <;> exact ⟨_, rfl, by decide, by decide⟩
  -- the stem
  have hit : aRng1 (aCons (aFn m__law_of (aCons (aVar 0) (aCons (aLst (aCons (aK (.int 0)) (aCons (aK (.int 0)) (aCons (aK (.int 1)) (aCons (aK (.int 3)) (aCons (aK (.int 7)) aNil)))))) aNil))) aNil) [.own o, .d (.int n), .d (.str small), .no, .no, .no, .no, .no] = .ok (rangeD 0 j.toNat) [.own o1, .d (.int n), .d (.str small), .no, .no, .no, .no, .no] := by
    have l5 : aLst (aCons (aK (.int 0)) (aCons (aK (.int 0)) (aCons (aK (.int 1)) (aCons (aK (.int 3)) (aCons (aK (.int 7)) aNil))))) [.own o, .d (.int n), .d (.str small), .no, .no, .no, .no, .no] = .ok (.fr (.lst [.int 0, .int 0, .int 1, .int 3, .int 7])) [.own o, .d (.int n), .d (.str small), .no, .no, .no, .no, .no] := by
      simp [aLst, aCons, aK, aNil, keepL, keep1, s5]
    have q := fn_jar (o := o) rfl l5 (.inr ⟨_, rfl, rfl⟩) e1
    unfold aRng1
    rw [aCons, q]
    simp only [Res.bind_ok, aNil]
    rw [if_pos ⟨by omega, by omega⟩, set0]
  obtain ⟨ys, ρ', c1, cl, cR, o2, rfl, ok2⟩ := aLc_ex (f := aFn m__law_of (aCons (aVar 0) (aCons (aVar 2) aNil))) (t := .nm 4) (vs := [4]) (I := fun i ρ => ∃ o', ρ = [.own o', .d (.int n), .d (.str small), .no, .no, .no, .no, .no] ∧ JarOk (T + 1 + i) o') (R := fun y => ∃ c, c ∈ lets ∧ y = .str ⟨#[c]⟩) hit rfl (by
      rintro i x ρ hx ⟨o', rfl, ok⟩
      obtain ⟨rfl, hi⟩ := rangeD_get hx
      obtain ⟨c, o2, e2, hc, ok2⟩ := of_str (z := small) ok (by omega) (by rw [len_small]; decide) (by rw [len_small]; decide) _ rfl
      rw [tl_small] at hc
      have q := fn_jar (o := o') (fx := aVar 2) (ρ := [.own o', .d (.int n), .d (.str small), .no, .d (.int (0 + i)), .no, .no, .no]) rfl rfl (.inl ⟨_, rfl, rfl⟩) e2
      exact ⟨_, .d (.str ⟨#[c]⟩), _, _, _, rfl, q, rfl, ⟨c, hc, rfl⟩, o2, rfl, ok2⟩) ⟨o1, rfl, ok1⟩ (by rw [rangeD_len]; exact small_line (by omega))
  rw [rangeD_len] at cl ok2
  obtain ⟨cs, rfl, hcs⟩ := letters_of cR
  rw [List.length_map] at cl
  obtain ⟨stem, hstem⟩ : ∃ stem : Str, stem = Txt.join "" (cs.map fun c => (⟨#[c]⟩ : Str)) := ⟨_, rfl⟩
  have tstem : tl stem = cs := by rw [hstem]; exact tl_stem cs
  have lstem : stem.length = cs.length := by rw [len_tl, tstem]
  have hjoin : gJoin (.str "") [.lst (cs.map fun c => .str ⟨#[c]⟩)] = some (eStr stem) := by
    simp only [gJoin, strs_of (fun c => (⟨#[c]⟩ : Str)) cs, Option.bind_some]
    rw [if_pos, hstem]
    have := sum_le Str.length 1 (cs.map fun c => (⟨#[c]⟩ : Str)) (by
      intro x hx
      obtain ⟨c, _, rfl⟩ := List.mem_map.mp hx
      exact Nat.le_refl 1)
    have e0 : (Str.ofString "").length = 0 := by decide +kernel
    rw [List.length_map] at this
    rw [e0, List.length_map]
    have : ((cs.map fun c => (⟨#[c]⟩ : Str)).map fun x => x.length).sum ≤ cs.length * 1 := this
    omega
  have s3 : aMeth "str" gJoin (aK (.str "")) (aCons (aLc [4] (aRng1 (aCons (aFn m__law_of (aCons (aVar 0) (aCons (aLst (aCons (aK (.int 0)) (aCons (aK (.int 0)) (aCons (aK (.int 1)) (aCons (aK (.int 3)) (aCons (aK (.int 7)) aNil)))))) aNil))) aNil)) (.nm 4) aYes (aFn m__law_of (aCons (aVar 0) (aCons (aVar 2) aNil)))) aNil) [.own o, .d (.int n), .d (.str small), .no, .no, .no, .no, .no] = .ok (.d (.str stem)) [.own o2, .d (.int n), .d (.str small), .no, .no, .no, .no, .no] := by
    simp [aMeth, aK, E.val, D.tyn, aCons, c1, aNil, valL, O.toD, hjoin, backS]
  -- the place and the letter
  obtain ⟨spot, o3, e3, sp0, sp1, ok3⟩ := take_spec (m := (stem.length : Int) + 1) ok2 (by omega) (by omega) (by omega)
  obtain ⟨first, o4, e4, f0, f1, ok4⟩ := take_spec (m := 26) ok3 (by omega) (by decide) (by decide)
  have ls : stem.length ≤ sizeLine := small_line (by omega)
  have q3 : aFn m__law_take (aCons (aVar 0) (aCons (aOp2 gAdd (aCall gLen (aCons (aVar 3) aNil)) (aK (.int 1))) aNil)) [.own o2, .d (.int n), .d (.str small), .d (.str stem), .no, .no, .no, .no] = .ok (.d (.int spot)) [.own o3, .d (.int n), .d (.str small), .d (.str stem), .no, .no, .no, .no] := by
    have hlen : aCall gLen (aCons (aVar 3) aNil) [.own o2, .d (.int n), .d (.str small), .d (.str stem), .no, .no, .no, .no] = .ok (.d (.int stem.length)) [.own o2, .d (.int n), .d (.str small), .d (.str stem), .no, .no, .no, .no] := by
      simp only [aCall, aCons, aNil]
      simp [aVar, valL, E.val, gLen, ls, eInt]
    exact fn_jar rfl (op2_d (g := gAdd) (v := .d (.int (stem.length + 1))) (fb := aK (.int 1)) hlen rfl rfl) (.inl ⟨_, rfl, rfl⟩) e3
  have q4 : aFn m__law_take (aCons (aVar 0) (aCons (aK (.int 26)) aNil)) [.own o3, .d (.int n), .d (.str small), .d (.str stem), .no, .no, .no, .no] = .ok (.d (.int first)) [.own o4, .d (.int n), .d (.str small), .d (.str stem), .no, .no, .no, .no] :=
    fn_jar (fx := aK (.int 26)) rfl rfl (.inl ⟨_, rfl, rfl⟩) e4
  -- the names
  obtain ⟨nm, hnm⟩ : ∃ nm : Nat → Str, ∀ k : Nat, ∃ c, nm k = cutS stem none (some spot) ++ ⟨#[c]⟩ ++ cutS stem (some spot) none ∧ c ∈ lets ∧ gIx (.str small) (.int ((first + 3 * (k : Int)) % 26)) = some (.d (.str ⟨#[c]⟩)) := by
    have : ∀ k : Nat, ∃ z : Str, ∃ c, z = cutS stem none (some spot) ++ ⟨#[c]⟩ ++ cutS stem (some spot) none ∧ c ∈ lets ∧ gIx (.str small) (.int ((first + 3 * (k : Int)) % 26)) = some (.d (.str ⟨#[c]⟩)) := fun k => by
      have r0 := Int.emod_nonneg (first + 3 * (k : Int)) (show (26 : Int) ≠ 0 by decide)
      have r1 := Int.emod_lt_of_pos (first + 3 * (k : Int)) (show (0 : Int) < 26 by decide)
      have lsm : small.cps.toList.length = 26 := by have := len_small; simpa [Str.length] using this
      have hr : ((first + 3 * (k : Int)) % 26).toNat < small.cps.toList.length := by omega
      refine ⟨_, small.cps.toList[((first + 3 * (k : Int)) % 26).toNat], rfl, ?_, ?_⟩
      · have : small.cps.toList[((first + 3 * (k : Int)) % 26).toNat] ∈ tl small := List.getElem_mem _
        rw [tl_small] at this
        exact this
      · simp only [gIx, atI, ixN]
        rw [if_pos (by rw [len_small]; exact small_line (by decide)), if_pos r0, if_pos (by omega)]
        simp only [Option.bind_some, List.getElem?_eq_getElem hr, Option.map_some]
    exact ⟨fun k => Classical.choose (this k), fun k => Classical.choose_spec (this k)⟩
  have hname : ∀ k, nameB (nm k) = true := fun k => by
    obtain ⟨c, e, hc, _⟩ := hnm k
    have t : tl (nm k) = cs.take spot.toNat ++ [c] ++ cs.drop spot.toNat := by
      rw [e, tl_append, tl_append, cut_lo sp0 (by omega), cut_hi sp0 (by omega), tstem]
    have l : (nm k).length = cs.length + 1 := by
      rw [len_tl, t]
      simp only [List.length_append, List.length_take, List.length_drop, List.length_cons, List.length_nil]
      omega
    unfold nameB
    rw [decide_eq_true (show 1 ≤ (nm k).length ∧ (nm k).length ≤ 8 by omega), Bool.true_and, List.all_eq_true]
    intro d hd
    have hd : d ∈ tl (nm k) := hd
    rw [t] at hd
    simp only [List.mem_append, List.mem_singleton] at hd
    refine decide_eq_true ?_
    rcases hd with (hd | rfl) | hd
    · exact hcs d (List.mem_of_mem_take hd)
    · exact hc
    · exact hcs d (List.mem_of_mem_drop hd)
  have comp : aLc [7] (aRng1 (aCons (aVar 1) aNil)) (.nm 7) aYes (aOp2 gAdd (aOp2 gAdd (aSlice (aVar 3) aPartN (aPart (aVar 5))) (aOp2 gIx (aVar 2) (aOp2 gMod (aCall gInt (aCons (aOp2 gAdd (aVar 6) (aOp2 gMul (aK (.int 3)) (aVar 7))) aNil)) (aK (.int 26))))) (aSlice (aVar 3) (aPart (aVar 5)) aPartN)) [.own o4, .d (.int n), .d (.str small), .d (.str stem), .no, .d (.int spot), .d (.int first), .no] = .ok (.fr (.lst ((List.range n.toNat).map fun k => .str (nm k)))) [.own o4, .d (.int n), .d (.str small), .d (.str stem), .no, .d (.int spot), .d (.int first), .no] := by
    refine aLc_all (fun k : Nat => D.int (0 + (k : Int))) (fun k => D.str (nm k)) (List.range n.toNat) (ρ1 := [.own o4, .d (.int n), .d (.str small), .d (.str stem), .no, .d (.int spot), .d (.int first), .no]) ?_ rfl (fun k hk => ?_) (by rw [List.length_range]; exact small_line (by omega))
    · unfold aRng1
      simp only [aCons, aVar, List.getElem?_cons_succ, List.getElem?_cons_zero, Res.bind_ok, aNil]
      rw [if_pos ⟨by omega, by omega⟩]
      rfl
    · obtain ⟨c, e, hc, hi⟩ := hnm k
      have hk : k < n.toNat := List.mem_range.mp hk
      refine ⟨[.own o4, .d (.int n), .d (.str small), .d (.str stem), .no, .d (.int spot), .d (.int first), .d (.int (0 + (k : Int)))], .d (.str (nm k)), rfl, ?_, rfl, rfl⟩
      rw [Int.zero_add]
      have i1 : aOp2 gMul (aK (.int 3)) (aVar 7) [.own o4, .d (.int n), .d (.str small), .d (.str stem), .no, .d (.int spot), .d (.int first), .d (.int (k : Int))] = .ok (.d (.int (3 * k))) [.own o4, .d (.int n), .d (.str small), .d (.str stem), .no, .d (.int spot), .d (.int first), .d (.int (k : Int))] := op2_d (x := .int 3) (y := .int k) rfl rfl (gMul_ok (big64 (by decide)) (big64 (by omega)))
      have i2 := op2_d (g := gAdd) (v := .d (.int (first + 3 * k))) (fa := aVar 6) (x := .int first) rfl i1 rfl
      have i3 := op2_d (g := gMod) (v := .d (.int ((first + 3 * k) % 26))) (fb := aK (.int 26)) (int1 i2) rfl (gMod_ok (by decide))
      have i4 := op2_d (g := gIx) (fa := aVar 2) (x := .str small) rfl i3 hi
      have c1 : aSlice (aVar 3) aPartN (aPart (aVar 5)) [.own o4, .d (.int n), .d (.str small), .d (.str stem), .no, .d (.int spot), .d (.int first), .d (.int (k : Int))] = .ok (.d (.str (cutS stem none (some spot)))) [.own o4, .d (.int n), .d (.str small), .d (.str stem), .no, .d (.int spot), .d (.int first), .d (.int (k : Int))] := by
        simp [runF, outF, sSeq, sIf, sRet, sRetN, sSet1, sSet, sTg, sExpr, sNx, aVar, aK, aCons, aNil, aOp2, app2, aCall, valL, E.val, aT, aNotT, aAndT, aOrT, aAndV, aOrV, aNotV, aIf, aChain, aTup, aLst, keepL, keep1, freeze, toSL, toS, setL, aFn, appFn, argS, slIx, wb, aIter, D.items?, aMeth, D.tyn, aSlice, aPart, aPartN, gIsi, D.isi, gIs, gIsn, D.is?, D.seq?, aStar, O.toD, eBl, eInt, eStr, tset, tsetL, wipeS, backS, nOwn, D.imm, gSl, ls]
      have c2 : aSlice (aVar 3) (aPart (aVar 5)) aPartN [.own o4, .d (.int n), .d (.str small), .d (.str stem), .no, .d (.int spot), .d (.int first), .d (.int (k : Int))] = .ok (.d (.str (cutS stem (some spot) none))) [.own o4, .d (.int n), .d (.str small), .d (.str stem), .no, .d (.int spot), .d (.int first), .d (.int (k : Int))] := by
        simp [runF, outF, sSeq, sIf, sRet, sRetN, sSet1, sSet, sTg, sExpr, sNx, aVar, aK, aCons, aNil, aOp2, app2, aCall, valL, E.val, aT, aNotT, aAndT, aOrT, aAndV, aOrV, aNotV, aIf, aChain, aTup, aLst, keepL, keep1, freeze, toSL, toS, setL, aFn, appFn, argS, slIx, wb, aIter, D.items?, aMeth, D.tyn, aSlice, aPart, aPartN, gIsi, D.isi, gIs, gIsn, D.is?, D.seq?, aStar, O.toD, eBl, eInt, eStr, tset, tsetL, wipeS, backS, nOwn, D.imm, gSl, ls]
      have l1 : (cutS stem none (some spot)).length ≤ 8 := by
        rw [len_tl, cut_lo sp0 (by omega), tstem, List.length_take]; omega
      have l2 : (cutS stem (some spot) none).length ≤ 8 := by
        rw [len_tl, cut_hi sp0 (by omega), tstem, List.length_drop]; omega
      have l3 : (⟨#[c]⟩ : Str).length = 1 := rfl
      have a1 := op2_d (g := gAdd) (v := .d (.str (cutS stem none (some spot) ++ ⟨#[c]⟩))) c1 i4 (by
        simp only [gAdd]
        rw [if_pos (small_line (by omega))])
      have l4 : (cutS stem none (some spot) ++ ⟨#[c]⟩).length ≤ 9 := by
        rw [len_tl, tl_append, List.length_append, ← len_tl, ← len_tl]; omega
      rw [e]
      exact op2_d a1 c2 (by
        simp only [gAdd]
        rw [if_pos (small_line (by omega))])
  refine ⟨(List.range n.toNat).map nm, o4, ?_, ?_, by simp; omega, fun z hz => ?_, ok4.mono (by omega)⟩
  · refine (run_fr (ρ1 := [.own o4, .d (.int n), .d (.str small), .d (.str stem), .no, .d (.int spot), .d (.int first), .no]) rfl ?_).trans (by rw [List.map_map]; rfl)
    unfold b__law_names
    rw [seq_nx (ρ1 := [.own o, .d (.int n), .d (.str small), .no, .no, .no, .no, .no]) (set_d (x := .str small) (ρ1 := [.own o, .d (.int n), .no, .no, .no, .no, .no, .no]) rfl (by simp)),
      seq_nx (ρ1 := [.own o2, .d (.int n), .d (.str small), .d (.str stem), .no, .no, .no, .no]) (set_d s3 (by simp)),
      seq_nx (ρ1 := [.own o4, .d (.int n), .d (.str small), .d (.str stem), .no, .d (.int spot), .d (.int first), .no])]
    · exact ret_of comp
    · simp [sSet, aCons, q3, q4, aNil, toSL, toS, setL]
  · intro e
    have := congrArg List.length e
    simp at this
    omega
  · obtain ⟨k, _, rfl⟩ := List.mem_map.mp hz
    exact hname k
end L2.AL.K11
namespace L2.AL.K11
open PySem PySem.Spec PyProof.Rows L2 L2.AL TL
theorem fn_jar2 {F : List S → Res E} {fx : List S → Res E} {ρ ρ1 : List S} {o o1 o' : O} {x : E} {s s' : S} {y : D} (h0 : ρ[0]? = some (.own o)) (hx : fx ρ = .ok x ρ1) (h1 : ρ1[0]? = some (.own o1)) (hs : (∃ d, x = .d d ∧ s = .d d) ∨ (∃ p, x = .fr p ∧ s = .own p)) (hF : F [.own o1, s] = .ok (.d y) [.own o', s']) :
    aFn F (aCons (aVar 0) (aCons fx aNil)) ρ = .ok (.d y) (ρ1.set 0 (.own o')) := by
  rcases hs with ⟨d, rfl, rfl⟩ | ⟨p, rfl, rfl⟩ <;>
    simp [aFn, aCons, aVar, h0, hx, h1, aNil, appFn, argS, slIx, hF, wb]
theorem append_of {ρ ρ1 : List S} {i : Nat} {xs0 xs : List D} {fx : List S → Res E} {x : D} (h : ρ[i]? = some (.own (.lst xs0))) (hx : fx ρ = .ok (.d x) ρ1) (h1 : ρ1[i]? = some (.own (.lst xs))) (hl : xs.length < sizeLine) :
    aMut "list" i uAppend (aCons fx aNil) ρ = .ok (.d .non) (ρ1.set i (.own (.lst (xs ++ [x])))) := by
  simp [aMut, h, O.tyn, aCons, hx, aNil, keepL, keep1, h1, uAppend, hl]
theorem cons_of {f : List S → Res E} {r : List S → Res (List E)} {ρ ρ1 ρ2 : List S} {v : E} {vs : List E} (h : f ρ = .ok v ρ1) (h' : r ρ1 = .ok vs ρ2) : aCons f r ρ = .ok (v :: vs) ρ2 := by
  unfold aCons; rw [h, Res.bind_ok, h']; rfl
theorem nil_of {ρ : List S} : aNil ρ = .ok [] ρ := rfl
theorem lst_of {fs : List S → Res (List E)} {ρ ρ1 ρ2 : List S} {vs : List E} {xs : List D} (h : fs ρ = .ok vs ρ1) (hk : keepL vs ρ1 = some (xs, ρ2)) (hl : xs.length ≤ 100) : aLst fs ρ = .ok (.fr (.lst xs)) ρ2 := by
  unfold aLst; rw [h, Res.bind_ok, hk]; exact if_pos (small_line (by omega))
theorem tup_of {fs : List S → Res (List E)} {ρ ρ1 ρ2 : List S} {vs : List E} {xs : List D} (h : fs ρ = .ok vs ρ1) (hk : keepL vs ρ1 = some (xs, ρ2)) (hl : xs.length ≤ 100) : aTup fs ρ = .ok (.d (.tup xs)) ρ2 := by
  unfold aTup; rw [h, Res.bind_ok, hk]; exact if_pos (small_line (by omega))
theorem ifx_t {t : List S → Res Bool} {f g : List S → Res E} {ρ ρ1 : List S} (h : t ρ = .ok true ρ1) : aIf t f g ρ = f ρ1 := by unfold aIf; rw [h]; rfl
theorem ifx_f {t : List S → Res Bool} {f g : List S → Res E} {ρ ρ1 : List S} (h : t ρ = .ok false ρ1) : aIf t f g ρ = g ρ1 := by unfold aIf; rw [h]; rfl
theorem begin_eq : (Str.ofString "begin" == Str.ofString "begin") = true := by decide +kernel
theorem events_law {T : Nat} {o : O} {nms : List Str} (h : JarOk T o) (hT : T ≤ 80000) (ne : nms ≠ []) (h5 : nms.length ≤ 5) (hn : ∀ z ∈ nms, nameB z = true) :
    ∃ rs : List (List D), ∃ o', m__law_events [.own o, .own (.lst (nms.map .str))] = .ok (.d (.tup (rs.map .tup))) [.own o', .own (.lst (nms.map .str))] ∧ rs.length ≤ 30 ∧ (∀ r ∈ rs, EvOk r) ∧ JarOk (T + 200) o' := by
  obtain ⟨NM, hNM⟩ : ∃ NM : O, NM = .lst (nms.map .str) := ⟨_, rfl⟩
  obtain ⟨m, o1, e1, m0, m1, ok1⟩ := take_spec (m := 30) h (by omega) (by decide) (by decide)
  have s6 : 6 ≤ sizeLine := small_line (by decide)
  have hit : aRng1 (aCons (aFn m__law_take (aCons (aVar 0) (aCons (aK (.int 30)) aNil))) aNil) [.own o, .own NM, .own (.lst []), .no, .no, .no] = .ok (rangeD 0 m.toNat) [.own o1, .own NM, .own (.lst []), .no, .no, .no] := by
    have q := fn_jar (ρ := [.own o, .own NM, .own (.lst []), .no, .no, .no]) (fx := aK (.int 30)) rfl rfl (.inl ⟨_, rfl, rfl⟩) e1
    unfold aRng1
    rw [aCons, q]
    simp only [Res.bind_ok, aNil]
    rw [if_pos ⟨by omega, by omega⟩, set0]
  obtain ⟨ρ', loop, o2, rs, a, b, c, rfl, hlen, hev, ok2⟩ := sFor_ex (it := aRng1 (aCons (aFn m__law_take (aCons (aVar 0) (aCons (aK (.int 30)) aNil))) aNil)) (t := .nm 3)
    (body := sSeq (sSet1 4 (aFn m__law_of (aCons (aVar 0) (aCons (aLst (aCons (aK (.str "begin")) (aCons (aK (.str "step")) (aCons (aK (.str "stay")) (aCons (aK (.str "leave")) (aCons (aK (.str "come")) (aCons (aK (.str "lapse")) aNil))))))) aNil))))
      (sSeq (sSet1 5 (aFn m__law_of (aCons (aVar 0) (aCons (aLst (aCons (aK (.int 0)) (aCons (aK (.int 1)) (aCons (aK (.int 9)) (aCons (aK (.int 10)) (aCons (aOp2 gPow (aK (.int 10)) (aK (.int 17))) (aCons (aFn m__law_take (aCons (aVar 0) (aCons (aOp2 gPow (aK (.int 10)) (aK (.int 18))) aNil))) aNil))))))) aNil))))
      (sExpr (aMut "list" 2 uAppend (aCons (aTup (aCons (aVar 4) (aCons (aIf (aT (aOp2 gEq (aVar 4) (aK (.str "begin")))) (aFn m__law_of (aCons (aVar 0) (aCons (aVar 1) aNil))) (aVar 5)) aNil))) aNil)))))
    (I := fun i ρ => ∃ (o' : O) (rs : List (List D)) (a b c : S), ρ = [.own o', .own NM, .own (.lst (rs.map .tup)), a, b, c] ∧ rs.length = i ∧ (∀ r ∈ rs, EvOk r) ∧ JarOk (T + 1 + 5 * i) o') hit (by
      rintro i x ρ hx ⟨o2, rs, a, b, c, rfl, hlen, hev, ok2⟩
      obtain ⟨rfl, hi⟩ := rangeD_get hx
      -- the word
      obtain ⟨w, o3, e3, hw, ok3⟩ := of_lst (xs := [.str "begin", .str "step", .str "stay", .str "leave", .str "come", .str "lapse"]) ok2 (by omega) (by simp) (by simp) _ (.inl rfl)
      have l6 : aLst (aCons (aK (.str "begin")) (aCons (aK (.str "step")) (aCons (aK (.str "stay")) (aCons (aK (.str "leave")) (aCons (aK (.str "come")) (aCons (aK (.str "lapse")) aNil)))))) [.own o2, .own NM, .own (.lst (rs.map .tup)), .d (.int (0 + i)), b, c] = .ok (.fr (.lst [.str "begin", .str "step", .str "stay", .str "leave", .str "come", .str "lapse"])) [.own o2, .own NM, .own (.lst (rs.map .tup)), .d (.int (0 + i)), b, c] := by
        simp [aLst, aCons, aK, aNil, keepL, keep1, s6]
      have q1 := fn_jar (o := o2) rfl l6 (.inr ⟨_, rfl, rfl⟩) e3
      -- the number
      obtain ⟨n0, o4, e4, n00, n01, ok4⟩ := take_spec (m := 10 ^ 18) ok3 (by omega) (by decide) (by decide)
      have p18 : aOp2 gPow (aK (.int 10)) (aK (.int 18)) [.own o3, .own NM, .own (.lst (rs.map .tup)), .d (.int (0 + i)), .d w, c] = .ok (.d (.int (10 ^ 18))) [.own o3, .own NM, .own (.lst (rs.map .tup)), .d (.int (0 + i)), .d w, c] := op2_d (x := .int 10) (y := .int 18) rfl rfl (gPow_ok (j := 18) (big64 (by decide)) (by decide))
      have p17 : aOp2 gPow (aK (.int 10)) (aK (.int 17)) [.own o3, .own NM, .own (.lst (rs.map .tup)), .d (.int (0 + i)), .d w, c] = .ok (.d (.int (10 ^ 17))) [.own o3, .own NM, .own (.lst (rs.map .tup)), .d (.int (0 + i)), .d w, c] := op2_d (x := .int 10) (y := .int 17) rfl rfl (gPow_ok (j := 17) (big64 (by decide)) (by decide))
      have q2 := fn_jar (o := o3) rfl p18 (.inl ⟨_, rfl, rfl⟩) e4
      have l7 : aLst (aCons (aK (.int 0)) (aCons (aK (.int 1)) (aCons (aK (.int 9)) (aCons (aK (.int 10)) (aCons (aOp2 gPow (aK (.int 10)) (aK (.int 17))) (aCons (aFn m__law_take (aCons (aVar 0) (aCons (aOp2 gPow (aK (.int 10)) (aK (.int 18))) aNil))) aNil)))))) [.own o3, .own NM, .own (.lst (rs.map .tup)), .d (.int (0 + i)), .d w, c] = .ok (.fr (.lst [.int 0, .int 1, .int 9, .int 10, .int (10 ^ 17), .int n0])) [.own o4, .own NM, .own (.lst (rs.map .tup)), .d (.int (0 + i)), .d w, c] := by
        exact lst_of (cons_of (v := .d (.int 0)) rfl (cons_of (v := .d (.int 1)) rfl (cons_of (v := .d (.int 9)) rfl (cons_of (v := .d (.int 10)) rfl (cons_of p17 (cons_of q2 nil_of)))))) rfl (by simp)
      obtain ⟨num, o5, e5, hnum, ok5⟩ := of_lst (xs := [.int 0, .int 1, .int 9, .int 10, .int (10 ^ 17), .int n0]) ok4 (by omega) (by simp) (by simp) _ (.inl rfl)
      obtain ⟨k, rfl, k0, k1⟩ : ∃ k : Int, num = .int k ∧ 0 ≤ k ∧ k < 10 ^ 18 := by
        simp only [List.mem_cons, List.not_mem_nil, or_false] at hnum
        rcases hnum with rfl | rfl | rfl | rfl | rfl | rfl
        · exact ⟨_, rfl, by decide, by decide⟩
        · exact ⟨_, rfl, by decide, by decide⟩
        · exact ⟨_, rfl, by decide, by decide⟩
        · exact ⟨_, rfl, by decide, by decide⟩
        · exact ⟨_, rfl, by decide, by decide⟩
        · exact ⟨_, rfl, n00, n01⟩
      have q3 := fn_jar2 (F := m__law_of) (o := o3) rfl l7 rfl (.inr ⟨_, rfl, rfl⟩) e5
      -- the pair
      obtain ⟨r, o6, e6, hr, ok6⟩ : ∃ (r : List D) (o6 : O), aTup (aCons (aVar 4) (aCons (aIf (aT (aOp2 gEq (aVar 4) (aK (.str "begin")))) (aFn m__law_of (aCons (aVar 0) (aCons (aVar 1) aNil))) (aVar 5)) aNil)) [.own o5, .own NM, .own (.lst (rs.map .tup)), .d (.int (0 + i)), .d w, .d (.int k)] = .ok (.d (.tup r)) [.own o6, .own NM, .own (.lst (rs.map .tup)), .d (.int (0 + i)), .d w, .d (.int k)] ∧ EvOk r ∧ JarOk (T + 1 + 5 * i + 4) o6 := by
        have s2 : 2 ≤ sizeLine := small_line (by decide)
        by_cases hb : w = .str "begin"
        · subst hb
          obtain ⟨nmD, o6, e6, hnm, ok6⟩ := of_lst (xs := nms.map .str) ok5 (by omega) (by simpa using ne) (by rw [List.length_map]; omega) _ (.inl rfl)
          obtain ⟨nm, hnm2, rfl⟩ := List.mem_map.mp hnm
          rw [← hNM] at e6
          have q := fn_jar_sl (ρ := [.own o5, .own NM, .own (.lst (rs.map .tup)), .d (.int (0 + i)), .d (.str "begin"), .d (.int k)]) (i := 1) (by decide) rfl rfl e6
          refine ⟨[.str "begin", .str nm], o6, ?_, .inl ⟨nm, rfl, hn nm hnm2⟩, ok6.mono (by omega)⟩
          have t : aT (aOp2 gEq (aVar 4) (aK (.str "begin"))) [.own o5, .own NM, .own (.lst (rs.map .tup)), .d (.int (0 + i)), .d (.str "begin"), .d (.int k)] = .ok true [.own o5, .own NM, .own (.lst (rs.map .tup)), .d (.int (0 + i)), .d (.str "begin"), .d (.int k)] := aT_of (op2_d (x := .str "begin") (y := .str "begin") rfl rfl (by simp [gEq, D.eq?]))
          exact tup_of (cons_of (v := .d (.str "begin")) (var_d rfl) (cons_of ((ifx_t t).trans q) nil_of)) rfl (by simp)
        · obtain ⟨z, rfl, hz⟩ : ∃ z, w = .str z ∧ (z = Str.ofString "step" ∨ z = Str.ofString "stay" ∨ z = Str.ofString "leave" ∨ z = Str.ofString "come" ∨ z = Str.ofString "lapse") := by
            simp only [List.mem_cons, List.not_mem_nil, or_false] at hw
            rcases hw with rfl | rfl | rfl | rfl | rfl | rfl
            · exact absurd rfl hb
            · exact ⟨_, rfl, .inl rfl⟩
            · exact ⟨_, rfl, .inr (.inl rfl)⟩
            · exact ⟨_, rfl, .inr (.inr (.inl rfl))⟩
            · exact ⟨_, rfl, .inr (.inr (.inr (.inl rfl)))⟩
            · exact ⟨_, rfl, .inr (.inr (.inr (.inr rfl)))⟩
          have zb : (z == Str.ofString "begin") = false := by
            rcases hz with rfl | rfl | rfl | rfl | rfl <;> decide +kernel
          refine ⟨[.str z, .int k], o5, ?_, .inr ⟨z, k, rfl, hz, k0, k1⟩, ok5.mono (by omega)⟩
          have t : aT (aOp2 gEq (aVar 4) (aK (.str "begin"))) [.own o5, .own NM, .own (.lst (rs.map .tup)), .d (.int (0 + i)), .d (.str z), .d (.int k)] = .ok false [.own o5, .own NM, .own (.lst (rs.map .tup)), .d (.int (0 + i)), .d (.str z), .d (.int k)] := aT_of (op2_d (x := .str z) (y := .str "begin") rfl rfl (by simp [gEq, D.eq?, zb]))
          exact tup_of (cons_of (v := .d (.str z)) (var_d rfl) (cons_of (v := .d (.int k)) ((ifx_f t).trans rfl) nil_of)) rfl (by simp)
      refine ⟨[.own o2, .own NM, .own (.lst (rs.map .tup)), .d (.int (0 + i)), b, c], [.own o6, .own NM, .own (.lst ((rs ++ [r]).map .tup)), .d (.int (0 + i)), .d w, .d (.int k)], rfl, ?_, o6, rs ++ [r], _, _, _, rfl, by simp [hlen], ?_, ok6.mono (by omega)⟩
      · rw [seq_nx (ρ1 := [.own o3, .own NM, .own (.lst (rs.map .tup)), .d (.int (0 + i)), .d w, c]) (set_d q1 (by simp)), seq_nx (ρ1 := [.own o5, .own NM, .own (.lst (rs.map .tup)), .d (.int (0 + i)), .d w, .d (.int k)]) (set_d q3 (by simp))]
        refine expr_of (v := .d .non) ?_
        rw [append_of (ρ1 := [.own o6, .own NM, .own (.lst (rs.map .tup)), .d (.int (0 + i)), .d w, .d (.int k)]) rfl e6 rfl (by rw [List.length_map]; exact Nat.lt_of_lt_of_le (show rs.length < 100 by omega) (small_line (by decide)))]
        simp
      · intro z hz
        rcases List.mem_append.mp hz with hz | hz
        · exact hev z hz
        · rw [List.mem_singleton.mp hz]; exact hr) ⟨o1, [], _, _, _, rfl, rfl, by simp, ok1⟩
  rw [rangeD_len] at hlen ok2
  refine ⟨rs, o2, ?_, by omega, hev, ok2.mono (by omega)⟩
  rw [← hNM]
  refine (run_rt (ρ1 := [.own o2, .own NM, .own (.lst (rs.map .tup)), a, b, c]) rfl ?_).trans rfl
  unfold b__law_events
  rw [seq_nx (ρ1 := [.own o, .own NM, .own (.lst []), .no, .no, .no]) (by simp [runF, outF, sSeq, sIf, sRet, sRetN, sSet1, sSet, sTg, sExpr, sNx, aVar, aK, aCons, aNil, aOp2, app2, aCall, valL, E.val, aT, aNotT, aAndT, aOrT, aAndV, aOrV, aNotV, aIf, aChain, aTup, aLst, keepL, keep1, freeze, toSL, toS, setL, aFn, appFn, argS, slIx, wb, aIter, D.items?, aMeth, D.tyn, aSlice, aPart, aPartN, gIsi, D.isi, gIs, gIsn, D.is?, D.seq?, aStar, O.toD, eBl, eInt, eStr, tset, tsetL, wipeS, backS, nOwn, D.imm]), seq_nx loop]
  refine ret_of ?_
  simp [runF, outF, sSeq, sIf, sRet, sRetN, sSet1, sSet, sTg, sExpr, sNx, aVar, aK, aCons, aNil, aOp2, app2, aCall, valL, E.val, aT, aNotT, aAndT, aOrT, aAndV, aOrV, aNotV, aIf, aChain, aTup, aLst, keepL, keep1, freeze, toSL, toS, setL, aFn, appFn, argS, slIx, wb, aIter, D.items?, aMeth, D.tyn, aSlice, aPart, aPartN, gIsi, D.isi, gIs, gIsn, D.is?, D.seq?, aStar, O.toD, eBl, eInt, eStr, tset, tsetL, wipeS, backS, nOwn, D.imm, gTuple]
end L2.AL.K11
namespace L2.AL.K11
open PySem PySem.Spec PyProof.Rows L2 L2.AL TL
def ansD : List (Key × D) := kmerge [] [(.inr "put", .lst [.str "done", .str "refused", .str "again"]), (.inr "drop", .lst [.str "done", .str "none", .str "again"]), (.inr "look", .lst [.str "there", .str "none", .str "again"])]
theorem ans_of {s : Str} (h : SortOk s) : ∃ zs : List Str, gIx (.dct ansD) (.str s) = some (.d (.lst (zs.map .str))) ∧ zs ≠ [] ∧ zs.length ≤ 3 ∧ ∀ z ∈ zs, AnsOk s z ∧ nameB z = true := by
  rcases h with rfl | rfl | rfl
  · refine ⟨["done", "refused", "again"], rfl, by simp, by simp, fun z hz => ?_⟩
    simp at hz
    rcases hz with rfl | rfl | rfl <;> exact ⟨⟨_, rfl, rfl⟩, by decide +kernel⟩
  · refine ⟨["done", "none", "again"], rfl, by simp, by simp, fun z hz => ?_⟩
    simp at hz
    rcases hz with rfl | rfl | rfl <;> exact ⟨⟨_, rfl, rfl⟩, by decide +kernel⟩
  · refine ⟨["there", "none", "again"], rfl, by simp, by simp, fun z hz => ?_⟩
    simp at hz
    rcases hz with rfl | rfl | rfl <;> exact ⟨⟨_, rfl, rfl⟩, by decide +kernel⟩
theorem answer_law {T : Nat} {o : O} {s : Str} (h : JarOk T o) (hT : T ≤ 90000) (hs : SortOk s) :
    ∃ z o', m__law_answer [.own o, .d (.str s)] = .ok (.d (.str z)) [.own o', .d (.str s)] ∧ AnsOk s z ∧ nameB z = true ∧ JarOk (T + 1) o' := by
  obtain ⟨zs, hi, ne, hl, hz⟩ := ans_of hs
  obtain ⟨x, o', e, hx, ok⟩ := of_lst (xs := zs.map .str) h (by omega) (by simpa using ne) (by rw [List.length_map]; omega) _ (.inr rfl)
  obtain ⟨z, hzz, rfl⟩ := List.mem_map.mp hx
  refine ⟨z, o', ?_, (hz z hzz).1, (hz z hzz).2, ok⟩
  have s3 : 3 ≤ sizeLine := small_line (by decide)
  refine (run_rt (ρ1 := [.own o', .d (.str s), .own (.dct ansD)]) rfl ?_).trans rfl
  unfold b__law_answer
  rw [seq_nx (ρ1 := [.own o, .d (.str s), .own (.dct ansD)])]
  · refine ret_of ?_
    have q : aOp2 gIx (aVar 2) (aVar 1) [.own o, .d (.str s), .own (.dct ansD)] = .ok (.d (.lst (zs.map .str))) [.own o, .d (.str s), .own (.dct ansD)] := by
      simp only [aOp2, aVar, List.getElem?_cons_succ, List.getElem?_cons_zero, Res.bind_ok, app2, E.val, O.toD, hi]
    exact fn_jar (F := m__law_of) (o := o) rfl q (.inl ⟨_, rfl, rfl⟩) e
  · refine (set_o (o := .dct ansD) (ρ1 := [.own o, .d (.str s), .no]) ?_ (by simp)).trans rfl
    simp [aDict, aPairs, aLst, aCons, aK, aNil, keepL, keep1, s3, O.toD]
    rfl
/-! the book as it grows -/
structure Book (nms : List Str) (rs : List (List D)) (lf : List Nat) (now : Int) (kv : List (Key × D)) : Prop where
  few : rs.length ≤ 24
  row : ∀ r ∈ rs, RecR r
  begins : (rs.map beg).Pairwise (· < ·)
  times : (rs.map beg ++ (rs.filter hasE).map fin).Nodup
  upto : ∀ t ∈ rs.map beg ++ (rs.filter hasE).map fin, t ≤ now
  keys : ∀ k, (rs.map key).countP (fun z => z == k) ≤ 8
  many : ∀ k, (kget kv (.inr k)).getD (.int 0) = .int ((rs.map key).countP (fun z => z == k) : Nat)
  manyL : kv.length ≤ rs.length
  nodup : lf.Nodup
  left : ∀ j ∈ lf, ∃ r, rs[j]? = some r ∧ hasE r = false
  pos : 0 ≤ now
  leftL : lf.length ≤ rs.length
theorem open_row {r : List D} (h : RecR r) (he : hasE r = false) : ∃ b k s, r = [.int b, .non, .str k, .str s, .non] ∧ 1 ≤ b ∧ b < 10 ^ 18 ∧ nameB k = true ∧ SortOk s := by
  obtain ⟨b, e, k, s, a, rfl, h1, h2, h3, h4, h5⟩ := h.form
  rcases h5 with ⟨rfl, rfl⟩ | ⟨t, z, rfl, _⟩
  · exact ⟨b, k, s, rfl, h1, h2, h3, h4⟩
  · simp [hasE] at he
theorem filter_set {r r' : List D} (h : hasE r = false) (h' : hasE r' = true) : ∀ {rs : List (List D)} {j : Nat}, rs[j]? = some r → (((rs.set j r').filter hasE).map fin).Perm (fin r' :: (rs.filter hasE).map fin)
  | [], j, e => by simp at e
  | x :: rs, 0, e => by
    simp at e; subst e
    simp [List.filter_cons, h, h']
  | x :: rs, j + 1, e => by
    have ih := filter_set h h' (rs := rs) (j := j) (by simpa using e)
    rw [List.set_cons_succ, List.filter_cons, List.filter_cons]
    cases hx : hasE x with
    | true =>
      simp only [if_true, List.map_cons]
      exact (List.Perm.cons _ ih).trans (List.Perm.swap _ _ _)
    | false =>
      simp only [Bool.false_eq_true, if_false]
      exact ih
theorem map_set_same {α β : Type} (f : α → β) {l : List α} {j : Nat} {r r' : α} (e : l[j]? = some r) (h : f r' = f r) : (l.set j r').map f = l.map f := by
  rw [List.map_set, h]
  refine List.ext_getElem? fun i => ?_
  by_cases hi : j = i
  · subst hi
    have hl : j < (l.map f).length := by rw [List.length_map]; exact (List.getElem?_eq_some_iff.mp e).1
    rw [List.getElem?_set_self hl, List.getElem?_map, e]; rfl
  · rw [List.getElem?_set_ne hi]
theorem kget_map {k j : Key} {d : D} : ∀ ds : List (Key × D), kget (ds.map fun kv => if kv.1 = k then (kv.1, d) else kv) j = if j = k then (kget ds j).map (fun _ => d) else kget ds j
  | [] => by simp [kget]
  | p :: ds => by
    have ih := kget_map (k := k) (j := j) (d := d) ds
    unfold kget at ih ⊢
    rw [List.map_cons, List.find?_cons, List.find?_cons]
    by_cases hp : p.1 = k
    · rw [if_pos hp]
      by_cases hj : p.1 = j
      · have : j = k := hj.symm.trans hp
        simp [hj, this]
      · simp only [hj, decide_false]
        exact ih
    · rw [if_neg hp]
      by_cases hj : p.1 = j
      · have : ¬ j = k := fun e => hp (hj.trans e)
        simp [hj, this]
      · simp only [hj, decide_false]
        exact ih
theorem kget_none_of {k : Key} : ∀ {ds : List (Key × D)}, (ds.any fun kv => decide (kv.1 = k)) = false → kget ds k = none
  | [], _ => rfl
  | p :: ds, h => by
    rw [List.any_cons, Bool.or_eq_false_iff] at h
    have ih := kget_none_of h.2
    unfold kget at ih ⊢
    rw [List.find?_cons, h.1]
    exact ih
theorem kget_some_of {k : Key} : ∀ {ds : List (Key × D)}, (ds.any fun kv => decide (kv.1 = k)) = true → ∃ x, kget ds k = some x
  | [], h => by simp at h
  | p :: ds, h => by
    unfold kget
    rw [List.find?_cons]
    cases hp : decide (p.1 = k) with
    | true => exact ⟨p.2, rfl⟩
    | false =>
      rw [List.any_cons, hp, Bool.false_or] at h
      exact kget_some_of h
theorem kget_put (ds : List (Key × D)) (k j : Key) (d : D) : kget (kput ds k d) j = if j = k then some d else kget ds j := by
  unfold kput
  cases h : (ds.any fun kv => decide (kv.1 = k)) with
  | true =>
    rw [if_pos rfl, kget_map]
    by_cases hj : j = k
    · rw [if_pos hj, if_pos hj, hj]
      obtain ⟨x, e⟩ := kget_some_of h
      rw [e]; rfl
    · rw [if_neg hj, if_neg hj]
  | false =>
    rw [if_neg (by simp)]
    unfold kget
    rw [List.find?_append]
    by_cases hj : j = k
    · have := kget_none_of h
      unfold kget at this
      rw [Option.map_eq_none_iff] at this
      rw [if_pos hj, hj, this]
      simp
    · rw [if_neg hj]
      have : ¬ k = j := fun e => hj e.symm
      simp [this]
theorem kput_len (ds : List (Key × D)) (k : Key) (d : D) : (kput ds k d).length ≤ ds.length + 1 := by
  unfold kput
  split <;> simp
/-- a new deed -/
theorem Book.begin {nms : List Str} {rs : List (List D)} {lf : List Nat} {now now' : Int} {kv : List (Key × D)} {k s : Str} (B : Book nms rs lf now kv) (lt : now < now') (up : now' < 10 ^ 18) (hk : k ∈ nms) (hn : nameB k = true) (hs : SortOk s) (few : rs.length < 24) (hc : (rs.map key).countP (fun z => z == k) < 8) :
    Book nms (rs ++ [[.int now', .non, .str k, .str s, .non]]) (lf ++ [rs.length]) now' (kput kv (.inr k) (.int ((rs.map key).countP (fun z => z == k) + 1 : Nat))) := by
  have ef : (rs ++ [[D.int now', .non, .str k, .str s, .non]]).filter hasE = rs.filter hasE := by
    rw [List.filter_append]; simp [hasE]
  have eb : (rs ++ [[D.int now', .non, .str k, .str s, .non]]).map beg = rs.map beg ++ [now'] := by rw [List.map_append]; rfl
  have ek : (rs ++ [[D.int now', .non, .str k, .str s, .non]]).map key = rs.map key ++ [k] := by rw [List.map_append]; rfl
  have pt : ((rs.map beg ++ [now']) ++ (rs.filter hasE).map fin).Perm (now' :: (rs.map beg ++ (rs.filter hasE).map fin)) := by
    rw [List.append_assoc]
    exact List.perm_middle
  have pos := B.pos
  refine ⟨by simp; omega, fun r hr => ?_, ?_, ?_, fun t ht => ?_, fun k' => ?_, fun k' => ?_, ?_, ?_, fun j hj => ?_, by omega, by have := B.leftL; simp; omega⟩
  · rcases List.mem_append.mp hr with h | h
    · exact B.row r h
    · rw [List.mem_singleton.mp h]
      exact ⟨now', _, k, s, _, rfl, by omega, up, hn, hs, .inl ⟨rfl, rfl⟩⟩
  · rw [eb]
    refine List.pairwise_append.mpr ⟨B.begins, List.pairwise_singleton _ _, fun a ha c hc => ?_⟩
    rw [List.mem_singleton.mp hc]
    have := B.upto a (List.mem_append_left _ ha)
    omega
  · rw [eb, ef]
    refine pt.nodup_iff.mpr (List.nodup_cons.mpr ⟨fun hm => ?_, B.times⟩)
    have := B.upto _ hm
    omega
  · rw [eb, ef] at ht
    rcases List.mem_cons.mp (pt.mem_iff.mp ht) with rfl | ht
    · exact Int.le_refl _
    · have := B.upto t ht
      omega
  · rw [ek, List.countP_append]
    have := B.keys k'
    by_cases hk' : k = k'
    · subst hk'
      simp at *
      omega
    · have : ([k].countP fun z => z == k') = 0 := by simp [hk']
      omega
  · rw [kget_put, ek, List.countP_append]
    by_cases hk' : k = k'
    · subst hk'
      rw [if_pos rfl]
      simp
    · have h0 : ([k].countP fun z => z == k') = 0 := by simp [hk']
      rw [if_neg (fun e => hk' (Sum.inr.inj e).symm), h0, Nat.add_zero]
      exact B.many k'
  · have := kput_len kv (.inr k) (.int ((rs.map key).countP (fun z => z == k) + 1 : Nat))
    have := B.manyL
    rw [List.length_append, List.length_singleton]
    omega
  · refine List.nodup_append.mpr ⟨B.nodup, by simp, fun a ha c hc => ?_⟩
    rw [List.mem_singleton.mp hc]
    obtain ⟨r, e, _⟩ := B.left a ha
    have := (List.getElem?_eq_some_iff.mp e).1
    omega
  · rcases List.mem_append.mp hj with h | h
    · obtain ⟨r, e, e2⟩ := B.left j h
      exact ⟨r, by rw [List.getElem?_append_left (List.getElem?_eq_some_iff.mp e).1]; exact e, e2⟩
    · rw [List.mem_singleton.mp h]
      exact ⟨[D.int now', .non, .str k, .str s, .non], by simp, rfl⟩
/-- a deed ends -/
theorem Book.close {nms : List Str} {rs : List (List D)} {lf : List Nat} {now now' : Int} {kv : List (Key × D)} {b : Int} {k s z : Str} {i j : Nat} (B : Book nms rs lf now kv) (lt : now < now') (up : now' < 10 ^ 18) (hi : lf[i]? = some j) (hj : rs[j]? = some [.int b, .non, .str k, .str s, .non]) (ha : AnsOk s z) (hz : nameB z = true) :
    Book nms (rs.set j [.int b, .int now', .str k, .str s, .str z]) (lf.eraseIdx i) now' kv := by
  have hr := B.row _ (List.mem_of_getElem? hj)
  obtain ⟨b', e', k', s', a', eq, r1, r2, r3, r4, _⟩ := hr.form
  cases eq
  have ub : b ≤ now := B.upto b (List.mem_append_left _ (List.mem_map.mpr ⟨_, List.mem_of_getElem? hj, rfl⟩))
  have eb := map_set_same beg (r' := [.int b, .int now', .str k, .str s, .str z]) hj rfl
  have ek := map_set_same key (r' := [.int b, .int now', .str k, .str s, .str z]) hj rfl
  have pf := filter_set (r' := [.int b, .int now', .str k, .str s, .str z]) rfl rfl hj
  have pt : ((rs.set j [.int b, .int now', .str k, .str s, .str z]).map beg ++ ((rs.set j [.int b, .int now', .str k, .str s, .str z]).filter hasE).map fin).Perm (now' :: (rs.map beg ++ (rs.filter hasE).map fin)) := by
    rw [eb]
    exact (List.Perm.append_left _ pf).trans List.perm_middle
  refine ⟨by rw [List.length_set]; exact B.few, fun r hr' => ?_, by rw [eb]; exact B.begins, ?_, fun t ht => ?_, by rw [ek]; exact B.keys, by rw [ek]; exact B.many, by rw [List.length_set]; exact B.manyL, B.nodup.sublist (List.eraseIdx_sublist _ _), fun l hl => ?_, by have := B.pos; omega, by have := B.leftL; have := len_erase lf i; rw [List.length_set]; omega⟩
  · rcases List.mem_or_eq_of_mem_set hr' with h | h
    · exact B.row r h
    · subst h
      exact ⟨b, _, k, s, _, rfl, r1, r2, r3, r4, .inr ⟨now', z, rfl, rfl, by omega, up, ha, hz⟩⟩
  · refine pt.nodup_iff.mpr (List.nodup_cons.mpr ⟨fun hm => ?_, B.times⟩)
    have := B.upto _ hm
    omega
  · have ht := pt.mem_iff.mp ht
    rcases List.mem_cons.mp ht with rfl | ht
    · exact Int.le_refl _
    · have := B.upto t ht
      omega
  · have hne : l ≠ j := fun e => by
      subst e
      rw [List.mem_eraseIdx_iff_getElem?] at hl
      obtain ⟨m, hm, hm2⟩ := hl
      have := (List.getElem?_inj ((List.getElem?_eq_some_iff.mp hi).1) B.nodup).mp (hi.trans hm2.symm)
      exact hm this.symm
    have hl' := List.mem_of_mem_eraseIdx hl
    obtain ⟨r, h1, h2⟩ := B.left l hl'
    exact ⟨r, by rw [List.getElem?_set_ne (Ne.symm hne)]; exact h1, h2⟩
end L2.AL.K11
namespace L2.AL.K11
open PySem PySem.Spec PyProof.Rows L2 L2.AL TL
theorem op2_s {g : D → D → Option E} {fa fb : List S → Res E} {ρ ρ1 ρ2 : List S} {x y : D} {v : E} (ha : fa ρ = .ok (.d x) ρ1) (hb : fb ρ1 = .ok (.d y) ρ2) (h : g x y = some v) : aOp2 g fa fb ρ = .ok v ρ2 := by
  simp [aOp2, ha, hb, app2, E.val, h]
theorem and_f {t u : List S → Res Bool} {ρ ρ1 : List S} (h : t ρ = .ok false ρ1) : aAndT t u ρ = .ok false ρ1 := by unfold aAndT; rw [h]; rfl
theorem and_t {t u : List S → Res Bool} {ρ ρ1 : List S} (h : t ρ = .ok true ρ1) : aAndT t u ρ = u ρ1 := by unfold aAndT; rw [h]; rfl
theorem popat_of {ρ ρ1 : List S} {i : Nat} {xs0 xs : List D} {fx : List S → Res E} {r : Int} {x : D} (h : ρ[i]? = some (.own (.lst xs0))) (hx : fx ρ = .ok (.d (.int r)) ρ1) (h1 : ρ1[i]? = some (.own (.lst xs))) (r0 : 0 ≤ r) (r1 : r < xs.length) (hl : xs.length ≤ 1000) (e : xs[r.toNat]? = some x) :
    aMut "list" i uPopAt (aCons fx aNil) ρ = .ok (.d x) (ρ1.set i (.own (.lst (xs.eraseIdx r.toNat)))) := by
  have hb : -(2 ^ 63) ≤ r ∧ r < 2 ^ 63 := ⟨by omega, by omega⟩
  have hs : seqIndex? r xs.length = some r.toNat := by
    simp [seqIndex?, show ¬ r < 0 by omega, r0, r1]
  have hu : uPopAt (.lst xs) [.int r] = some (x, .lst (xs.eraseIdx r.toNat)) := by
    simp only [uPopAt]
    rw [if_pos hb, hs]
    simp [e]
  simp [aMut, h, O.tyn, aCons, hx, aNil, keepL, keep1, h1, hu]
theorem erase_map {α β : Type} (f : α → β) : ∀ (l : List α) (i : Nat), (l.map f).eraseIdx i = (l.eraseIdx i).map f
  | [], _ => rfl
  | _ :: _, 0 => rfl
  | a :: l, i + 1 => by simp [erase_map f l i]
theorem ne_nil {lf : List Nat} : gNe (.lst (lf.map fun (j : Nat) => .int (j : Int))) (.lst []) = some (eBl (!lf.isEmpty)) := by
  have q := ints_py (fun j : Nat => (j : Int)) lf
  have c := layAll (fun j : Nat => PyData.int (j : Int)) 0 lf fun _ _ => ⟨rfl, Nat.le_refl _⟩
  have c1 : (PyData.list (lf.map fun (j : Nat) => .int (j : Int))).canLay0 = true := by simp only [PyData.canLay0]; exact c.1
  have sh : SeqAt.shaped (PyData.list (lf.map fun (j : Nat) => .int (j : Int))) = true := by
    unfold SeqAt.shaped
    rw [c1, Bool.true_and]
    refine decide_eq_true ?_
    simp only [PyData.depth]; omega
  have sh0 : SeqAt.shaped (PyData.list []) = true := by decide +kernel
  unfold gNe D.eq?
  have e0 : (D.lst []).py = some (.list []) := rfl
  simp only [q, e0, sh, sh0, and_self, if_true, Option.map_some]
  cases lf with
  | nil => rfl
  | cons a r => rfl
abbrev lfD (lf : List Nat) : List D := lf.map fun (j : Nat) => .int (j : Int)
section
variable {nms : List Str} {NM : O}
/-- the names of the def while the book grows -/
abbrev bk (NM : O) (o : O) (rs : List (List D)) (lf : List Nat) (now : Int) (kv : List (Key × D)) (a b c d e f g : S) : List S :=
  [.own o, .own NM, .own (.lst (rs.map .tup)), .own (.lst (lfD lf)), .d (.int now), .own (.dct kv), a, b, c, d, e, f, g]
theorem get_of {o : O} {rs : List (List D)} {lf : List Nat} {now : Int} {kv : List (Key × D)} {k : Str} {a c d e f g : S} (B : Book nms rs lf now kv) {now' : Int} :
    aMeth "dict" gGet (aVar 5) (aCons (aVar 7) (aCons (aK (.int 0)) aNil)) (bk NM o rs lf now' kv a (.d (.str k)) c d e f g) = .ok (.d (.int ((rs.map key).countP (fun z => z == k) : Nat))) (bk NM o rs lf now' kv a (.d (.str k)) c d e f g) := by
  have h := B.many k
  have hg : gGet (.dct kv) [.str k, .int 0] = some (.d (.int ((rs.map key).countP (fun z => z == k) : Nat))) := by
    simp only [gGet, D.imm, if_true, D.key?, Option.map_some, h]
  simp [aMeth, bk, aVar, E.val, O.toD, D.tyn, aCons, aK, aNil, valL, hg]
/-- a deed begins -/
theorem turn_begin {T : Nat} {o : O} {rs : List (List D)} {lf : List Nat} {now now' : Int} {kv : List (Key × D)} {k : Str} {a c d e f g : S} (hT : T ≤ 90000) (ok : JarOk T o) (B : Book nms rs lf now kv) (lt : now < now') (up : now' < 10 ^ 18) (hk : k ∈ nms) (hn : nameB k = true) (few : rs.length < 24) (hc : (rs.map key).countP (fun z => z == k) < 8) :
    ∃ o' rs' lf' kv', (sSeq (sPut 5 (aVar 7) (aOp2 gAdd (aMeth "dict" gGet (aVar 5) (aCons (aVar 7) (aCons (aK (.int 0)) aNil))) (aK (.int 1))))
      (sSeq (sExpr (aMut "list" 3 uAppend (aCons (aCall gLen (aCons (aVar 2) aNil)) aNil)))
      (sExpr (aMut "list" 2 uAppend (aCons (aTup (aCons (aVar 4) (aCons (aK .non) (aCons (aVar 7) (aCons (aFn m__law_of (aCons (aVar 0) (aCons (aLst (aCons (aK (.str "put")) (aCons (aK (.str "drop")) (aCons (aK (.str "look")) aNil)))) aNil))) (aCons (aK .non) aNil)))))) aNil))))) (bk NM o rs lf now' kv a (.d (.str k)) c d e f g) = .ok .nx (bk NM o' rs' lf' now' kv' a (.d (.str k)) c d e f g) ∧ Book nms rs' lf' now' kv' ∧ JarOk (T + 1) o' := by
  obtain ⟨s, o', es, hs0, ok'⟩ := of_lst (xs := [.str "put", .str "drop", .str "look"]) ok (by omega) (by simp) (by simp) _ (.inl rfl)
  obtain ⟨st, rfl, hs⟩ : ∃ st, s = .str st ∧ SortOk st := by
    simp only [List.mem_cons, List.not_mem_nil, or_false] at hs0
    rcases hs0 with rfl | rfl | rfl
    · exact ⟨_, rfl, .inl rfl⟩
    · exact ⟨_, rfl, .inr (.inl rfl)⟩
    · exact ⟨_, rfl, .inr (.inr rfl)⟩
  refine ⟨o', _, _, _, ?_, B.begin lt up hk hn hs few hc, ok'⟩
  have hsz : kv.length < sizeLine := Nat.lt_of_le_of_lt B.manyL (Nat.lt_of_lt_of_le few (small_line (by decide)))
  have hlf : lf.length ≤ 24 := by have := B.leftL; omega
  rw [seq_nx (ρ1 := bk NM o rs lf now' (kput kv (.inr k) (.int ((rs.map key).countP (fun z => z == k) + 1 : Nat))) a (.d (.str k)) c d e f g)]
  · rw [seq_nx (ρ1 := bk NM o rs (lf ++ [rs.length]) now' (kput kv (.inr k) (.int ((rs.map key).countP (fun z => z == k) + 1 : Nat))) a (.d (.str k)) c d e f g)]
    · refine expr_of (v := .d .non) ?_
      have l3 : aLst (aCons (aK (.str "put")) (aCons (aK (.str "drop")) (aCons (aK (.str "look")) aNil))) (bk NM o rs (lf ++ [rs.length]) now' (kput kv (.inr k) (.int ((rs.map key).countP (fun z => z == k) + 1 : Nat))) a (.d (.str k)) c d e f g) = .ok (.fr (.lst [.str "put", .str "drop", .str "look"])) (bk NM o rs (lf ++ [rs.length]) now' (kput kv (.inr k) (.int ((rs.map key).countP (fun z => z == k) + 1 : Nat))) a (.d (.str k)) c d e f g) := lst_of (cons_of (v := .d (.str "put")) rfl (cons_of (v := .d (.str "drop")) rfl (cons_of (v := .d (.str "look")) rfl nil_of))) rfl (by simp)
      have q := fn_jar (F := m__law_of) (o := o) rfl l3 (.inr ⟨_, rfl, rfl⟩) es
      have t : aTup (aCons (aVar 4) (aCons (aK .non) (aCons (aVar 7) (aCons (aFn m__law_of (aCons (aVar 0) (aCons (aLst (aCons (aK (.str "put")) (aCons (aK (.str "drop")) (aCons (aK (.str "look")) aNil)))) aNil))) (aCons (aK .non) aNil))))) (bk NM o rs (lf ++ [rs.length]) now' (kput kv (.inr k) (.int ((rs.map key).countP (fun z => z == k) + 1 : Nat))) a (.d (.str k)) c d e f g) = .ok (.d (.tup [.int now', .non, .str k, .str st, .non])) (bk NM o' rs (lf ++ [rs.length]) now' (kput kv (.inr k) (.int ((rs.map key).countP (fun z => z == k) + 1 : Nat))) a (.d (.str k)) c d e f g) :=
        tup_of (cons_of (v := .d (.int now')) rfl (cons_of (v := .d .non) rfl (cons_of (v := .d (.str k)) rfl (cons_of q (cons_of (v := .d .non) rfl nil_of))))) rfl (by simp)
      rw [append_of rfl t rfl (by rw [List.length_map]; exact Nat.lt_of_lt_of_le few (small_line (by decide)))]
      simp [bk]
    · refine expr_of (v := .d .non) ?_
      have hlen : aCall gLen (aCons (aVar 2) aNil) (bk NM o rs lf now' (kput kv (.inr k) (.int ((rs.map key).countP (fun z => z == k) + 1 : Nat))) a (.d (.str k)) c d e f g) = .ok (.d (.int rs.length)) (bk NM o rs lf now' (kput kv (.inr k) (.int ((rs.map key).countP (fun z => z == k) + 1 : Nat))) a (.d (.str k)) c d e f g) := by
        simp [aCall, aCons, aVar, aNil, valL, E.val, O.toD, gLen, eInt, bk]
      rw [append_of rfl hlen rfl (by rw [List.length_map]; exact Nat.lt_of_le_of_lt hlf (Nat.lt_of_lt_of_le (show 24 < 25 by decide) (small_line (by decide))))]
      simp [bk]
  · have hg := get_of (NM := NM) (o := o) (a := a) (c := c) (d := d) (e := e) (f := f) (g := g) (k := k) (now' := now') B
    have hv := op2_d (g := gAdd) (v := .d (.int ((rs.map key).countP (fun z => z == k) + 1 : Nat))) (fb := aK (.int 1)) (y := .int 1) hg rfl rfl
    unfold sPut
    rw [hv]
    simp [bk, aVar, keep1, E.val, putO, hsz, D.key?]
/-- a deed ends -/
theorem turn_close {T : Nat} {o : O} {rs : List (List D)} {lf : List Nat} {now now' : Int} {kv : List (Key × D)} {a b c d e f g : S} (hT : T ≤ 80000) (ok : JarOk T o) (B : Book nms rs lf now kv) (lt : now < now') (up : now' < 10 ^ 18) (ne : lf ≠ []) :
    ∃ o' rs' lf' b' c' d' e' f' g', (sSeq (sSet1 8 (aMut "list" 3 uPopAt (aCons (aFn m__law_take (aCons (aVar 0) (aCons (aCall gLen (aCons (aVar 3) aNil)) aNil))) aNil)))
      (sSeq (sTg (.tp [(.nm 9), (.nm 10), (.nm 7), (.nm 11), (.nm 12)]) (aOp2 gIx (aVar 2) (aVar 8)))
      (sPut 2 (aVar 8) (aTup (aCons (aVar 9) (aCons (aVar 4) (aCons (aVar 7) (aCons (aVar 11) (aCons (aFn m__law_answer (aCons (aVar 0) (aCons (aVar 11) aNil))) aNil))))))))) (bk NM o rs lf now' kv a b c d e f g) = .ok .nx (bk NM o' rs' lf' now' kv a b' c' d' e' f' g') ∧ Book nms rs' lf' now' kv ∧ JarOk (T + 2) o' := by
  have hlf : lf.length ≤ 24 := by have := B.leftL; have := B.few; omega
  have pos : 0 < lf.length := List.length_pos_iff.mpr ne
  obtain ⟨r, o1, e1, r0, r1, ok1⟩ := take_spec (m := (lf.length : Int)) ok (by omega) (by omega) (by omega)
  obtain ⟨j, hj⟩ : ∃ j, lf[r.toNat]? = some j := ⟨lf[r.toNat]'(by omega), List.getElem?_eq_getElem (by omega)⟩
  obtain ⟨row, hrow, hno⟩ := B.left j (List.mem_of_getElem? hj)
  obtain ⟨bg, k, s, rfl, b1, b2, hk, hs⟩ := open_row (B.row _ (List.mem_of_getElem? hrow)) hno
  obtain ⟨z, o2, e2, hz, hzn, ok2⟩ := answer_law ok1 (by omega) hs
  refine ⟨o2, rs.set j [.int bg, .int now', .str k, .str s, .str z], lf.eraseIdx r.toNat, .d (.str k), .d (.int j), .d (.int bg), .d .non, .d (.str s), .d .non, ?_, B.close lt up hj hrow hz hzn, ok2⟩
  have hjl : j < rs.length := (List.getElem?_eq_some_iff.mp hrow).1
  rw [seq_nx (ρ1 := bk NM o1 rs (lf.eraseIdx r.toNat) now' kv a b (.d (.int j)) d e f g)]
  · rw [seq_nx (ρ1 := bk NM o1 rs (lf.eraseIdx r.toNat) now' kv a (.d (.str k)) (.d (.int j)) (.d (.int bg)) (.d .non) (.d (.str s)) (.d .non))]
    · have q := fn_jar (F := m__law_answer) (fx := aVar 11) (ρ := bk NM o1 rs (lf.eraseIdx r.toNat) now' kv a (.d (.str k)) (.d (.int j)) (.d (.int bg)) (.d .non) (.d (.str s)) (.d .non)) (o := o1) rfl rfl (.inl ⟨_, rfl, rfl⟩) e2
      have t : aTup (aCons (aVar 9) (aCons (aVar 4) (aCons (aVar 7) (aCons (aVar 11) (aCons (aFn m__law_answer (aCons (aVar 0) (aCons (aVar 11) aNil))) aNil))))) (bk NM o1 rs (lf.eraseIdx r.toNat) now' kv a (.d (.str k)) (.d (.int j)) (.d (.int bg)) (.d .non) (.d (.str s)) (.d .non)) = .ok (.d (.tup [.int bg, .int now', .str k, .str s, .str z])) (bk NM o2 rs (lf.eraseIdx r.toNat) now' kv a (.d (.str k)) (.d (.int j)) (.d (.int bg)) (.d .non) (.d (.str s)) (.d .non)) :=
        tup_of (cons_of (v := .d (.int bg)) rfl (cons_of (v := .d (.int now')) rfl (cons_of (v := .d (.str k)) rfl (cons_of (v := .d (.str s)) rfl (cons_of q nil_of))))) rfl (by simp)
      have hix : ixN (rs.map D.tup).length (j : Int) = some j := by
        unfold ixN
        rw [if_pos (by omega), if_pos (by rw [List.length_map]; omega)]
        simp
      unfold sPut
      rw [t]
      simp [bk, aVar, keep1, E.val, putO, hix]
      have hix' : ixN rs.length (j : Int) = some j := by rw [List.length_map] at hix; exact hix
      simp [hix', List.map_set]
    · have hi : gIx (.lst (rs.map .tup)) (.int j) = some (.d (.tup [.int bg, .non, .str k, .str s, .non])) := by
        simp only [gIx, atI, ixN]
        rw [if_pos (by omega), if_pos (by rw [List.length_map]; omega)]
        simp [hrow]
      have q : aOp2 gIx (aVar 2) (aVar 8) (bk NM o1 rs (lf.eraseIdx r.toNat) now' kv a b (.d (.int j)) d e f g) = .ok (.d (.tup [.int bg, .non, .str k, .str s, .non])) (bk NM o1 rs (lf.eraseIdx r.toNat) now' kv a b (.d (.int j)) d e f g) := by
        simp [aOp2, aVar, bk, app2, E.val, O.toD, hi]
      unfold sTg
      rw [q]
      rfl
  · refine (set_d (x := .int j) (ρ1 := bk NM o1 rs (lf.eraseIdx r.toNat) now' kv a b c d e f g) ?_ (by simp)).trans rfl
    have hlen : aCall gLen (aCons (aVar 3) aNil) (bk NM o rs lf now' kv a b c d e f g) = .ok (.d (.int lf.length)) (bk NM o rs lf now' kv a b c d e f g) := by
      simp [aCall, aCons, aVar, aNil, valL, E.val, O.toD, gLen, eInt, bk, lfD]
    have q := fn_jar (F := m__law_take) (o := o) rfl hlen (.inl ⟨_, rfl, rfl⟩) e1
    have := popat_of (i := 3) (xs0 := lfD lf) (xs := lfD lf) (x := .int j) rfl q rfl r0 (by rw [List.length_map]; exact r1) (by rw [List.length_map]; omega) (by rw [List.getElem?_map, hj]; rfl)
    rw [this]
    simp [bk, lfD, erase_map]
end
end L2.AL.K11
namespace L2.AL.K11
open PySem PySem.Spec PyProof.Rows L2 L2.AL TL
theorem book_law {T : Nat} {o : O} {nms : List Str} (h : JarOk T o) (hT : T ≤ 70000) (ne : nms ≠ []) (h5 : nms.length ≤ 5) (hn : ∀ z ∈ nms, nameB z = true) :
    ∃ rs : List (List D), ∃ o', m__law_book [.own o, .own (.lst (nms.map .str))] = .ok (.d (.tup (rs.map .tup))) [.own o', .own (.lst (nms.map .str))] ∧ BookOk rs ∧ JarOk (T + 500) o' := by
  obtain ⟨NM, hNM⟩ : ∃ NM : O, NM = .lst (nms.map .str) := ⟨_, rfl⟩
  obtain ⟨m, o1, e1, m0, m1, ok1⟩ := take_spec (m := 49) h (by omega) (by decide) (by decide)
  have hit : aRng1 (aCons (aFn m__law_take (aCons (aVar 0) (aCons (aK (.int 49)) aNil))) aNil) (bk NM o [] [] 0 [] .no .no .no .no .no .no .no) = .ok (rangeD 0 m.toNat) (bk NM o1 [] [] 0 [] .no .no .no .no .no .no .no) := by
    have q := fn_jar (ρ := bk NM o [] [] 0 [] .no .no .no .no .no .no .no) (fx := aK (.int 49)) (o := o) rfl rfl (.inl ⟨_, rfl, rfl⟩) e1
    unfold aRng1
    rw [aCons, q]
    simp only [Res.bind_ok, aNil]
    rw [if_pos ⟨by omega, by omega⟩]
    rfl
  have B0 : Book nms [] [] 0 [] := ⟨by simp, by simp, by simp, by simp, by simp, by simp, fun k => rfl, by simp, by simp, by simp, Int.le_refl _, by simp⟩
  have loop := sFor_ex (t := .nm 6) (body := sSeq (sSet1 4 (aOp2 gAdd (aVar 4) (aFn m__law_of (aCons (aVar 0) (aCons (aLst (aCons (aK (.int 1)) (aCons (aK (.int 1)) (aCons (aK (.int 2)) (aCons (aOp2 gPow (aK (.int 10)) (aK (.int 9))) aNil))))) aNil)))))
  (sSeq (sSet1 7 (aFn m__law_of (aCons (aVar 0) (aCons (aVar 1) aNil))))
  (sIf (aAndT (aT (aOp2 gEq (aFn m__law_take (aCons (aVar 0) (aCons (aK (.int 2)) aNil))) (aK (.int 0)))) (aAndT (aT (aOp2 gLt (aCall gLen (aCons (aVar 2) aNil)) (aK (.int 24)))) (aT (aOp2 gLt (aMeth "dict" gGet (aVar 5) (aCons (aVar 7) (aCons (aK (.int 0)) aNil))) (aK (.int 8)))))) (sSeq (sPut 5 (aVar 7) (aOp2 gAdd (aMeth "dict" gGet (aVar 5) (aCons (aVar 7) (aCons (aK (.int 0)) aNil))) (aK (.int 1))))
  (sSeq (sExpr (aMut "list" 3 uAppend (aCons (aCall gLen (aCons (aVar 2) aNil)) aNil)))
  (sExpr (aMut "list" 2 uAppend (aCons (aTup (aCons (aVar 4) (aCons (aK .non) (aCons (aVar 7) (aCons (aFn m__law_of (aCons (aVar 0) (aCons (aLst (aCons (aK (.str "put")) (aCons (aK (.str "drop")) (aCons (aK (.str "look")) aNil)))) aNil))) (aCons (aK .non) aNil)))))) aNil))))) (sIf (aT (aOp2 gNe (aVar 3) (aLst aNil))) (sSeq (sSet1 8 (aMut "list" 3 uPopAt (aCons (aFn m__law_take (aCons (aVar 0) (aCons (aCall gLen (aCons (aVar 3) aNil)) aNil))) aNil)))
  (sSeq (sTg (.tp [(.nm 9), (.nm 10), (.nm 7), (.nm 11), (.nm 12)]) (aOp2 gIx (aVar 2) (aVar 8)))
  (sPut 2 (aVar 8) (aTup (aCons (aVar 9) (aCons (aVar 4) (aCons (aVar 7) (aCons (aVar 11) (aCons (aFn m__law_answer (aCons (aVar 0) (aCons (aVar 11) aNil))) aNil))))))))) sNx))))
    (I := fun i ρ => ∃ (o' : O) (rs : List (List D)) (lf : List Nat) (now : Int) (kv : List (Key × D)) (a b c d e f g : S), ρ = bk NM o' rs lf now kv a b c d e f g ∧ Book nms rs lf now kv ∧ now ≤ i * 10 ^ 9 ∧ JarOk (T + 1 + 8 * i) o') hit (by
      rintro i x ρ hx ⟨o2, rs, lf, now, kv, a, b, c, d, e, f, g, rfl, B, hnow, ok2⟩
      obtain ⟨rfl, hi⟩ := rangeD_get hx
      -- the time
      obtain ⟨dD, o3, e3, hd, ok3⟩ := of_lst (xs := [.int 1, .int 1, .int 2, .int (10 ^ 9)]) ok2 (by omega) (by simp) (by simp) _ (.inl rfl)
      obtain ⟨dt, rfl, d0, d1⟩ : ∃ dt : Int, dD = .int dt ∧ 1 ≤ dt ∧ dt ≤ 10 ^ 9 := by
        simp only [List.mem_cons, List.not_mem_nil, or_false] at hd
        rcases hd with rfl | rfl | rfl | rfl <;> exact ⟨_, rfl, by decide, by decide⟩
      have p9 : aOp2 gPow (aK (.int 10)) (aK (.int 9)) (bk NM o2 rs lf now kv (.d (.int (0 + i))) b c d e f g) = .ok (.d (.int (10 ^ 9))) (bk NM o2 rs lf now kv (.d (.int (0 + i))) b c d e f g) := op2_d (x := .int 10) (y := .int 9) rfl rfl (gPow_ok (j := 9) (big64 (by decide)) (by decide))
      have l4 : aLst (aCons (aK (.int 1)) (aCons (aK (.int 1)) (aCons (aK (.int 2)) (aCons (aOp2 gPow (aK (.int 10)) (aK (.int 9))) aNil)))) (bk NM o2 rs lf now kv (.d (.int (0 + i))) b c d e f g) = .ok (.fr (.lst [.int 1, .int 1, .int 2, .int (10 ^ 9)])) (bk NM o2 rs lf now kv (.d (.int (0 + i))) b c d e f g) :=
        lst_of (cons_of (v := .d (.int 1)) rfl (cons_of (v := .d (.int 1)) rfl (cons_of (v := .d (.int 2)) rfl (cons_of p9 nil_of)))) rfl (by simp)
      have q1 := fn_jar (F := m__law_of) (o := o2) rfl l4 (.inr ⟨_, rfl, rfl⟩) e3
      have q2 := op2_s (g := gAdd) (v := .d (.int (now + dt))) (fa := aVar 4) (ρ := bk NM o2 rs lf now kv (.d (.int (0 + i))) b c d e f g) (x := .int now) rfl q1 rfl
      -- the key
      obtain ⟨kD, o4, e4, hk, ok4⟩ := of_lst (xs := nms.map .str) ok3 (by omega) (by simpa using ne) (by rw [List.length_map]; omega) _ (.inl rfl)
      obtain ⟨k, hk2, rfl⟩ := List.mem_map.mp hk
      rw [← hNM] at e4
      have q3 := fn_jar_sl (ρ := bk NM o3 rs lf (now + dt) kv (.d (.int (0 + i))) b c d e f g) (i := 1) (by decide) rfl rfl e4
      -- the coin
      obtain ⟨r, o5, e5, r0, r1, ok5⟩ := take_spec (m := 2) ok4 (by omega) (by decide) (by decide)
      have q4 := fn_jar (F := m__law_take) (o := o4) (fx := aK (.int 2)) (ρ := bk NM o4 rs lf (now + dt) kv (.d (.int (0 + i))) (.d (.str k)) c d e f g) rfl rfl (.inl ⟨_, rfl, rfl⟩) e5
      have t1 : aT (aOp2 gEq (aFn m__law_take (aCons (aVar 0) (aCons (aK (.int 2)) aNil))) (aK (.int 0))) (bk NM o4 rs lf (now + dt) kv (.d (.int (0 + i))) (.d (.str k)) c d e f g) = .ok (r == 0) (bk NM o5 rs lf (now + dt) kv (.d (.int (0 + i))) (.d (.str k)) c d e f g) := aT_of (op2_s (y := .int 0) q4 rfl rfl)
      have t2 : aT (aOp2 gLt (aCall gLen (aCons (aVar 2) aNil)) (aK (.int 24))) (bk NM o5 rs lf (now + dt) kv (.d (.int (0 + i))) (.d (.str k)) c d e f g) = .ok (decide ((rs.length : Int) < 24)) (bk NM o5 rs lf (now + dt) kv (.d (.int (0 + i))) (.d (.str k)) c d e f g) := by
        refine aT_of (op2_d (x := .int rs.length) (y := .int 24) ?_ rfl rfl)
        simp [aCall, aCons, aVar, aNil, valL, E.val, O.toD, gLen, eInt, bk]
      have t3 : aT (aOp2 gLt (aMeth "dict" gGet (aVar 5) (aCons (aVar 7) (aCons (aK (.int 0)) aNil))) (aK (.int 8))) (bk NM o5 rs lf (now + dt) kv (.d (.int (0 + i))) (.d (.str k)) c d e f g) = .ok (decide ((((rs.map key).countP (fun z => z == k) : Nat) : Int) < 8)) (bk NM o5 rs lf (now + dt) kv (.d (.int (0 + i))) (.d (.str k)) c d e f g) := aT_of (op2_d (y := .int 8) (get_of B) rfl rfl)
      have lt : now < now + dt := by omega
      have up : now + dt < 10 ^ 18 := by omega
      have hi' : (i : Int) < 49 := by omega
      -- what follows
      have rest : ∃ (o6 : O) (rs' : List (List D)) (lf' : List Nat) (kv' : List (Key × D)) (b' c' d' e' f' g' : S), sIf (aAndT (aT (aOp2 gEq (aFn m__law_take (aCons (aVar 0) (aCons (aK (.int 2)) aNil))) (aK (.int 0)))) (aAndT (aT (aOp2 gLt (aCall gLen (aCons (aVar 2) aNil)) (aK (.int 24)))) (aT (aOp2 gLt (aMeth "dict" gGet (aVar 5) (aCons (aVar 7) (aCons (aK (.int 0)) aNil))) (aK (.int 8)))))) (sSeq (sPut 5 (aVar 7) (aOp2 gAdd (aMeth "dict" gGet (aVar 5) (aCons (aVar 7) (aCons (aK (.int 0)) aNil))) (aK (.int 1))))
          (sSeq (sExpr (aMut "list" 3 uAppend (aCons (aCall gLen (aCons (aVar 2) aNil)) aNil)))
          (sExpr (aMut "list" 2 uAppend (aCons (aTup (aCons (aVar 4) (aCons (aK .non) (aCons (aVar 7) (aCons (aFn m__law_of (aCons (aVar 0) (aCons (aLst (aCons (aK (.str "put")) (aCons (aK (.str "drop")) (aCons (aK (.str "look")) aNil)))) aNil))) (aCons (aK .non) aNil)))))) aNil))))) (sIf (aT (aOp2 gNe (aVar 3) (aLst aNil))) (sSeq (sSet1 8 (aMut "list" 3 uPopAt (aCons (aFn m__law_take (aCons (aVar 0) (aCons (aCall gLen (aCons (aVar 3) aNil)) aNil))) aNil)))
          (sSeq (sTg (.tp [(.nm 9), (.nm 10), (.nm 7), (.nm 11), (.nm 12)]) (aOp2 gIx (aVar 2) (aVar 8)))
          (sPut 2 (aVar 8) (aTup (aCons (aVar 9) (aCons (aVar 4) (aCons (aVar 7) (aCons (aVar 11) (aCons (aFn m__law_answer (aCons (aVar 0) (aCons (aVar 11) aNil))) aNil))))))))) sNx) (bk NM o4 rs lf (now + dt) kv (.d (.int (0 + i))) (.d (.str k)) c d e f g) = .ok .nx (bk NM o6 rs' lf' (now + dt) kv' (.d (.int (0 + i))) b' c' d' e' f' g') ∧ Book nms rs' lf' (now + dt) kv' ∧ JarOk (T + 1 + 8 * (i + 1)) o6 := by
        have other : aAndT (aT (aOp2 gEq (aFn m__law_take (aCons (aVar 0) (aCons (aK (.int 2)) aNil))) (aK (.int 0)))) (aAndT (aT (aOp2 gLt (aCall gLen (aCons (aVar 2) aNil)) (aK (.int 24)))) (aT (aOp2 gLt (aMeth "dict" gGet (aVar 5) (aCons (aVar 7) (aCons (aK (.int 0)) aNil))) (aK (.int 8))))) (bk NM o4 rs lf (now + dt) kv (.d (.int (0 + i))) (.d (.str k)) c d e f g) = .ok ((r == 0) && (decide ((rs.length : Int) < 24) && decide ((((rs.map key).countP (fun z => z == k) : Nat) : Int) < 8))) (bk NM o5 rs lf (now + dt) kv (.d (.int (0 + i))) (.d (.str k)) c d e f g) := by
          cases h1 : (r == 0) with
          | false => rw [h1] at t1; rw [and_f t1]; rfl
          | true =>
            rw [h1] at t1
            rw [and_t t1]
            cases h2 : decide ((rs.length : Int) < 24) with
            | false => rw [h2] at t2; rw [and_f t2]; rfl
            | true => rw [h2] at t2; rw [and_t t2, t3]; rfl
        by_cases hc : ((r == 0) && (decide ((rs.length : Int) < 24) && decide ((((rs.map key).countP (fun z => z == k) : Nat) : Int) < 8))) = true
        · rw [hc] at other
          simp only [Bool.and_eq_true, decide_eq_true_eq] at hc
          obtain ⟨o6, rs', lf', kv', e6, B', ok6⟩ := turn_begin (NM := NM) (a := .d (.int (0 + i))) (c := c) (d := d) (e := e) (f := f) (g := g) (by omega) ok5 B lt up hk2 (hn k hk2) (by omega) (by omega)
          exact ⟨o6, rs', lf', kv', _, _, _, _, _, _, by rw [if_t other]; exact e6, B', ok6.mono (by omega)⟩
        · rw [Bool.eq_false_iff.mpr hc] at other
          have t4 : aT (aOp2 gNe (aVar 3) (aLst aNil)) (bk NM o5 rs lf (now + dt) kv (.d (.int (0 + i))) (.d (.str k)) c d e f g) = .ok (!lf.isEmpty) (bk NM o5 rs lf (now + dt) kv (.d (.int (0 + i))) (.d (.str k)) c d e f g) := by
            have q := ne_nil (lf := lf)
            refine aT_of ?_
            have l0 : aLst aNil (bk NM o5 rs lf (now + dt) kv (.d (.int (0 + i))) (.d (.str k)) c d e f g) = .ok (.fr (.lst [])) (bk NM o5 rs lf (now + dt) kv (.d (.int (0 + i))) (.d (.str k)) c d e f g) := lst_of nil_of rfl (by simp)
            simp only [aOp2, l0, aVar, bk, List.getElem?_cons_succ, List.getElem?_cons_zero, Res.bind_ok, app2, E.val, O.toD, q]
          cases hl : lf with
          | nil =>
            subst hl
            exact ⟨o5, rs, [], kv, _, _, _, _, _, _, by rw [if_f other, if_f t4]; rfl, ⟨B.few, B.row, B.begins, B.times, fun t ht => by have := B.upto t ht; omega, B.keys, B.many, B.manyL, B.nodup, B.left, by have := B.pos; omega, B.leftL⟩, ok5.mono (by omega)⟩
          | cons j0 jr =>
            obtain ⟨o6, rs', lf', b', c', d', e', f', g', e6, B', ok6⟩ := turn_close (NM := NM) (a := .d (.int (0 + i))) (b := .d (.str k)) (c := c) (d := d) (e := e) (f := f) (g := g) (by omega) ok5 B lt up (by rw [hl]; simp)
            rw [← hl]
            refine ⟨o6, rs', lf', kv, b', c', d', e', f', g', ?_, B', ok6.mono (by omega)⟩
            rw [if_f other, if_t (t4.trans (by rw [show (!lf.isEmpty) = true by rw [hl]; rfl]))]
            exact e6
      obtain ⟨o6, rs', lf', kv', b', c', d', e', f', g', e6, B', ok6⟩ := rest
      refine ⟨bk NM o2 rs lf now kv (.d (.int (0 + i))) b c d e f g, bk NM o6 rs' lf' (now + dt) kv' (.d (.int (0 + i))) b' c' d' e' f' g', rfl, ?_, o6, rs', lf', now + dt, kv', .d (.int (0 + i)), b', c', d', e', f', g', rfl, B', by push_cast; omega, ok6⟩
      rw [seq_nx (ρ1 := bk NM o3 rs lf (now + dt) kv (.d (.int (0 + i))) b c d e f g) (set_d q2 (by simp)), seq_nx (ρ1 := bk NM o4 rs lf (now + dt) kv (.d (.int (0 + i))) (.d (.str k)) c d e f g) (set_d q3 (by simp))]
      exact e6) ⟨o1, [], [], 0, [], _, _, _, _, _, _, _, rfl, B0, by simp, ok1⟩
  obtain ⟨ρ', loop, o2, rs, lf, now, kv, a, b, c, d, e, f, g, rfl, B, _, ok2⟩ := loop
  rw [rangeD_len] at ok2
  refine ⟨rs, o2, ?_, ⟨B.few, B.row, B.begins, B.times, B.keys⟩, ok2.mono (by omega)⟩
  rw [← hNM]
  refine (run_rt (ρ1 := bk NM o2 rs lf now kv a b c d e f g) rfl ?_).trans rfl
  unfold b__law_book
  rw [seq_nx (ρ1 := bk NM o [] [] 0 [] .no .no .no .no .no .no .no), seq_nx loop]
  · refine ret_of ?_
    simp [runF, outF, sSeq, sIf, sRet, sRetN, sSet1, sSet, sTg, sExpr, sNx, aVar, aK, aCons, aNil, aOp2, app2, aCall, valL, E.val, aT, aNotT, aAndT, aOrT, aAndV, aOrV, aNotV, aIf, aChain, aTup, aLst, keepL, keep1, freeze, toSL, toS, setL, aFn, appFn, argS, slIx, wb, aIter, D.items?, aMeth, D.tyn, aSlice, aPart, aPartN, gIsi, D.isi, gIs, gIsn, D.is?, D.seq?, aStar, O.toD, eBl, eInt, eStr, tset, tsetL, wipeS, backS, nOwn, D.imm, gTuple, bk]
  · simp [runF, outF, sSeq, sIf, sRet, sRetN, sSet1, sSet, sTg, sExpr, sNx, aVar, aK, aCons, aNil, aOp2, app2, aCall, valL, E.val, aT, aNotT, aAndT, aOrT, aAndV, aOrV, aNotV, aIf, aChain, aTup, aLst, keepL, keep1, freeze, toSL, toS, setL, aFn, appFn, argS, slIx, wb, aIter, D.items?, aMeth, D.tyn, aSlice, aPart, aPartN, gIsi, D.isi, gIs, gIsn, D.is?, D.seq?, aStar, O.toD, eBl, eInt, eStr, tset, tsetL, wipeS, backS, nOwn, D.imm, aDict0, bk]
end L2.AL.K11
namespace L2.AL.K11
open PySem PySem.Spec PyProof.Rows L2 L2.AL TL
section
variable {ρ ρ1 ρ2 : List S} {f g : List S → Res E} {t u : List S → Res Bool} {h : List D → Option E} {x : D} {v : E} {z : Str}
theorem call1 (ha : f ρ = .ok (.d x) ρ) (e : h [x] = some v) : aCall h (aCons f aNil) ρ = .ok v ρ := by
  simp [aCall, aCons, ha, aNil, valL, E.val, e]
theorem call2 {k : List S → Res E} {y : D} (ha : f ρ = .ok (.d x) ρ) (hb : k ρ = .ok (.d y) ρ) (e : h [x, y] = some v) : aCall h (aCons f (aCons k aNil)) ρ = .ok v ρ := by
  simp [aCall, aCons, ha, hb, aNil, valL, E.val, e]
theorem or_t (h : t ρ = .ok true ρ1) : aOrT t u ρ = .ok true ρ1 := by unfold aOrT; rw [h]; rfl
theorem andV_t (h : f ρ = .ok (.d (.bl true)) ρ1) : aAndV f g ρ = g ρ1 := by unfold aAndV; rw [aT_of h]; rfl
theorem same_s : gEq (.str z) (.str z) = some (eBl true) := by simp [gEq, D.eq?]
theorem same_n : gNe (.str z) (.str z) = some (eBl false) := by simp [gNe, D.eq?]
end
theorem ev_rows {rs : List (List D)} (hl : rs.length ≤ 30) (h : ∀ r ∈ rs, EvOk r) : RowsOk rs := ⟨by omega, fun r hr => ev_row (h r hr)⟩
theorem rd_ev : m_all_in [.d (.str (Str.ofString "")), .d (.fn "event_in")] = .ok (.d (.tup [])) [.d (.str (Str.ofString "")), .d (.fn "event_in")] := by rfl
theorem rd_rc : m_all_in [.d (.str (Str.ofString "")), .d (.fn "record_in")] = .ok (.d (.tup [])) [.d (.str (Str.ofString "")), .d (.fn "record_in")] := by rfl
theorem book_nil : BookOk [] := ⟨by simp, by simp, by simp, by simp, by simp⟩
theorem run_back {rs : List (List D)} (hl : rs.length ≤ 30) (he : ∀ r ∈ rs, EvOk r) : m_read_run [.d (.str (page rs))] = .ok (.d (.tup (rs.map .tup))) [.d (.str (page rs))] := by
  by_cases ne : rs = []
  · subst ne
    rw [page_nil]
    unfold m_read_run b_read_run
    simp [runF, outF, sSeq, sIf, sRet, sRetN, sSet1, sSet, sTg, sExpr, sNx, aVar, aK, aCons, aNil, aOp2, app2, aCall, valL, E.val, aT, aNotT, aAndT, aOrT, aAndV, aOrV, aNotV, aIf, aChain, aTup, aLst, keepL, keep1, freeze, toSL, toS, setL, aFn, appFn, argS, slIx, wb, aIter, D.items?, aMeth, D.tyn, aSlice, aPart, aPartN, gIsi, D.isi, gIs, gIsn, D.is?, D.seq?, aStar, O.toD, eBl, eInt, eStr, tset, tsetL, wipeS, backS, nOwn, D.imm, rd_ev]
  · exact read_run_spec (ev_rows hl he) ne he
theorem book_back {rs : List (List D)} (h : BookOk rs) : m_read_history [.d (.str (page rs))] = .ok (.d (.tup (rs.map .tup))) [.d (.str (page rs))] := by
  by_cases ne : rs = []
  · subst ne
    rw [page_nil]
    have q := history_spec book_nil
    rw [List.map_nil] at q
    unfold m_read_history b_read_history
    simp [runF, outF, sSeq, sIf, sRet, sRetN, sSet1, sSet, sTg, sExpr, sNx, aVar, aK, aCons, aNil, aOp2, app2, aCall, valL, E.val, aT, aNotT, aAndT, aOrT, aAndV, aOrV, aNotV, aIf, aChain, aTup, aLst, keepL, keep1, freeze, toSL, toS, setL, aFn, appFn, argS, slIx, wb, aIter, D.items?, aMeth, D.tyn, aSlice, aPart, aPartN, gIsi, D.isi, gIs, gIsn, D.is?, D.seq?, aStar, O.toD, eBl, eInt, eStr, tset, tsetL, wipeS, backS, nOwn, D.imm, rd_rc, q]
  · exact read_history_spec h ne
theorem run_right {T : Nat} {o : O} {nms : List Str} (h : JarOk T o) (hT : T ≤ 70000) (ne : nms ≠ []) (h5 : nms.length ≤ 5) (hn : ∀ z ∈ nms, nameB z = true) :
    ∃ o', m__law_run_right [.own o, .own (.lst (nms.map .str))] = .ok (.d (.bl true)) [.own o', .own (.lst (nms.map .str))] ∧ JarOk (T + 200) o' := by
  obtain ⟨rs, o', e, hl, he, ok⟩ := events_law h (by omega) ne h5 hn
  have R := ev_rows hl he
  obtain ⟨z, hz⟩ := rows_repr R
  have a := lines_spec R
  have b := show_run_spec R he
  have c := run_back hl he
  refine ⟨o', ?_, ok⟩
  generalize O.lst (nms.map .str) = NM at *
  generalize D.tup (rs.map .tup) = X at *
  generalize page rs = P at *
  have v2 : aVar 2 [.own o', .own NM, .d X, .d (.str P)] = .ok (.d X) [.own o', .own NM, .d X, .d (.str P)] := rfl
  have v3 : aVar 3 [.own o', .own NM, .d X, .d (.str P)] = .ok (.d (.str P)) [.own o', .own NM, .d X, .d (.str P)] := rfl
  have s1 := op2_d (g := gNe) (fn1 v2 b) v3 same_n
  have r1 : aCall gRepr (aCons (aFn m_read_run (aCons (aVar 3) aNil)) aNil) [.own o', .own NM, .d X, .d (.str P)] = .ok (eStr z) [.own o', .own NM, .d X, .d (.str P)] := call1 (fn1 v3 c) (by simp [gRepr, hz])
  have r2 : aCall gRepr (aCons (aVar 2) aNil) [.own o', .own NM, .d X, .d (.str P)] = .ok (eStr z) [.own o', .own NM, .d X, .d (.str P)] := call1 v2 (by simp [gRepr, hz])
  have r3 := op2_d (g := gEq) r1 r2 same_s
  have w : aFn m__law_events (aCons (aVar 0) (aCons (aVar 1) aNil)) [.own o, .own NM, .no, .no] = .ok (.d X) [.own o', .own NM, .no, .no] := fn_jar_sl (ρ := [.own o, .own NM, .no, .no]) (i := 1) (by decide) rfl rfl e
  have w2 : aFn m__law_lines (aCons (aVar 2) aNil) [.own o', .own NM, .d X, .no] = .ok (.d (.str P)) [.own o', .own NM, .d X, .no] := fn1 rfl a
  refine (run_rt (ρ1 := [.own o', .own NM, .d X, .d (.str P)]) rfl ?_).trans rfl
  unfold b__law_run_right
  rw [seq_nx (ρ1 := [.own o', .own NM, .d X, .no]) (set_d w (by simp)), seq_nx (ρ1 := [.own o', .own NM, .d X, .d (.str P)]) (set_d w2 (by simp)),
    seq_nx (ρ1 := [.own o', .own NM, .d X, .d (.str P)])]
  · exact ret_of ((andV_t r3).trans r3)
  · rw [if_f (or_f (aT_of s1) (aT_of s1))]; rfl
theorem book_right {T : Nat} {o : O} {nms : List Str} (h : JarOk T o) (hT : T ≤ 70000) (ne : nms ≠ []) (h5 : nms.length ≤ 5) (hn : ∀ z ∈ nms, nameB z = true) :
    ∃ o', m__law_book_right [.own o, .own (.lst (nms.map .str))] = .ok (.d (.bl true)) [.own o', .own (.lst (nms.map .str))] ∧ JarOk (T + 500) o' := by
  obtain ⟨rs, o', e, B, ok⟩ := book_law h hT ne h5 hn
  have R := book_rows B
  obtain ⟨z, hz⟩ := rows_repr R
  have a := lines_spec R
  have hh := history_spec B
  have b := show_history_spec B
  have c := book_back B
  have q := rows_eq R
  refine ⟨o', ?_, ok⟩
  generalize O.lst (nms.map .str) = NM at *
  generalize D.tup (rs.map .tup) = X at *
  generalize page rs = P at *
  have v2 : aVar 2 [.own o', .own NM, .d X, .d (.str P)] = .ok (.d X) [.own o', .own NM, .d X, .d (.str P)] := rfl
  have v3 : aVar 3 [.own o', .own NM, .d X, .d (.str P)] = .ok (.d (.str P)) [.own o', .own NM, .d X, .d (.str P)] := rfl
  have s0 : aOp2 gIsn (aFn m_is_history (aCons (aVar 2) aNil)) (aK (.bl true)) [.own o', .own NM, .d X, .d (.str P)] = .ok (.d (.bl false)) [.own o', .own NM, .d X, .d (.str P)] := op2_d (x := .bl true) (y := .bl true) (fn1 v2 hh) rfl rfl
  have s1 := op2_d (g := gNe) (fn1 v2 b) v3 same_n
  have r1 : aCall gRepr (aCons (aFn m_read_history (aCons (aVar 3) aNil)) aNil) [.own o', .own NM, .d X, .d (.str P)] = .ok (eStr z) [.own o', .own NM, .d X, .d (.str P)] := call1 (fn1 v3 c) (by simp [gRepr, hz])
  have r2 : aCall gRepr (aCons (aVar 2) aNil) [.own o', .own NM, .d X, .d (.str P)] = .ok (eStr z) [.own o', .own NM, .d X, .d (.str P)] := call1 v2 (by simp [gRepr, hz])
  have r3 := op2_d (g := gEq) r1 r2 same_s
  have r4 := op2_d (g := gEq) (fn1 v3 c) v2 q
  have w : aFn m__law_book (aCons (aVar 0) (aCons (aVar 1) aNil)) [.own o, .own NM, .no, .no] = .ok (.d X) [.own o', .own NM, .no, .no] := fn_jar_sl (ρ := [.own o, .own NM, .no, .no]) (i := 1) (by decide) rfl rfl e
  have w2 : aFn m__law_lines (aCons (aVar 2) aNil) [.own o', .own NM, .d X, .no] = .ok (.d (.str P)) [.own o', .own NM, .d X, .no] := fn1 rfl a
  refine (run_rt (ρ1 := [.own o', .own NM, .d X, .d (.str P)]) rfl ?_).trans rfl
  unfold b__law_book_right
  rw [seq_nx (ρ1 := [.own o', .own NM, .d X, .no]) (set_d w (by simp)), seq_nx (ρ1 := [.own o', .own NM, .d X, .d (.str P)]) (set_d w2 (by simp)),
    seq_nx (ρ1 := [.own o', .own NM, .d X, .d (.str P)])]
  · exact ret_of ((andV_t r3).trans r4)
  · rw [if_f (or_f (aT_of s0) (or_f (aT_of s1) (aT_of s1)))]; rfl
abbrev first : List S → Res Bool := aT (aOp2 gNe (aLst (aCons (aFn m_show_run (aCons (aTup aNil) aNil)) (aCons (aFn m_show_history (aCons (aTup aNil) aNil)) (aCons (aFn m_read_run (aCons (aK (.str "")) aNil)) (aCons (aFn m_read_history (aCons (aK (.str "")) aNil)) aNil))))) (aLst (aCons (aK (.str "")) (aCons (aK (.str "")) (aCons (aTup aNil) (aCons (aTup aNil) aNil))))))
theorem first_no {ρ : List S} : first ρ = .ok false ρ := by
  have t0 : aTup aNil ρ = .ok (.d (.tup [])) ρ := tup_of nil_of rfl (by simp)
  have e0 : aK (.str "") ρ = .ok (.d (.str (Str.ofString ""))) ρ := rfl
  have a := show_run_spec (rs := []) ⟨by simp, by simp⟩ (by simp)
  have b := show_history_spec book_nil
  have c := run_back (rs := []) (by simp) (by simp)
  have d := book_back book_nil
  rw [page_nil, List.map_nil] at a b c d
  have l1 : aLst (aCons (aFn m_show_run (aCons (aTup aNil) aNil)) (aCons (aFn m_show_history (aCons (aTup aNil) aNil)) (aCons (aFn m_read_run (aCons (aK (.str "")) aNil)) (aCons (aFn m_read_history (aCons (aK (.str "")) aNil)) aNil)))) ρ = .ok (.fr (.lst [.str "", .str "", .tup [], .tup []])) ρ :=
    lst_of (cons_of (fn1 t0 a) (cons_of (fn1 t0 b) (cons_of (fn1 e0 c) (cons_of (fn1 e0 d) nil_of)))) rfl (by simp)
  have l2 : aLst (aCons (aK (.str "")) (aCons (aK (.str "")) (aCons (aTup aNil) (aCons (aTup aNil) aNil)))) ρ = .ok (.fr (.lst [.str "", .str "", .tup [], .tup []])) ρ :=
    lst_of (cons_of e0 (cons_of e0 (cons_of t0 (cons_of t0 nil_of)))) rfl (by simp)
  refine aT_of ?_
  have q : gNe (.lst [.str "", .str "", .tup [], .tup []]) (.lst [.str "", .str "", .tup [], .tup []]) = some (eBl false) := by
    have c : (PyData.list [.str (Str.ofString ""), .str (Str.ofString ""), .tuple [], .tuple []]).canLay0 = true := by decide +kernel
    have sh : SeqAt.shaped (PyData.list [.str (Str.ofString ""), .str (Str.ofString ""), .tuple [], .tuple []]) = true := by decide +kernel
    have p : (D.lst [.str (Str.ofString ""), .str (Str.ofString ""), .tup [], .tup []]).py = some (PyData.list [.str (Str.ofString ""), .str (Str.ofString ""), .tuple [], .tuple []]) := by rfl
    unfold gNe D.eq?
    simp only [p, sh, and_self, if_true]
    rw [PySem.SeqAt.eqv_refl _ c]
    rfl
  simp only [aOp2, l1, l2, Res.bind_ok, app2, E.val, O.toD, q]
theorem turns {T : Nat} {o : O} {nms : List Str} {X : S} {a : S} (h : JarOk T o) (hT : T ≤ 1000) (ne : nms ≠ []) (h5 : nms.length ≤ 5) (hn : ∀ z ∈ nms, nameB z = true) :
    ∃ o', aT (aCall gAll (aCons (aLc [4] (aRng1 (aCons (aK (.int 3)) aNil)) (.nm 4) aYes (aAndV (aFn m__law_run_right (aCons (aVar 2) (aCons (aVar 3) aNil))) (aFn m__law_book_right (aCons (aVar 2) (aCons (aVar 3) aNil))))) aNil)) [X, a, .own o, .own (.lst (nms.map .str)), .no]
      = .ok true [X, a, .own o', .own (.lst (nms.map .str)), .no] := by
  obtain ⟨ys, ρ', e, hl, hy, o', r⟩ := aLc_ex (it := aRng1 (aCons (aK (.int 3)) aNil)) (t := .nm 4) (f := aAndV (aFn m__law_run_right (aCons (aVar 2) (aCons (aVar 3) aNil))) (aFn m__law_book_right (aCons (aVar 2) (aCons (aVar 3) aNil)))) (vs := [4])
    (I := fun i ρ => ∃ o', ρ = [X, a, .own o', .own (.lst (nms.map .str)), .no] ∧ JarOk (T + 700 * i) o') (R := fun y => y = .bl true) (xs := rangeD 0 3) (ρ := [X, a, .own o, .own (.lst (nms.map .str)), .no]) (ρ1 := [X, a, .own o, .own (.lst (nms.map .str)), .no]) rfl rfl (by
      rintro i x ρ hx ⟨o1, rfl, ok⟩
      obtain ⟨rfl, hi⟩ := rangeD_get hx
      obtain ⟨o2, e2, ok2⟩ := run_right ok (by omega) ne h5 hn
      obtain ⟨o3, e3, ok3⟩ := book_right ok2 (by omega) ne h5 hn
      have q1 : aFn m__law_run_right (aCons (aVar 2) (aCons (aVar 3) aNil)) [X, a, .own o1, .own (.lst (nms.map .str)), .d (.int (0 + i))] = .ok (.d (.bl true)) [X, a, .own o2, .own (.lst (nms.map .str)), .d (.int (0 + i))] := by
        simp [aFn, aCons, aVar, aNil, appFn, argS, slIx, e2, wb]
      have q2 : aFn m__law_book_right (aCons (aVar 2) (aCons (aVar 3) aNil)) [X, a, .own o2, .own (.lst (nms.map .str)), .d (.int (0 + i))] = .ok (.d (.bl true)) [X, a, .own o3, .own (.lst (nms.map .str)), .d (.int (0 + i))] := by
        simp [aFn, aCons, aVar, aNil, appFn, argS, slIx, e3, wb]
      exact ⟨[X, a, .own o1, .own (.lst (nms.map .str)), .d (.int (0 + i))], _, _, _, _, rfl, (andV_t q1).trans q2, rfl, rfl, o3, rfl, ok3.mono (by omega)⟩) ⟨o, rfl, h⟩ (by decide)
  obtain ⟨rfl, _⟩ := r
  have hall : ys = ys.map (fun _ => D.bl true) := (List.map_id ys).symm.trans (List.map_congr_left (f := id) (g := fun _ => D.bl true) fun y hy' => hy y hy')
  refine ⟨o', aT_of ?_⟩
  have g := bls_all (fun _ : D => true) ys (by simp)
  rw [← hall] at g
  simp [aCall, aCons, e, aNil, valL, E.val, O.toD, g, backS]
theorem math (ns : List Int) (h : ns.length ≤ 63) : ∃ ρ', m_law [.d (.scr ns)] = .ok (.d (.bl true)) ρ' := by
  have hk : ∃ k : Nat, k ≤ 4 ∧ aRng1 (aCons (aCall gMax (aCons (aK (.int 1)) (aCons (aCall gMin (aCons (aK (.int 4)) (aCons (aCall gLen (aCons (aVar 0) aNil)) aNil))) aNil))) aNil) [.d (.scr ns), .no, .no, .no, .no] = .ok (rangeD 0 k) [.d (.scr ns), .no, .no, .no, .no] := by
    have l : aCall gLen (aCons (aVar 0) aNil) [.d (.scr ns), .no, .no, .no, .no] = .ok (.d (.int ns.length)) [.d (.scr ns), .no, .no, .no, .no] := call1 (x := .scr ns) rfl rfl
    have mi : aCall gMin (aCons (aK (.int 4)) (aCons (aCall gLen (aCons (aVar 0) aNil)) aNil)) [.d (.scr ns), .no, .no, .no, .no] = .ok (.d (.int (if (ns.length : Int) < 4 then ns.length else 4))) [.d (.scr ns), .no, .no, .no, .no] := call2 (x := .int 4) rfl l rfl
    obtain ⟨q, hq⟩ : ∃ q : Int, q = if (ns.length : Int) < 4 then (ns.length : Int) else 4 := ⟨_, rfl⟩
    rw [← hq] at mi
    have q4 : q ≤ 4 := by rw [hq]; split <;> omega
    have q0 : 0 ≤ q := by rw [hq]; split <;> omega
    have ma : aCall gMax (aCons (aK (.int 1)) (aCons (aCall gMin (aCons (aK (.int 4)) (aCons (aCall gLen (aCons (aVar 0) aNil)) aNil))) aNil)) [.d (.scr ns), .no, .no, .no, .no] = .ok (.d (.int (if q > 1 then q else 1))) [.d (.scr ns), .no, .no, .no, .no] := call2 (x := .int 1) rfl mi rfl
    obtain ⟨r, hr⟩ : ∃ r : Int, r = if q > 1 then q else 1 := ⟨_, rfl⟩
    rw [← hr] at ma
    have r4 : r ≤ 4 := by rw [hr]; split <;> omega
    have r0 : 0 ≤ r := by rw [hr]; split <;> omega
    refine ⟨r.toNat, by omega, ?_⟩
    unfold aRng1
    rw [aCons, ma]
    simp only [Res.bind_ok, aNil]
    rw [if_pos ⟨by omega, by omega⟩]
  obtain ⟨k, hk, hit⟩ := hk
  obtain ⟨ρ', loop, b, c, d, e, rfl⟩ := sFor_ex (t := .nm 1) (body := sSeq (sSet1 2 (aFn m__law_jar (aCons (aVar 0) (aCons (aVar 1) aNil))))
    (sSeq (sSet1 3 (aFn m__law_names (aCons (aVar 2) (aCons (aOp2 gAdd (aK (.int 1)) (aFn m__law_take (aCons (aVar 2) (aCons (aK (.int 5)) aNil)))) aNil))))
    (sIf (aNotT (aT (aCall gAll (aCons (aLc [4] (aRng1 (aCons (aK (.int 3)) aNil)) (.nm 4) aYes (aAndV (aFn m__law_run_right (aCons (aVar 2) (aCons (aVar 3) aNil))) (aFn m__law_book_right (aCons (aVar 2) (aCons (aVar 3) aNil))))) aNil)))) (sRet (aK (.bl false))) sNx)))
    (I := fun i ρ => ∃ b c d, ρ = [.d (.scr ns), b, c, d, .no]) hit (by
      rintro i x ρ hx ⟨b, c, d, rfl⟩
      obtain ⟨rfl, hi⟩ := rangeD_get hx
      obtain ⟨K, hK⟩ : ∃ K : Int, K = 0 + (i : Int) := ⟨_, rfl⟩
      rw [← hK]
      obtain ⟨o, e1, ok1⟩ := jar_spec (ns := ns) (k := K) (by omega) (by omega) h
      obtain ⟨m, o2, e2, m0, m1, ok2⟩ := take_spec (m := 5) ok1 (by omega) (by decide) (by decide)
      obtain ⟨nms, o3, e3, ne, h5, hn, ok3⟩ := names_law (n := 1 + m) ok2 (by omega) (by omega) (by omega)
      obtain ⟨o4, e4⟩ := turns (X := .d (.scr ns)) (a := .d (.int K)) ok3 (by omega) ne h5 hn
      have q1 : aFn m__law_jar (aCons (aVar 0) (aCons (aVar 1) aNil)) [.d (.scr ns), .d (.int K), c, d, .no] = .ok (.fr o) [.d (.scr ns), .d (.int K), c, d, .no] := by
        simp [aFn, aCons, aVar, aNil, appFn, argS, slIx, e1, wb]
      have q2 : aFn m__law_take (aCons (aVar 2) (aCons (aK (.int 5)) aNil)) [.d (.scr ns), .d (.int K), .own o, d, .no] = .ok (.d (.int m)) [.d (.scr ns), .d (.int K), .own o2, d, .no] := by
        simp [aFn, aCons, aVar, aNil, aK, appFn, argS, slIx, e2, wb]
      have q3 : aOp2 gAdd (aK (.int 1)) (aFn m__law_take (aCons (aVar 2) (aCons (aK (.int 5)) aNil))) [.d (.scr ns), .d (.int K), .own o, d, .no] = .ok (.d (.int (1 + m))) [.d (.scr ns), .d (.int K), .own o2, d, .no] := op2_s (x := .int 1) rfl q2 rfl
      have q4 : aFn m__law_names (aCons (aVar 2) (aCons (aOp2 gAdd (aK (.int 1)) (aFn m__law_take (aCons (aVar 2) (aCons (aK (.int 5)) aNil)))) aNil)) [.d (.scr ns), .d (.int K), .own o, d, .no] = .ok (.fr (.lst (nms.map .str))) [.d (.scr ns), .d (.int K), .own o3, d, .no] := by
        simp [aFn, aCons, aVar, aNil, q3, appFn, argS, slIx, e3, wb]
      refine ⟨[.d (.scr ns), .d (.int K), c, d, .no], [.d (.scr ns), .d (.int K), .own o4, .own (.lst (nms.map .str)), .no], rfl, ?_, _, _, _, rfl⟩
      rw [seq_nx (ρ1 := [.d (.scr ns), .d (.int K), .own o, d, .no]) (set_o q1 (by simp)), seq_nx (ρ1 := [.d (.scr ns), .d (.int K), .own o3, .own (.lst (nms.map .str)), .no]) (set_o q4 (by simp)),
        if_f (aNotT_of e4)]
      rfl) ⟨.no, .no, .no, rfl⟩
  refine ⟨_, run_rt (x := .bl true) (ρ1 := [.d (.scr ns), b, c, d, .no]) rfl ?_⟩
  unfold b_law
  rw [seq_nx (ρ1 := [.d (.scr ns), .no, .no, .no, .no]), seq_nx loop]
  · rfl
  · rw [if_f first_no]; rfl
end L2.AL.K11
namespace L2.AL.K11
open PySem PySem.Spec PyProof.Rows L2 L2.AL
theorem walk {l : PySem.W.OpenLaw} {q : Program} {loose : List Str} {XP : (Str → Option Value) → Heap → Prop} {YP : World → Heap → Prop} {d : DefRec} {K : Params → PySem.W.Frag} (hn : l.most = some 63) (hdf : d.params.defaults = [])
    (hY : ∀ (w : World) (h : Heap), YP w h → (K w.params).In h)
    (F : ∀ (w : World) (mg : Str → Option Value) (fa : Addr) (h : Heap), (K w.params).In h → h.Ns mainGlobals mg → mg d.name = some (.ref fa) →
      ∃ fd : FuncData, (∀ (s : Shared) (u : Value), BindsTo s fd ⟨[u], []⟩ [("_law_script", u)]) ∧ ∀ base : Heap, (K w.params).In base → base.Ns mainGlobals mg → FnG l.prog w (K w.params) mg base CX0 7 fa fd ["_law_script"] m_law) :
    PySem.W.WalkO q loose XP YP l.row.toRowW d [] (fun f vs => PySem.call f vs) :=
  walk_G hn (by decide) hdf ⟨rfl, by decide, by decide⟩ hY F math
end L2.AL.K11
open PySem PySem.W PyProof.Rows
set_option maxRecDepth 100000 in
set_option maxHeartbeats 0 in
theorem PySem.Challenge.cw_unlikekeys_k11_texts_of_runs_and_histori_holds : PySem.Challenge.rw_unlikekeys_k11_texts_of_runs_and_histori.Holds := by
  w_on; o_law; k_head; (case hw => w_witness2)
  k_fill
  refine L2.AL.K11.walk (l := PySem.Challenge.rw_unlikekeys_k11_texts_of_runs_and_histori) rfl rfl (fun w h Y => PySem.W.kIn_of Y) ?F
  case F =>
    intro w mg fa h KX G hmg
    refine' L2.AL.K11.all_mk KX G hmg ?l_ANSWERS_0 ?l_ANSWERS_1 ?l_ANSWERS_2 ?l_ANSWERS ?lit_ANSWERS ?low_ANSWERS ?n_ANSWERS ?n_BEGIN ?n_BLANK ?n_DIGITS ?n_FEED ?n_LETTERS ?n_LONGEST_NAME ?n_MOST_OF_A_KEY ?n_MOST_RECORDS ?n_NOTHING ?l_NUMBER_EVENTS ?n_NUMBER_EVENTS ?n_PAIR_reading ?n_PAIR_showing ?n_RECORD ?n_RECORD_WORDS ?z_abs ?z_all ?z_bool ?z_enumerate ?z_int ?z_isinstance ?z_len ?z_max ?z_min ?z_range ?z_repr ?z_set ?z_sorted ?z_str ?z_tuple ?g_is_integer ?q_is_integer ?r_is_integer ?s_is_integer ?g_is_name ?q_is_name ?r_is_name ?s_is_name ?g_is_record ?q_is_record ?r_is_record ?s_is_record ?g_is_history ?q_is_history ?r_is_history ?s_is_history ?g_line_of ?q_line_of ?r_line_of ?s_line_of ?g_is_count ?q_is_count ?r_is_count ?s_is_count ?g_has_event_form ?q_has_event_form ?r_has_event_form ?s_has_event_form ?g_show_run ?q_show_run ?r_show_run ?s_show_run ?g_show_history ?q_show_history ?r_show_history ?s_show_history ?g_lines_of ?q_lines_of ?r_lines_of ?s_lines_of ?g_number_in ?q_number_in ?r_number_in ?s_number_in ?g_names_in ?q_names_in ?r_names_in ?s_names_in ?g_event_in ?q_event_in ?r_event_in ?s_event_in ?g_record_in ?q_record_in ?r_record_in ?s_record_in ?g_all_in ?q_all_in ?r_all_in ?s_all_in ?g_read_run ?q_read_run ?r_read_run ?s_read_run ?g_read_history ?q_read_history ?r_read_history ?s_read_history ?g__law_jar ?q__law_jar ?r__law_jar ?s__law_jar ?g__law_take ?q__law_take ?r__law_take ?s__law_take ?g__law_of ?q__law_of ?r__law_of ?s__law_of ?g__law_names ?q__law_names ?r__law_names ?s__law_names ?g__law_events ?q__law_events ?r__law_events ?s__law_events ?g__law_answer ?q__law_answer ?r__law_answer ?s__law_answer ?g__law_book ?q__law_book ?r__law_book ?s__law_book ?g__law_lines ?q__law_lines ?r__law_lines ?s__law_lines ?g__law_run_right ?q__law_run_right ?r__law_run_right ?s__law_run_right ?g__law_book_right ?q__law_book_right ?r__law_book_right ?s__law_book_right ?g_law ?q_law ?r_law ?s_law
    (case n_ANSWERS => k_is)
    (case n_BEGIN => k_is)
    (case n_BLANK => k_is)
    (case n_DIGITS => k_is)
    (case n_FEED => k_is)
    (case n_LETTERS => k_is)
    (case n_LONGEST_NAME => k_is)
    (case n_MOST_OF_A_KEY => k_is)
    (case n_MOST_RECORDS => k_is)
    (case n_NOTHING => k_is)
    (case n_NUMBER_EVENTS => k_is)
    (case n_PAIR_reading => k_is)
    (case n_PAIR_showing => k_is)
    (case n_RECORD => k_is)
    (case n_RECORD_WORDS => k_is)
    (case z_abs => k_is)
    (case z_all => k_is)
    (case z_bool => k_is)
    (case z_enumerate => k_is)
    (case z_int => k_is)
    (case z_isinstance => k_is)
    (case z_len => k_is)
    (case z_max => k_is)
    (case z_min => k_is)
    (case z_range => k_is)
    (case z_repr => k_is)
    (case z_set => k_is)
    (case z_sorted => k_is)
    (case z_str => k_is)
    (case z_tuple => k_is)
    (case g_is_integer => k_is)
    (case g_is_name => k_is)
    (case g_is_record => k_is)
    (case g_is_history => k_is)
    (case g_line_of => k_is)
    (case g_is_count => k_is)
    (case g_has_event_form => k_is)
    (case g_show_run => k_is)
    (case g_show_history => k_is)
    (case g_lines_of => k_is)
    (case g_number_in => k_is)
    (case g_names_in => k_is)
    (case g_event_in => k_is)
    (case g_record_in => k_is)
    (case g_all_in => k_is)
    (case g_read_run => k_is)
    (case g_read_history => k_is)
    (case g__law_jar => k_is)
    (case g__law_take => k_is)
    (case g__law_of => k_is)
    (case g__law_names => k_is)
    (case g__law_events => k_is)
    (case g__law_answer => k_is)
    (case g__law_book => k_is)
    (case g__law_lines => k_is)
    (case g__law_run_right => k_is)
    (case g__law_book_right => k_is)
    (case g_law => k_is)
    (case l_ANSWERS => k_is)
    (case l_ANSWERS_0 => k_is)
    (case l_ANSWERS_1 => k_is)
    (case l_ANSWERS_2 => k_is)
    (case l_NUMBER_EVENTS => k_is)
    (case q_is_integer => k_is)
    (case q_is_name => k_is)
    (case q_is_record => k_is)
    (case q_is_history => k_is)
    (case q_line_of => k_is)
    (case q_is_count => k_is)
    (case q_has_event_form => k_is)
    (case q_show_run => k_is)
    (case q_show_history => k_is)
    (case q_lines_of => k_is)
    (case q_number_in => k_is)
    (case q_names_in => k_is)
    (case q_event_in => k_is)
    (case q_record_in => k_is)
    (case q_all_in => k_is)
    (case q_read_run => k_is)
    (case q_read_history => k_is)
    (case q__law_jar => k_is)
    (case q__law_take => k_is)
    (case q__law_of => k_is)
    (case q__law_names => k_is)
    (case q__law_events => k_is)
    (case q__law_answer => k_is)
    (case q__law_book => k_is)
    (case q__law_lines => k_is)
    (case q__law_run_right => k_is)
    (case q__law_book_right => k_is)
    (case q_law => k_is)
    (case lit_ANSWERS => exact ⟨⟨_, _, rfl, rfl⟩, ⟨_, _, rfl, rfl⟩, ⟨_, _, rfl, rfl⟩, trivial⟩)
    (case low_ANSWERS => decide)
    (case r_is_integer => k_is)
    (case s_is_integer => k_is)
    (case r_is_name => k_is)
    (case s_is_name => k_is)
    (case r_is_record => k_is)
    (case s_is_record => k_is)
    (case r_is_history => k_is)
    (case s_is_history => k_is)
    (case r_line_of => k_is)
    (case s_line_of => k_is)
    (case r_is_count => k_is)
    (case s_is_count => k_is)
    (case r_has_event_form => k_is)
    (case s_has_event_form => k_is)
    (case r_show_run => k_is)
    (case s_show_run => k_is)
    (case r_show_history => k_is)
    (case s_show_history => k_is)
    (case r_lines_of => k_is)
    (case s_lines_of => k_is)
    (case r_number_in => k_is)
    (case s_number_in => k_is)
    (case r_names_in => k_is)
    (case s_names_in => k_is)
    (case r_event_in => k_is)
    (case s_event_in => k_is)
    (case r_record_in => k_is)
    (case s_record_in => k_is)
    (case r_all_in => k_is)
    (case s_all_in => k_is)
    (case r_read_run => k_is)
    (case s_read_run => k_is)
    (case r_read_history => k_is)
    (case s_read_history => k_is)
    (case r__law_jar => k_is)
    (case s__law_jar => k_is)
    (case r__law_take => k_is)
    (case s__law_take => k_is)
    (case r__law_of => k_is)
    (case s__law_of => k_is)
    (case r__law_names => k_is)
    (case s__law_names => k_is)
    (case r__law_events => k_is)
    (case s__law_events => k_is)
    (case r__law_answer => k_is)
    (case s__law_answer => k_is)
    (case r__law_book => k_is)
    (case s__law_book => k_is)
    (case r__law_lines => k_is)
    (case s__law_lines => k_is)
    (case r__law_run_right => k_is)
    (case s__law_run_right => k_is)
    (case r__law_book_right => k_is)
    (case s__law_book_right => k_is)
    (case r_law => k_is)
    (case s_law => k_is)
